import PyProof.Rows.All
import Wide.All
import OpenK.AllK
import Wide.FinOn
import HandS.ForMost
import HandS.ForExc
import HandS.More
import HandS.Wide
import HandS.Property
import HandS.Star
import HandS.ClsMeth
import HandS.SlotsOwn
import HandS.IsInst
import HandS.Defaults
import HandS.RaiseMore
import HandS.EndBits
import HandS.Style
import HandS.Head0
import HandS.Head1
import HandS.Head2
import HandS.HeadEnd
import HandS.HeadHook1
import HandS.HeadHook2
import HandS.HeadHook3
import HandS.HeadHook4
import HandS.HeadNt
import HandS.HeadWalk
import HandS.Walk
import HandS.Evl
import HandS.TryOnly
import KE.KOpsOwn
import HandS.EndTab
import HandS.Deep
import HandS.WideMore
import KE.KAssignIn
import HandS.Text
import PyProof.ReprBulk
import PyProof.ReprRoads
import KE.KDictWalk
import HandS.Iter
import HandS.FStr
import PyProof.FString
import PyProof.FString4
import KE.GoesEnum
import HandS.MakeKwOnly
import PyProof.GenRules
import PyProof.GenQ
import HandS.GenOver
import PyProof.GenComp
import HandS.GenList
import HandS.ExcField
import HandS.ExcIs
import KE.KExcInit
import PyProof.Draws
import HandS.NestedK
import HandS.Conv
import HandS.SetFor
import PyProof.EqKinds
import KE.KDictDisplayH
import HandS.TupLen
import KE.SortData
import KE.KDictSum
import KE.KDictCopyH
import HandS.ExcValue
import HandS.TupLe
import HandS.DictComp
import HandS.Finally
import HandS.ListItems
import HandS.DictEq
import HandS.DeepEq
import HandS.DictTup
import HandS.TupAny
import PyProof.Rows.SortShellAny
import KE.KeyNested
import HandS.TupSets
import HandS.TupMul
import HandS.SetBool
import HandS.SetTxtIn
import PyProof.FString3
import PyProof.Rows.StrIntSpec
import KE.DataMinMax
import PyProof.P3Eq
import HandS.SetKeys
import HandS.Small
import HandS.ExcOwn
import PySem.Challenge.RW_carpets_k94_kinds_of_errors
set_option Elab.async false
set_option linter.all false
set_option maxRecDepth 100000
set_option maxHeartbeats 4000000
namespace Z
open PySem PySem.Spec PyProof.Rows L2
/-! ### heaps: a frozen part F of H; what goes on -/
structure Go (ms : List Addr) (F H F' H' : Hp) : Prop where
  ff : Same F F'
  fh : Same F' H'
  mu : ∀ a o, a ∉ ms → F a = none → H a = some o → F' a = none ∧ H' a = some o
section
variable {ms ms' : List Addr} {F H F1 H1 F2 H2 : Hp} {p a : Addr} {o : HO} {K : PySem.W.Frag} {xs : List V}
theorem Go.refl (h : Same F H) : Go ms F H F H := ⟨Same.refl _, h, fun _ _ _ h1 h2 => ⟨h1, h2⟩⟩
theorem Go.trans (x : Go ms F H F1 H1) (y : Go ms F1 H1 F2 H2) : Go ms F H F2 H2 :=
  ⟨x.ff.trans y.ff, y.fh, fun a o hm h1 h2 => let ⟨a1, a2⟩ := x.mu a o hm h1 h2; y.mu a o hm a1 a2⟩
theorem Go.sub (x : Go ms F H F1 H1) (h : ∀ a ∈ ms, a ∈ ms') : Go ms' F H F1 H1 := ⟨x.ff, x.fh, fun a o hm => x.mu a o fun z => hm (h a z)⟩
theorem Go.nil (x : Go [] F H F1 H1) : Go ms F H F1 H1 := x.sub fun _ h => nomatch h
/-- a new object, frozen -/
theorem Go.new (h : Same F H) (hp : H p = none) : Go ms F H (upd F p o) (upd H p o) := by
  refine ⟨fun a u e => ?_, fun a u e => ?_, fun a u _ h1 h2 => ?_⟩
  · rw [upd_ne (ne_of_none (h a u e) hp)]; exact e
  · by_cases ha : a = p
    · subst ha; rw [upd_same] at e ⊢; exact e
    · rw [upd_ne ha] at e ⊢; exact h a u e
  · have ha := ne_of_none h2 hp
    exact ⟨by rw [upd_ne ha]; exact h1, by rw [upd_ne ha]; exact h2⟩
/-- a new object that may change -/
theorem Go.newM (h : Same F H) (hp : H p = none) : Go ms F H F (upd H p o) := by
  refine ⟨Same.refl _, fun a u e => ?_, fun a u _ h1 h2 => ⟨h1, ?_⟩⟩
  · rw [upd_ne (ne_of_none (h a u e) hp)]; exact h a u e
  · rw [upd_ne (ne_of_none h2 hp)]; exact h2
/-- a store -/
theorem Go.put (h : Same F H) (hp : F p = none) : Go [p] F H F (upd H p o) := by
  refine ⟨Same.refl _, fun a u e => ?_, fun a u hm h1 h2 => ⟨h1, ?_⟩⟩
  · rw [upd_ne (ne_of_none e hp)]; exact h a u e
  · rw [upd_ne (fun z => hm (by rw [z]; exact List.mem_cons_self))]; exact h2
/-- an object that was changed is frozen from now on -/
theorem Go.freeze (h : Same F H) (hp : F p = none) (e : H p = some o) : Go [p] F H (upd F p o) H := by
  refine ⟨fun a u z => ?_, fun a u z => ?_, fun a u hm h1 h2 => ⟨?_, h2⟩⟩
  · rw [upd_ne (ne_of_none z hp)]; exact z
  · by_cases ha : a = p
    · subst ha; rw [upd_same] at z; rw [e]; exact z
    · rw [upd_ne ha] at z; exact h a u z
  · rw [upd_ne (fun z => hm (by rw [z]; exact List.mem_cons_self))]; exact h1
theorem same_none {F H : Hp} {p : Addr} (h : Same F H) (e : H p = none) : F p = none := h.free e
/-- drop from ms what was free at the start -/
theorem Go.drop (x : Go (p :: ms) F H F1 H1) (hp : H p = none) : Go ms F H F1 H1 :=
  ⟨x.ff, x.fh, fun a o hm h1 h2 => x.mu a o (fun z => by
    rcases List.mem_cons.mp z with e | e
    · rw [e, hp] at h2; cases h2
    · exact hm e) h1 h2⟩
theorem sqT (s : Same F H) (h : SqT K F a xs) : SqT K H a xs := by
  rcases h with (h | ⟨o, h⟩) | h
  · exact .inl (.inl (s _ _ h))
  · exact .inl (.inr ⟨o, s _ _ h⟩)
  · exact .inr h
theorem sqL (s : Same F H) (h : SqL K F a xs) : SqL K H a xs := s.seq h
mutual
theorem dp_mono {F H : Hp} (s : Same F H) : ∀ (d : PyData) (v : V), Dp K F v d → Dp K H v d
  | .none, _, h => by cases h; exact .non
  | .bool b, _, h => by cases h; exact .bl b
  | .int i, _, h => by cases h; exact .int i
  | .str x, _, h => by cases h; exact .str x
  | .list ds, _, h => by
    cases h with
    | lst h1 h2 => exact .lst (sqL s h1) (dpAll_mono s ds _ h2)
  | .tuple ds, _, h => by
    cases h with
    | tup h1 h2 => exact .tup (sqT s h1) (dpAll_mono s ds _ h2)
  | .dict _, _, h => by cases h
theorem dpAll_mono {F H : Hp} (s : Same F H) : ∀ (ds : List PyData) (vs : List V), DpAll K F vs ds → DpAll K H vs ds
  | [], _, h => by cases h; exact .nil
  | d :: ds, _, h => by
    cases h with
    | cons h1 h2 => exact .cons (dp_mono s d _ h1) (dpAll_mono s ds _ h2)
end
end
/-! ### calls by positional promises -/
section
variable {X : Cx} {CX : CXT} {k : Nat} {f C p g : Addr} {sp : Sp} {E : XK} {x m : Str} {p0 pos apos : Pos} {e o a b : Expr} {es : List Expr} {ta tb : TE} {t : TA}
def tFn (sp : Sp) (E : XK) (t : TA) : TE := fun σ H Q => t σ H fun vs H1 => sp vs H1 Q E
theorem zcall (F : FnR X.prog X.w X.K X.mg X.base CX k f sp) (hr : Room k X.A) (hg : Gl X x) (hm : X.mg x = some (.ref f)) (hk : PySem.W.keepIn X.K (.ref f) = true) (hx : Passes CX X E)
    (ha : PA X (e :: es) t) (hdb : (x == ("__debug__" : Str)) = false := by decide) (he : starEach (e :: es) X.env = (false, eval e X.env) :: starEach es X.env := by rfl) (hpl : (backTo pos (starEach es X.env)).any (·.1) = false := by rfl) :
    PE X (.Call (.Name x p0) (e :: es) [] pos) (tFn sp E t) := by
  refine ⟨fun pins s σ H Q I h => ?_⟩
  refine wpAny_Call_Name_kw (ld_glob I hg hm ?_ hdb)
  refine PySem.W.callWith_K (h₀ := X.base) I.ok.mod.kin hk (thn (ha.run pos pins s σ H _ I h) fun us s1 ⟨vs, H1, I1, r, q⟩ => ⟨I1.kIn, ?_⟩) he hpl
  exact wpAny_call (run_fnR F hr hx I1 r q)
end
/-! ### floor division of great numbers, any sign -/
end Z
namespace Z
open PySem PySem.Spec PyProof.Rows L2
section
variable {X : Cx} {CX : CXT} {k : Nat} {f C p g : Addr} {sp : Sp} {E : XK} {x m : Str} {p0 pos apos : Pos} {e o a b : Expr} {es : List Expr} {ta tb : TE} {t : TA}
end
end Z
namespace Z
open PySem PySem.Spec PyProof.Rows L2
abbrev Frg := PySem.W.Frag
/-- what is asked of the written part: Bools, defs, tables with text keys, the defs whose tables of code objects are left out -/
structure Ask where
  fs : List (Frg → Bool)
  fn : List He5.DefA
  ts : List He.Tab
  tf : List (Frg → Addr)
def cdAt (K : Frg) (f : Addr) : Addr := match K.lookup f with
  | some ⟨_, _, .func fd, _⟩ => (match fd.code with
    | .ref c => c
    | _ => 0)
  | _ => 0
def tabsB (g : Addr → Option Obj) (tf : List (Frg → Addr)) (K : Frg) : Bool := tf.all fun p => PySem.W.codeHdIn K (cdAt K (p K)) (He.tabOf K (cdAt K (p K))) && (match g (He.tabOf K (cdAt K (p K))) with
  | some o => He.emptyTab o
  | none => false)
abbrev AlZ : Type := (Bool × List He.FnW) × (List (Option (List (Option (Str × Int)))) × Bool)
def obsZ (q : Ask) (K : Frg) (b : Bool) : AlZ := (((q.fs.all fun f => f K) && q.fn.all fun d => d.ok K, q.fn.map fun d => He5.fnA K (d.at_ K)), (q.ts.map fun t => He.dicW K (t.1 K), b))
def valZ (q : Ask) (w : World) : AlZ := ((true, q.fn.map He5.DefA.val), (q.ts.map fun t => some (He.keysIn w.params t.2), true))
structure Says (q : Ask) (w : World) (h : Heap) (K : Frg) : Prop where
  fact : ∀ f ∈ q.fs, f K = true
  dok : ∀ d ∈ q.fn, d.ok K = true
  dval : q.fn.map (fun d => He5.fnA K (d.at_ K)) = q.fn.map He5.DefA.val
  tval : q.ts.map (fun t => He.dicW K (t.1 K)) = q.ts.map fun t => some (He.keysIn w.params t.2)
  hd : ∀ p ∈ q.tf, PySem.W.codeHdIn K (cdAt K (p K)) (He.tabOf K (cdAt K (p K))) = true
  out : ∀ p ∈ q.tf, K.lookup (He.tabOf K (cdAt K (p K))) = none
  empty : ∀ p ∈ q.tf, h.get? (He.tabOf K (cdAt K (p K))) = some { cls := .none, data := .fields #[] }
def KZ (g : Addr → Option Obj) (n : Nat) : Frg := He.frT g (mainGlobals :: (List.range n ++ [cStatics]))
def obsG (n : Nat) (q : Ask) (g : Addr → Option Obj) : AlZ := obsZ q (KZ g n) (tabsB g q.tf (KZ g n))
theorem says_of {n : Nat} {q : Ask} {w : World} {h : Heap} (e : obsG n q h.get? = valZ q w) : Says q w h (KZ h.get? n) := by
  have e1 : ((q.fs.all fun f => f (KZ h.get? n)) && q.fn.all fun d => d.ok (KZ h.get? n)) = true := congrArg (fun z : AlZ => z.1.1) e
  have e2 : q.fn.map (fun d => He5.fnA (KZ h.get? n) (d.at_ (KZ h.get? n))) = q.fn.map He5.DefA.val := congrArg (fun z : AlZ => z.1.2) e
  have e3 : q.ts.map (fun t => He.dicW (KZ h.get? n) (t.1 (KZ h.get? n))) = q.ts.map fun t => some (He.keysIn w.params t.2) := congrArg (fun z : AlZ => z.2.1) e
  have e4 : tabsB h.get? q.tf (KZ h.get? n) = true := congrArg (fun z : AlZ => z.2.2) e
  obtain ⟨h1, h2⟩ := He.ba e1
  have key : ∀ p ∈ q.tf, PySem.W.codeHdIn (KZ h.get? n) (cdAt (KZ h.get? n) (p (KZ h.get? n))) (He.tabOf (KZ h.get? n) (cdAt (KZ h.get? n) (p (KZ h.get? n)))) = true ∧ ∃ o, h.get? (He.tabOf (KZ h.get? n) (cdAt (KZ h.get? n) (p (KZ h.get? n)))) = some o ∧ He.emptyTab o = true := fun p hp => by
    obtain ⟨h3, h4⟩ := He.ba (List.all_eq_true.mp e4 p hp)
    refine ⟨h3, ?_⟩
    cases z : h.get? (He.tabOf (KZ h.get? n) (cdAt (KZ h.get? n) (p (KZ h.get? n)))) with
    | none => rw [z] at h4; cases h4
    | some o => rw [z] at h4; exact ⟨o, rfl, h4⟩
  exact ⟨fun f hf => List.all_eq_true.mp h1 f hf, fun d hd => List.all_eq_true.mp h2 d hd, e2, e3, fun p hp => (key p hp).1, fun p hp => by
    obtain ⟨_, o, z, y⟩ := key p hp
    exact He.frT_none z y, fun p hp => by
    obtain ⟨_, o, z, y⟩ := key p hp
    rw [z, He.emptyTab_eq y]⟩
def hookZ (n : Nat) (q : Ask) : PySem.W.Hook where
  α := AlZ
  obs := fun s => obsG n q s.heap.get?
  val := fun w => valZ q w
  says := fun w h => ∃ K : Frg, K.In h ∧ Says q w h K
  of := fun _ _ e => ⟨_, He.frT_in, says_of e⟩
  keeps := fun _ _ _ ⟨K, hK, c⟩ k => ⟨K, PySem.W.Frag.In.keeps hK k, ⟨c.fact, c.dok, c.dval, c.tval, c.hd, c.out, fun p hp => k _ _ (c.empty p hp)⟩⟩
theorem obsG_eq {n : Nat} {q : Ask} {g : Addr → Option Obj} {s : Shared} (h : ∀ a, g a = s.heap.get? a) : obsG n q g = (hookZ n q).obs s := by
  have e : g = s.heap.get? := funext h
  rw [e] <;> rfl
section
variable {q : Ask} {w : World} {h : Heap} {K : Frg}
theorem Says.at (c : Says q w h K) (i : Nat) {f : Frg → Bool} (e : q.fs[i]? = some f := by rfl) : f K = true := c.fact f (List.mem_of_getElem? e)
theorem Says.df (c : Says q w h K) (i : Nat) {d : He5.DefA} (e : q.fn[i]? = some d := by rfl) : ∃ fd, L2.FunD K d.name d.qual d.params d.body d.scope (d.dvs K) (d.kws K) (d.at_ K) fd := by
  have e2 : (q.fn.map fun d => He5.fnA K (d.at_ K))[i]? = (q.fn.map He5.DefA.val)[i]? := by rw [c.dval]
  rw [List.getElem?_map, List.getElem?_map, e] at e2
  exact He5.DefA.funD (Option.some.inj e2) (c.dok d (List.mem_of_getElem? e))
theorem Says.tb (c : Says q w h K) (i : Nat) {t : He.Tab} (e : q.ts[i]? = some t := by rfl) : ∃ es n, KDict K w (t.1 K) es n := by
  have e2 : (q.ts.map fun t => He.dicW K (t.1 K))[i]? = (q.ts.map fun t => some (He.keysIn w.params t.2))[i]? := by rw [c.tval]
  rw [List.getElem?_map, List.getElem?_map, e] at e2
  exact He.dicW_ok (Option.some.inj e2)
end
/-! ### Bools and what they tell -/
def bGlo (x : Str) : Frg → Bool := fun K => (He.Fa.glo x).ok K
def bFree (x : Str) : Frg → Bool := fun K => (He.Fa.free x).ok K
def bKeep (x : Str) : Frg → Bool := fun K => (He.Fa.keep x).ok K
/-- what == and isinstance ask of an own class -/
structure Own (K : Frg) (C : Addr) : Prop where
  sf : PySem.W.selfFirst K C = true
  ne : PySem.W.findIn K (.ref C) "__ne__" = some (some (.builtin "object.__ne__"))
  ob : PySem.W.mroIn K C (.type "object") = some true
  ha : PySem.W.findIn K (.ref C) "__class__" = some (some (.builtin "object.__class__"))
  hn : PySem.W.specialIn K (.builtin "object.__class__") "__get__" = some (some (.builtin "getset_descriptor.__get__"))
  ht : PySem.W.takesIn K (.builtin "object.__class__") = some true
  ki : PySem.W.kitOne K (.ref C) (.ref C) = some true
  kb : ∀ t ∈ ["NoneType", "bool", "int", "str", "list", "tuple", "dict"], PySem.W.kitOne K (.type t) (.ref C) = some false
  kt : ∀ t ∈ ["bool", "int", "str", "list", "tuple", "dict"], PySem.W.kitOne K (.ref C) (.type t) = some false
  nf : ∀ t ∈ ["NoneType", "bool", "int", "str", "list", "tuple", "dict"], PySem.W.notFirst K C (.type t) = true
  cv : PySem.W.isClsIn K C = true
section
variable {K : Frg} {h : Heap} {mg : Str → Option Value}
theorem glo_of (X : K.In h) (G : h.Ns mainGlobals mg) {x : Str} (c : bGlo x K = true) : mg x = some (.ref (He.ga K x)) := He.glo_ok X G c
theorem free_of (X : K.In h) (G : h.Ns mainGlobals mg) {x : Str} (c : bFree x K = true) : mg x = none := He.free_ok X G c
theorem keep_of {x : Str} (c : bKeep x K = true) : PySem.W.keepIn K (.ref (He.ga K x)) = true := He.keep_ok c
end
/-! ### a def by its text -/
section
variable {P : Program} {w : World} {K : Frg} {mg : Str → Option Value} {base : Heap}
abbrev DefAt (K : Frg) (x qual : Str) (st : Stmt) (f : Addr) : Prop := ∃ fd, L2.FunD K x qual (defArgs st) (defBody st) (defScope st) [] [] f fd
theorem zfn {x qual : Str} {st : Stmt} {f : Addr} {N ps : List Str} {k : Nat} {sp : Sp} (F : DefAt K x qual st f) (S : FnScope N ps (defScope st)) (len : ∀ vs H Q E, sp vs H Q E → vs.length = ps.length)
    (hb : ∀ (kV doc pm : Value) (an : Option Addr) (cdv ct : Value) (us : List Value), us.length = ps.length → bindArgs (PySem.W.fnOf x qual (defArgs st) (defBody st) (defScope st) .none kV doc pm an cdv ct) ⟨us, []⟩ = pure (ps.zip us))
    (hbody : ∀ (cdv : Value) (A : Around) (outer : List Env) (s : Shared) (H : Hp) (vs : List V) (Q : VK) (E : XK), Room k (A.deeper (envOfC qual (defScope st) s.heap.objs.size f cdv)) → sp vs H Q E →
      ∃ t, PSs (cxOf (L2.CX P w) P w K mg base N qual (defScope st) f cdv A outer s H E) (defBody st) t ∧ t { nx := fun _ H' => Q .non H', rt := Q } (start N vs) H) : FnR P w K mg base (L2.CX P w) (k + 1) f sp := by
  obtain ⟨fd, F⟩ := F
  have B : Binds K fd ps [] := F.bindsN hb
  exact ((FunD.ok F S len hbody).raw B .nil).imp fun vs H Q E h => by rw [List.append_nil]; exact h
end
def Sp1 (P : V → Hp → VK → XK → Prop) : Sp := fun vs H Q E => ∃ a, vs = [a] ∧ P a H Q E
def Sp2 (P : V → V → Hp → VK → XK → Prop) : Sp := fun vs H Q E => ∃ a b, vs = [a, b] ∧ P a b H Q E
theorem len1 {P} : ∀ vs H Q E, Sp1 P vs H Q E → vs.length = 1 := fun _ _ _ _ ⟨_, e, _⟩ => by rw [e]; rfl
theorem len2 {P} : ∀ vs H Q E, Sp2 P vs H Q E → vs.length = 2 := fun _ _ _ _ ⟨_, _, e, _⟩ => by rw [e]; rfl
end Z
namespace Z
open PySem PySem.Spec PyProof.Rows L2
/-- a new object at p: what is behind -/
def New (H : Hp) (o : HO) (Q : Addr → Hp → Prop) : Prop := ∀ p H2, H p = none → H2 = upd H p o → Q p H2
theorem New.run {H : Hp} {o : HO} {Q : Addr → Hp → Prop} (h : New H o Q) : ∀ p, H p = none → Q p (upd H p o) := fun p hp => h p _ hp rfl
/-- a store -/
def Put (H : Hp) (p : Addr) (o : HO) (Q : Hp → Prop) : Prop := ∀ H2, H2 = upd H p o → Q H2
theorem Put.run {H : Hp} {p : Addr} {o : HO} {Q : Hp → Prop} (h : Put H p o Q) : Q (upd H p o) := h _ rfl
section
variable {ms : List Addr} {F H H2 : Hp} {p : Addr} {o : HO}
theorem newE (hs : Same F H) (hp : H p = none) (e : H2 = upd H p o) : ∃ F2, Go [] F H F2 H2 ∧ F2 p = some o ∧ H2 p = some o := ⟨upd F p o, by rw [e]; exact Go.new hs hp, upd_same, by rw [e]; exact upd_same⟩
theorem newM (hs : Same F H) (hp : H p = none) (e : H2 = upd H p o) : Go [] F H F H2 ∧ F p = none ∧ H2 p = some o := ⟨by rw [e]; exact Go.newM hs hp, same_none hs hp, by rw [e]; exact upd_same⟩
theorem putM (hs : Same F H) (hp : F p = none) (e : H2 = upd H p o) : Go [p] F H F H2 ∧ H2 p = some o := ⟨by rw [e]; exact Go.put hs hp, by rw [e]; exact upd_same⟩
end
section
variable {X : Cx} {e a b : Expr} {es : List Expr} {t t' te tb : TE} {ta : TA} {pos : Pos}
theorem pe_imp (h : PE X e t) (f : ∀ σ H Q, t' σ H Q → t σ H Q) : PE X e t' := ⟨fun pins s σ H Q I z => h.run pins s σ H Q I (f σ H Q z)⟩
def wkA (t : TA) : TA := fun σ H Q => ∃ Q0, t σ H Q0 ∧ ∀ xs H1, Q0 xs H1 → Q xs H1
theorem pa_wk (h : PA X es ta) : PA X es (wkA ta) := ⟨fun pos pins s σ H Q I ⟨Q0, z, f⟩ => thn (h.run pos pins s σ H Q0 I z) fun us s1 ⟨xs, H1, I1, r, q⟩ => ⟨xs, H1, I1, r, f xs H1 q⟩⟩
def tTupZ (t : TA) : TE := fun σ H Q => t σ H fun xs H1 => xs.length ≤ sizeLine ∧ New H1 (.tup xs) fun p H2 => Q (.ref p) H2
def tLstZ (t : TA) : TE := fun σ H Q => t σ H fun xs H1 => xs.length ≤ sizeLine ∧ New H1 (.lst xs) fun p H2 => Q (.ref p) H2
theorem pe_tupZ {x1} (h : PA X es ta) : PE X (.Tuple es x1 pos) (tTupZ ta) := pe_imp (pe_tup (pa_wk h)) fun _ _ _ z => ⟨_, z, fun _ _ q => ⟨q.1, q.2.run⟩⟩
theorem pe_lstZ (h : PA X es ta) : PE X (.List es pos) (tLstZ ta) := pe_imp (pe_lst (pa_wk h)) fun _ _ _ z => ⟨_, z, fun _ _ q => ⟨q.1, q.2.run⟩⟩
theorem op_imp {f : Value → Value → Sem Value} {r r' : R2} (h : OpR X f r) (g : ∀ x y H Q, r' x y H Q → r x y H Q) : OpR X f r' := fun pins s σ H x y v u Q I rx ry z => h pins s σ H x y v u Q I rx ry (g x y H Q z)
theorem call_imp {f : Value} {r r' : List V → Hp → VK → Prop} (h : CallR X f r) (g : ∀ xs H Q, r' xs H Q → r xs H Q) : CallR X f r' := fun pins s σ H xs us Q I rx z => h pins s σ H xs us Q I rx (g xs H Q z)
def rCatZ : R2 := fun x y H Q => ∃ l b xs zs, x = .ref l ∧ y = .ref b ∧ H l = some (.lst xs) ∧ H b = some (.lst zs) ∧ xs.length + zs.length ≤ sizeLine ∧ New H (.lst (xs ++ zs)) fun p H2 => Q (.ref p) H2
theorem op_catZ : OpR X (binaryOp .Add) rCatZ := op_imp op_cat fun _ _ _ _ ⟨l, b, xs, zs, e1, e2, h1, h2, hz, n⟩ => ⟨l, b, xs, zs, e1, e2, h1, h2, hz, n.run⟩
def rRepZ : R2 := fun x y H Q => ∃ l k xs, x = .ref l ∧ y = .int k ∧ H l = some (.lst xs) ∧ -(2 ^ 63) ≤ k ∧ k < 2 ^ 63 ∧ xs.length * k.toNat ≤ sizeLine ∧ New H (.lst (List.replicate k.toNat xs).flatten) fun p H2 => Q (.ref p) H2
def rListZ (K : Frg) : List V → Hp → VK → Prop := fun xs H Q => ∃ p ys, xs = [.ref p] ∧ (SqL K H p ys ∨ SqT K H p ys) ∧ New H (.lst ys) fun l H2 => Q (.ref l) H2
theorem call_listZ : CallR X (.type "list") (rListZ X.K) := call_imp call_list_of fun _ _ _ ⟨p, ys, e, h, n⟩ => ⟨p, ys, e, h, n.run⟩
def rSlLZ (K : Frg) : V → Option Int → Option Int → Hp → VK → Prop := fun x lo hi H Q => ∃ a xs, x = .ref a ∧ SqL K H a xs ∧ New H (.lst (cutV xs lo hi)) fun p H2 => Q (.ref p) H2
theorem sl_listZ : L2.SlR X (rSlLZ X.K) := fun pins s σ H x v vl vu lo hi sl Q I rx hs pl pu ⟨a, xs, e, h, n⟩ => sl_list pins s σ H x v vl vu lo hi sl Q I rx hs pl pu ⟨a, xs, e, h, n.run⟩
def rSetLZ : TSet := fun o i v H Q => ∃ p xs k j, o = .ref p ∧ i = .int k ∧ H p = some (.lst xs) ∧ ixN xs.length k = some j ∧ Put H p (.lst (xs.set j v)) Q
theorem set_listZ : PSet X rSetLZ := fun pins s σ H o i v ov iv vv Q I ro ri rv ⟨p, xs, k, j, e1, e2, h, hj, n⟩ => set_list pins s σ H o i v ov iv vv Q I ro ri rv ⟨p, xs, k, j, e1, e2, h, hj, n.run⟩
end
/-- a statement and what follows, with a word between them -/
def tCutZ (t u : TS) : TS := fun D σ H => ∃ Mid : L2.St → Hp → Prop, t { D with nx := Mid } σ H ∧ ∀ σ' H', Mid σ' H' → u D σ' H'
theorem zcut {X : Cx} {st : Stmt} {rest : List Stmt} {t u : TS} (h1 : PS X st t) (h2 : PSs X rest u) : PSs X (st :: rest) (tCutZ t u) := by
  have w : PS X st (fun D σ H => ∃ Mid : L2.St → Hp → Prop, t { D with nx := Mid } σ H ∧ ∀ σ' H', Mid σ' H' → D.nx σ' H') := ⟨fun pins s σ H D I ⟨Mid, z, f⟩ => thn (h1.run pins s σ H _ I z) fun fl s' q => by
    cases fl with
    | next => obtain ⟨σ', H', I', q'⟩ := q; exact ⟨σ', H', I', f _ _ q'⟩
    | brk => exact q
    | cont => exact q
    | ret v => exact q⟩
  exact ⟨fun pins s σ H D I ⟨Mid, z, f⟩ => (pss_cons w h2).run pins s σ H D I ⟨Mid, z, f⟩⟩
theorem lenOk {α : Type} {xs : List α} (h : Nat.ble xs.length 1000 = true) : xs.length ≤ sizeLine := Nat.le_trans (Nat.le_of_ble_eq_true h) (by decide)
end Z
namespace Z
open PySem PySem.Spec PyProof.Rows L2
/-- the reading of a comprehension behind its source -/
def LcR (J : It) (g : TG) (tt : TT) (te : TE) (vs : List Nat) (σ : L2.St) (H1 : Hp) (Q : VK) : Prop := ∀ D, H1 D = none → ∃ W : Nat → Nat → Hp → Prop, (∃ m, W 0 m (upd H1 D (.lst []))) ∧ ∀ i m H, W i m H →
  (J.stop i H ∧ Q (.ref D) H) ∨ (J.go i H ∧ ∃ Nx : Hp → Prop, (∀ H', Nx H' → ∃ m', m' < m ∧ W (i + 1) m' H') ∧ ∀ x H', J.yld i H x H' → g x (wipe σ vs) H' fun σ2 H2 => wipe σ2 vs = wipe σ vs ∧ tt σ2 H2 fun b H3 =>
    if b = true then te σ2 H3 fun y H4 => ∃ acc, H4 D = some (.lst acc) ∧ acc.length < sizeLine ∧ Nx (upd H4 D (.lst (acc ++ [y]))) else Nx H3)
def tLcZ (wi : TI) (g : TG) (tt : TT) (te : TE) (vs : List Nat) : TE := fun σ H Q => wi σ H fun J H1 => LcR J g tt te vs σ H1 Q
theorem pe_lcZ {X : Cx} {e : Expr} {wi : TI} {g : TG} {tt : TT} {te : TE} {vs : List Nat} (h : PE X e (tLc wi g tt te vs)) : PE X e (tLcZ wi g tt te vs) := h
/-- a comprehension, by what holds of the items made so far -/
theorem lc_go {J : It} {n : Nat} {G : Hp → Prop} {Y : Nat → Hp → V → Hp → Prop} (w : Walk J n G Y) {g : TG} {tt : TT} {te : TE} {vs : List Nat} {σ : L2.St} {F H : Hp} {ms : List Addr} {Q : VK} (hs : Same F H) (hm : ∀ a ∈ ms, H a ≠ none) (M : Hp → Hp → Prop) (m0 : M F H)
    (mst : ∀ D F1 H1 F2 H2, H D = none → M F1 H1 → Go [D] F1 H1 F2 H2 → M F2 H2) (hG : ∀ F1 H1, Go ms F H F1 H1 → M F1 H1 → G H1) (I : Nat → List V → Hp → Prop) (i0 : I 0 [] F) (im : ∀ i acc F1 F2, Same F1 F2 → I i acc F1 → I i acc F2) (hn : n ≤ 100000)
    (turn : ∀ i x acc F1 H1 H1', i < n → acc.length ≤ i → I i acc F1 → Go ms F H F1 H1 → M F1 H1 → Y i H1 x H1' → ∀ (Kp : V → Hp → Prop) (Sk : Hp → Prop), (∀ y F2 H2, Go ms F1 H1 F2 H2 → M F2 H2 → I (i + 1) (acc ++ [y]) F2 → Kp y H2) →
      (∀ F2 H2, Go ms F1 H1 F2 H2 → M F2 H2 → I (i + 1) acc F2 → Sk H2) → g x (wipe σ vs) H1' fun σ2 H2 => wipe σ2 vs = wipe σ vs ∧ tt σ2 H2 fun b H3 => if b = true then te σ2 H3 Kp else Sk H3)
    (fin : ∀ D ys F' H', Go ms F H F' H' → M F' H' → F' D = some (.lst ys) → ys.length ≤ n → I n ys F' → Q (.ref D) H') :
    LcR J g tt te vs σ H Q := by
  intro D hD
  have hsz : (100000 : Nat) < sizeLine := by decide
  have dm : D ∉ ms := fun z => hm D z hD
  have st : ∀ {F2 H2 : Hp} {acc : List V}, Go ms F H F2 H2 → M F2 H2 → F2 D = none → ∀ o, Go ms F H F2 (upd H2 D o) ∧ M F2 (upd H2 D o) := fun {F2 H2 acc} gg m fd o => by
    have p : Go [D] F2 H2 F2 (upd H2 D o) := Go.put gg.fh fd
    have p2 : Go (D :: ms) F2 H2 F2 (upd H2 D o) := p.sub fun a ha => by
      rcases List.mem_cons.mp ha with e | e
      · rw [e]; exact List.mem_cons_self
      · cases e
    have g2 : Go (D :: ms) F H F2 H2 := gg.sub fun a ha => List.mem_cons_of_mem _ ha
    exact ⟨(g2.trans p2).drop hD, mst D _ _ _ _ hD m p⟩
  refine lc_it w (fun i H' => ∃ F' acc, Go ms F H F' H' ∧ M F' H' ∧ F' D = none ∧ H' D = some (.lst acc) ∧ acc.length ≤ i ∧ I i acc F') ?_ (fun i H' _ ⟨F', acc, g1, m1, _⟩ => hG F' H' g1 m1) ?_ ?_
  · have fd := same_none hs hD
    obtain ⟨a, b⟩ := st (acc := []) (Go.refl hs) m0 fd (.lst [])
    exact ⟨F, [], a, b, fd, upd_same, Nat.le_refl _, i0⟩
  · rintro i x H1 H1' hi ⟨F1, acc, g1, m1, fd, hd, hl, hI⟩ hy
    refine turn i x acc F1 H1 H1' hi hl hI g1 m1 hy _ _ (fun y F2 H2 g2 m2 I2 => ?_) fun F2 H2 g2 m2 I2 => ?_
    · have key : F2 D = none ∧ H2 D = some (.lst acc) := g2.mu D _ dm fd hd
      obtain ⟨a, b⟩ := st (acc := acc) (g1.trans g2) m2 key.1 (.lst (acc ++ [y]))
      refine ⟨acc, key.2, by omega, F2, acc ++ [y], a, b, key.1, upd_same, ?_, I2⟩
      rw [List.length_append]
      show acc.length + 1 ≤ i + 1
      omega
    · have key : F2 D = none ∧ H2 D = some (.lst acc) := g2.mu D _ dm fd hd
      exact ⟨F2, acc, g1.trans g2, m2, key.1, key.2, by omega, I2⟩
  · rintro H' ⟨F', acc, g1, m1, fd, hd, hl, hI⟩
    have fz : Go [D] F' H' (upd F' D (.lst acc)) H' := Go.freeze g1.fh fd hd
    have g2 : Go (D :: ms) F H (upd F' D (.lst acc)) H' := (g1.sub fun a ha => List.mem_cons_of_mem _ ha).trans (fz.sub fun a ha => by
      rcases List.mem_cons.mp ha with e | e
      · rw [e]; exact List.mem_cons_self
      · cases e)
    exact fin D acc _ H' (g2.drop hD) (mst D _ _ _ _ hD m1 fz) upd_same hl (im _ _ _ _ fz.ff hI)
theorem cx_no {P : World → Program} (w : World) (H : Hp) (s : Shared) (e : Value) (s' : Shared) (h : L2.CX (P w) w [] H s (fun _ _ _ => False) e s') : False := by
  obtain ⟨_, _, _, _, _, _, _, _, _, _, _, _, z⟩ := h
  exact z
end Z
namespace Z
open PySem PySem.Spec PyProof.Rows L2
/-! ### what is_integer, is_place tell -/
end Z
namespace MN
/-- the place of the cell -/
def low (a b c x y : Int) : Int × Int := ((x - y / c * b) % a, y - y / c * c)
/-- a shift of the net -/
def InN (a b c x y : Int) : Prop := ∃ m k : Int, x = m * a + k * b ∧ y = k * c
theorem inN_add {a b c x y x' y' : Int} (h : InN a b c x y) (h' : InN a b c x' y') : InN a b c (x + x') (y + y') := by
  obtain ⟨m, k, h1, h2⟩ := h
  obtain ⟨m', k', h3, h4⟩ := h'
  exact ⟨m + m', k + k', by grind, by grind⟩
theorem inN_neg {a b c x y : Int} (h : InN a b c x y) : InN a b c (-x) (-y) := by
  obtain ⟨m, k, h1, h2⟩ := h
  exact ⟨-m, -k, by grind, by grind⟩
theorem inN_sub {a b c x y x' y' : Int} (h : InN a b c x y) (h' : InN a b c x' y') : InN a b c (x - x') (y - y') := by
  obtain ⟨m, k, h1, h2⟩ := h
  obtain ⟨m', k', h3, h4⟩ := h'
  exact ⟨m - m', k - k', by grind, by grind⟩
theorem inN_zero {a b c : Int} : InN a b c 0 0 := ⟨0, 0, by grind, by grind⟩
theorem low_in (a b c x y : Int) : InN a b c (x - (low a b c x y).1) (y - (low a b c x y).2) := by
  refine ⟨(x - y / c * b) / a, y / c, ?_, ?_⟩
  · show x - (x - y / c * b) % a = _
    have := Int.emod_add_mul_ediv (x - y / c * b) a
    grind
  · show y - (y - y / c * c) = _
    grind
theorem low_rng {a b c x y : Int} (ha : 0 < a) (hc : 0 < c) : 0 ≤ (low a b c x y).1 ∧ (low a b c x y).1 < a ∧ 0 ≤ (low a b c x y).2 ∧ (low a b c x y).2 < c := by
  have h1 := Int.emod_nonneg (x - y / c * b) (show a ≠ 0 by omega)
  have h2 := Int.emod_lt_of_pos (x - y / c * b) ha
  have h3 := Int.emod_nonneg y (show c ≠ 0 by omega)
  have h4 := Int.emod_lt_of_pos y hc
  have h5 := Int.emod_add_mul_ediv y c
  have e : y - y / c * c = y % c := by grind
  refine ⟨h1, h2, ?_, ?_⟩
  · show 0 ≤ y - y / c * c
    omega
  · show y - y / c * c < c
    omega
/-- within the cell only (0, 0) belongs to the net -/
theorem in_cell {a b c x y : Int} (ha : 0 < a) (hc : 0 < c) (h : InN a b c x y) (hx : -a < x ∧ x < a) (hy : -c < y ∧ y < c) : x = 0 ∧ y = 0 := by
  obtain ⟨m, k, h1, h2⟩ := h
  have hk : k = 0 := by
    rcases Int.lt_trichotomy k 0 with z | z | z
    · have : k * c ≤ -1 * c := Int.mul_le_mul_of_nonneg_right (by omega) (by omega)
      omega
    · exact z
    · have : 1 * c ≤ k * c := Int.mul_le_mul_of_nonneg_right (by omega) (by omega)
      omega
  subst hk
  have hm : m = 0 := by
    rcases Int.lt_trichotomy m 0 with z | z | z
    · have : m * a ≤ -1 * a := Int.mul_le_mul_of_nonneg_right (by omega) (by omega)
      omega
    · exact z
    · have : 1 * a ≤ m * a := Int.mul_le_mul_of_nonneg_right (by omega) (by omega)
      omega
  subst hm
  exact ⟨by omega, by omega⟩
/-- two places have the same place of the cell exactly if they differ by a shift -/
theorem low_eq {a b c x y x' y' : Int} (ha : 0 < a) (hc : 0 < c) : low a b c x y = low a b c x' y' ↔ InN a b c (x - x') (y - y') := by
  have h1 := low_in a b c x y
  have h2 := low_in a b c x' y'
  have r1 := low_rng (b := b) (x := x) (y := y) ha hc
  have r2 := low_rng (b := b) (x := x') (y := y') ha hc
  constructor
  · intro e
    rw [e] at h1
    have := inN_sub h1 h2
    have e1 : x - (low a b c x' y').1 - (x' - (low a b c x' y').1) = x - x' := by omega
    have e2 : y - (low a b c x' y').2 - (y' - (low a b c x' y').2) = y - y' := by omega
    rw [e1, e2] at this
    exact this
  · intro h
    have h3 := inN_sub (inN_sub h h1) (inN_neg h2)
    have e1 : x - x' - (x - (low a b c x y).1) - -(x' - (low a b c x' y').1) = (low a b c x y).1 - (low a b c x' y').1 := by omega
    have e2 : y - y' - (y - (low a b c x y).2) - -(y' - (low a b c x' y').2) = (low a b c x y).2 - (low a b c x' y').2 := by omega
    rw [e1, e2] at h3
    obtain ⟨z1, z2⟩ := in_cell ha hc h3 (by omega) (by omega)
    exact Prod.ext (by omega) (by omega)
theorem low_self {a b c x y : Int} (hx : 0 ≤ x ∧ x < a) (hy : 0 ≤ y ∧ y < c) : low a b c x y = (x, y) := by
  have h : y / c = 0 := Int.ediv_eq_zero_of_lt hy.1 hy.2
  unfold low
  rw [h]
  have : (x - 0 * b) % a = x := by rw [show x - 0 * b = x by omega]; exact Int.emod_eq_of_lt hx.1 hx.2
  rw [this]
  simp
/-! ### the order of a shift -/
end MN
namespace Z
open PySem PySem.Spec PyProof.Rows L2
/-! ### sizes -/
def Sz (n : Nat) (x : Int) : Prop := x.natAbs < 2 ^ n
theorem Sz.mono {a b : Nat} {x : Int} (h : Sz a x) (hl : a ≤ b) : Sz b x := Nat.lt_of_lt_of_le h (Nat.pow_le_pow_right (by decide) hl)
theorem sz_le {a : Nat} {x y : Int} (h0 : 0 ≤ x) (h1 : x ≤ y) (h : Sz a y) : Sz a x := Nat.lt_of_le_of_lt (by omega) h
theorem mulOk {x y : Int} (h : Sz 5000 x) (h' : Sz 5000 y) : CMulW x y := wide_mul h h' (by decide) (by decide) (by decide)
/-! ### tuples of ints compared -/
section
variable {K : Frg} {H : Hp} {p q : Addr} {a b c d e f : Int} {Q : VK}
end
/-! ### nets -/
def netF (q : Addr) : List (Str × V) := [("own_numbers", .ref q)]
structure NetIs (C : Addr) (F : Hp) (x : Addr) (a b c : Int) : Prop where
  at_ : ∃ dx q, F x = some (.ins C dx (netF q)) ∧ F q = some (.tup [.int a, .int b, .int c])
  hc : 1 ≤ c
  hb : 0 ≤ b
  ba : b < a
  sa : Sz 1000 a
  sc : Sz 1000 c
theorem NetIs.mono {C : Addr} {F H : Hp} {x : Addr} {a b c : Int} (n : NetIs C F x a b c) (s : Same F H) : NetIs C H x a b c := by
  obtain ⟨⟨dx, q, h1, h2⟩, r1, r2, r3, r4, r5⟩ := n
  exact ⟨⟨dx, q, s _ _ h1, s _ _ h2⟩, r1, r2, r3, r4, r5⟩
theorem NetIs.sb {C : Addr} {F : Hp} {x : Addr} {a b c : Int} (n : NetIs C F x a b c) : Sz 1000 b := sz_le n.hb (Int.le_of_lt n.ba) n.sa
theorem NetIs.ha {C : Addr} {F : Hp} {x : Addr} {a b c : Int} (n : NetIs C F x a b c) : 0 < a := by have := n.hb; have := n.ba; omega
end Z
namespace Z
open PySem PySem.Spec PyProof.Rows L2
/-- the tape: a list that changes -/
def TapeV (K : Frg) (F : Hp) (xs : List V) : Prop := ∃ (c : Addr) (ns : List Int) (i b r : Int), xs = [.ref c, .int i, .int b, .int r] ∧ SqL K F c (ns.map V.int) ∧ 0 ≤ i ∧ 0 ≤ b ∧ 0 ≤ r ∧ r < 2147483647
structure Tape (K : Frg) (F H : Hp) (t : Addr) : Prop where
  fr : F t = none
  at_ : ∃ xs, H t = some (.lst xs) ∧ TapeV K F xs
theorem Tape.go {K : Frg} {F H F' H' : Hp} {t : Addr} {ms : List Addr} (x : Tape K F H t) (g : Go ms F H F' H') (hm : t ∉ ms) : Tape K F' H' t := by
  obtain ⟨h1, xs, h2, c, ns, i, b, r, e, h3, h4⟩ := x
  obtain ⟨a1, a2⟩ := g.mu t _ hm h1 h2
  exact ⟨a1, xs, a2, c, ns, i, b, r, e, sqL g.ff h3, h4⟩
theorem Tape.go0 {K : Frg} {F H F' H' : Hp} {t : Addr} (x : Tape K F H t) (g : Go [] F H F' H') : Tape K F' H' t := x.go g (by simp)
theorem Tape.ne {K : Frg} {F H : Hp} {t : Addr} (x : Tape K F H t) : H t ≠ none := by
  obtain ⟨_, xs, h, _⟩ := x
  rw [h]
  exact fun z => nomatch z
def spDraw (K : Frg) : Sp := Sp2 fun a b H Q _ => ∃ F t many, a = .ref t ∧ b = .int many ∧ Same F H ∧ Tape K F H t ∧ 0 < many ∧ many.natAbs.log2 < 9000 ∧
  ∀ d H', 0 ≤ d → d < many → Go [t] F H F H' → Tape K F H' t → Q (.int d) H'
def spTape (K : Frg) : Sp := Sp1 fun a H Q _ => ∃ (F : Hp) (s : Addr) (ns : List Int), a = .ref s ∧ Same F H ∧ SqL K F s (ns.map V.int) ∧ ∀ t F' H', Go [] F H F' H' → Tape K F' H' t → Q (.ref t) H'
theorem sz_lit {n : Nat} {x : Int} (h : Nat.blt x.natAbs (2 ^ n) = true) : Sz n x := Nat.le_of_ble_eq_true h
theorem szLog {x : Int} (h : Sz 8000 x) : x.natAbs.log2 < 9000 := Nat.lt_of_lt_of_le (PySem.Flt.log2_lt_of (by decide) h) (by decide)
theorem cut_ints (ns : List Int) (lo hi : Option Int) : ∃ ms : List Int, cutV (ns.map V.int) lo hi = ms.map V.int := by
  unfold cutV
  rw [← List.map_drop, ← List.map_take]
  exact ⟨_, rfl⟩
end Z
namespace Z
open PySem PySem.Spec PyProof.Rows L2
/-! ### room, with nothing being shown above -/
structure RoomG (k : Nat) (A : Around) : Prop where
  rm : Room k A
  gd : A.guards = some []
theorem RoomG.mono {j k : Nat} {A : Around} (r : RoomG k A) (h : j ≤ k) : RoomG j A := ⟨r.rm.mono h, r.gd⟩
theorem RoomG.deeper {k : Nat} {A : Around} (r : RoomG (k + 1) A) (env : Env) : RoomG k (A.deeper env) := ⟨r.rm.deeper env, r.gd⟩
theorem guards_make {A : Around} {C : Addr} {us : List Value} : (A.under (.builtin "type.__call__" ⟨.ref C :: us, []⟩)).guards = A.guards := by
  show pushGuards (Code.guards (.builtin "type.__call__" ⟨.ref C :: us, []⟩)) A.guards = A.guards
  have e : Code.guards (.builtin "type.__call__" ⟨.ref C :: us, []⟩) = [] := by
    unfold Code.guards
    first | rfl | decide +kernel | simp
  rw [e]
  cases A.guards <;> rfl
theorem RoomG.make {k : Nat} {A : Around} (r : RoomG (k + 1) A) (C : Addr) (us : List Value) : RoomG k (A.under (.builtin "type.__call__" ⟨.ref C :: us, []⟩)) := ⟨r.rm.make C us [], by rw [guards_make]; exact r.gd⟩
theorem RoomG.units {k : Nat} {A : Around} (r : RoomG k A) : A.units + 64 < cLine := r.rm.units
/-- a def, called where nothing is being shown -/
def FnG (P : Program) (w : World) (K : Frg) (mg : Str → Option Value) (base : Heap) (CX : CXT) (k : Nat) (f : Addr) (sp : Sp) : Prop :=
  ∀ (A : Around) (outer : List Env) (s : Shared) (H : Hp) (us : List Value) (vs : List V) (Q : VK) (E : XK), RoomG k A → Env0 P w K mg base A outer s H → Vals vs us → sp vs H Q E → codeAny (model P w) A (.call (.ref f) ⟨us, []⟩) (CR CX outer P w H s Q E) s
/-- .. at one such place -/
def FnA (A : Around) (P : Program) (w : World) (K : Frg) (mg : Str → Option Value) (base : Heap) (CX : CXT) (f : Addr) (sp : Sp) : Prop :=
  ∀ (outer : List Env) (s : Shared) (H : Hp) (us : List Value) (vs : List V) (Q : VK) (E : XK), Env0 P w K mg base A outer s H → Vals vs us → sp vs H Q E → codeAny (model P w) A (.call (.ref f) ⟨us, []⟩) (CR CX outer P w H s Q E) s
section
variable {P : Program} {w : World} {K : Frg} {mg : Str → Option Value} {base : Heap} {CX : CXT} {k : Nat} {f : Addr} {sp sp' : Sp} {A : Around}
theorem FnG.at (F : FnG P w K mg base CX k f sp) (hr : RoomG k A) : FnA A P w K mg base CX f sp := fun outer s H us vs Q E => F A outer s H us vs Q E hr
theorem FnG.of (F : FnR P w K mg base CX k f sp) : FnG P w K mg base CX k f sp := fun A outer s H us vs Q E hr => F A outer s H us vs Q E hr.rm
theorem FnG.imp (F : FnG P w K mg base CX k f sp) (h : ∀ vs H Q E, sp' vs H Q E → sp vs H Q E) : FnG P w K mg base CX k f sp' := fun A outer s H us vs Q E hr e0 r hs => F A outer s H us vs Q E hr e0 r (h _ _ _ _ hs)
end
section
variable {X : Cx} {CX : CXT} {k : Nat} {f C p g : Addr} {sp : Sp} {E : XK} {x m : Str} {p0 pos apos : Pos} {e o a b : Expr} {es : List Expr} {ta tb : TE} {t : TA} {pins : List (Addr × Obj)} {σ : L2.St} {H : Hp} {s : Shared}
theorem run_A {A : Around} {Q : VK} {us : List Value} {vs : List V} (F : FnA A X.prog X.w X.K X.mg X.base CX f sp) (e0 : Env0 X.prog X.w X.K X.mg X.base A X.stack s H) (hx : Passes CX X E) (I : L2.Inv X pins σ H s) (r : Vals vs us) (h : sp vs H Q E) :
    codeAny (model X.prog X.w) A (.call (.ref f) ⟨us, []⟩) (fun r s' => match r with | .ok (.ret v) => EP X pins σ Q v s' | .ok _ => False | .error e => X.xe e s') s :=
  codeAny_mono (F X.stack s H us vs Q E e0 r h) fun q s' hq => match q, hq with
    | .error er, hq => hx pins σ H s er s' I hq
    | .ok (.ret _), hq => I.after hq
    | .ok .next, hq => False.elim hq
    | .ok .brk, hq => False.elim hq
    | .ok .cont, hq => False.elim hq
theorem run_fnA {Q : VK} {us : List Value} {vs : List V} (F : FnA X.A X.prog X.w X.K X.mg X.base CX f sp) (hx : Passes CX X E) (I : L2.Inv X pins σ H s) (r : Vals vs us) (h : sp vs H Q E) :
    codeAny (model X.prog X.w) X.A (.call (.ref f) ⟨us, []⟩) (fun r s' => match r with | .ok (.ret v) => EP X pins σ Q v s' | .ok _ => False | .error e => X.xe e s') s := run_A F I.env0 hx I r h
theorem gcall (F : FnA X.A X.prog X.w X.K X.mg X.base CX f sp) (hg : Gl X x) (hm : X.mg x = some (.ref f)) (hk : PySem.W.keepIn X.K (.ref f) = true) (hx : Passes CX X E)
    (ha : PA X (e :: es) t) (hdb : (x == ("__debug__" : Str)) = false := by decide) (he : starEach (e :: es) X.env = (false, eval e X.env) :: starEach es X.env := by rfl) (hpl : (backTo pos (starEach es X.env)).any (·.1) = false := by rfl) :
    PE X (.Call (.Name x p0) (e :: es) [] pos) (tFn sp E t) := by
  refine ⟨fun pins s σ H Q I h => ?_⟩
  refine wpAny_Call_Name_kw (ld_glob I hg hm ?_ hdb)
  refine PySem.W.callWith_K (h₀ := X.base) I.ok.mod.kin hk (thn (ha.run pos pins s σ H _ I h) fun us s1 ⟨vs, H1, I1, r, q⟩ => ⟨I1.kIn, ?_⟩) he hpl
  exact wpAny_call (run_fnA F hx I1 r q)
end
end Z
namespace Z
open PySem PySem.Spec PyProof.Rows L2
section
variable {P : Program} {w : World} {K : Frg} {mg : Str → Option Value} {base : Heap}
/-- a def by its text, where nothing is being shown -/
theorem zfnG {x qual : Str} {st : Stmt} {f : Addr} {N ps : List Str} {k : Nat} {sp : Sp} (F : DefAt K x qual st f) (S : FnScope N ps (defScope st)) (len : ∀ vs H Q E, sp vs H Q E → vs.length = ps.length)
    (hb : ∀ (kV doc pm : Value) (an : Option Addr) (cdv ct : Value) (us : List Value), us.length = ps.length → bindArgs (PySem.W.fnOf x qual (defArgs st) (defBody st) (defScope st) .none kV doc pm an cdv ct) ⟨us, []⟩ = pure (ps.zip us))
    (hbody : ∀ (cdv : Value) (A : Around) (outer : List Env) (s : Shared) (H : Hp) (vs : List V) (Q : VK) (E : XK), RoomG k (A.deeper (envOfC qual (defScope st) s.heap.objs.size f cdv)) → sp vs H Q E →
      ∃ t, PSs (cxOf (L2.CX P w) P w K mg base N qual (defScope st) f cdv A outer s H E) (defBody st) t ∧ t { nx := fun _ H' => Q .non H', rt := Q } (start N vs) H) : FnG P w K mg base (L2.CX P w) (k + 1) f sp := by
  obtain ⟨fd, F⟩ := F
  obtain ⟨oc, od, dV, kV, doc, pm, an, cdv, ct, osl, rfl, lk, hcd, hD, hK⟩ := F.ex
  have hD' : dV = .none := by
    rcases hD with ⟨_, z⟩ | ⟨z, _⟩
    · exact z
    · exact absurd rfl z
  subst hD'
  intro A outer s H us vs Q E hr e0 r hs
  have hl := len _ _ _ _ hs
  have hu : us.length = ps.length := r.length.symm.trans hl
  refine StX.run_bnd lk hcd S hr.rm e0 (G := fun xs H2 => xs = vs ∧ H2 = H) (fun A' Ex Q' h => ?_) fun s2 H2 xs g hr' => ?_
  · rw [hb kV doc pm an cdv ct us hu]
    exact wpAny_pure (h s H vs us e0 .refl rfl (fun _ _ z => z) r hl ⟨rfl, rfl⟩)
  · obtain ⟨rfl, rfl⟩ := g
    exact hbody cdv A outer s2 H2 xs Q E ⟨hr', hr.gd⟩ hs
/-- a def by its text, its code object told -/
theorem zfnGC {x qual : Str} {st : Stmt} {f : Addr} {N ps : List Str} {k : Nat} {sp : Sp} (F : DefAt K x qual st f) (S : FnScope N ps (defScope st)) (len : ∀ vs H Q E, sp vs H Q E → vs.length = ps.length)
    (hb : ∀ (kV doc pm : Value) (an : Option Addr) (cdv ct : Value) (us : List Value), us.length = ps.length → bindArgs (PySem.W.fnOf x qual (defArgs st) (defBody st) (defScope st) .none kV doc pm an cdv ct) ⟨us, []⟩ = pure (ps.zip us))
    (hbody : ∀ (cdv : Value), cdv = .ref (cdAt K f) → ∀ (A : Around) (outer : List Env) (s : Shared) (H : Hp) (vs : List V) (Q : VK) (E : XK), RoomG k (A.deeper (envOfC qual (defScope st) s.heap.objs.size f cdv)) → sp vs H Q E →
      ∃ t, PSs (cxOf (L2.CX P w) P w K mg base N qual (defScope st) f cdv A outer s H E) (defBody st) t ∧ t { nx := fun _ H' => Q .non H', rt := Q } (L2.start N vs) H) : FnG P w K mg base (L2.CX P w) (k + 1) f sp := by
  obtain ⟨fd, F⟩ := F
  obtain ⟨oc, od, dV, kV, doc, pm, an, cdv, ct, osl, rfl, lk, hcd, hD, hK⟩ := F.ex
  have hD' : dV = .none := by
    rcases hD with ⟨_, z⟩ | ⟨z, _⟩
    · exact z
    · exact absurd rfl z
  subst hD'
  have ecd : cdv = .ref (cdAt K f) := by
    have h := hcd
    unfold PySem.W.codeIn at h
    split at h
    · unfold cdAt
      rw [lk]
    · cases h
  intro A outer s H us vs Q E hr e0 r hs
  have hl := len _ _ _ _ hs
  have hu : us.length = ps.length := r.length.symm.trans hl
  refine StX.run_bnd lk hcd S hr.rm e0 (G := fun xs H2 => xs = vs ∧ H2 = H) (fun A' Ex Q' h => ?_) fun s2 H2 xs g hr' => ?_
  · rw [hb kV doc pm an cdv ct us hu]
    exact wpAny_pure (h s H vs us e0 .refl rfl (fun _ _ z => z) r hl ⟨rfl, rfl⟩)
  · obtain ⟨rfl, rfl⟩ := g
    exact hbody cdv ecd A outer s2 H2 xs Q E ⟨hr', hr.gd⟩ hs
end
section
variable {P : Program} {w : World} {K : Frg} {mg : Str → Option Value} {base : Heap}
/-! ### the end -/
/-- what is tracked where the law begins: the tables ts and the script (if it is not the module's) -/
def atLaw (K : Frg) (ts : List Addr) (a : Addr) (o : Obj) (xs : List V) : Hp := fun b =>
  if b ∈ ts then some (.tbl #[]) else if b = a then (match K.lookup a with | none => some (.frz o (.lst xs)) | some _ => none) else none
theorem atLaw_inv {ts : List Addr} {a b : Addr} {o : Obj} {xs : List V} {u : HO} (h : atLaw K ts a o xs b = some u) : (b ∈ ts ∧ u = .tbl #[]) ∨ (b ∉ ts ∧ b = a ∧ K.lookup a = none ∧ u = .frz o (.lst xs)) := by
  unfold atLaw at h
  split at h
  · rename_i m
    cases h
    exact .inl ⟨m, rfl⟩
  · rename_i m
    split at h
    · rename_i e
      split at h
      · rename_i n
        cases h
        exact .inr ⟨m, e, n, rfl⟩
      · cases h
    · cases h
theorem atLaw_t {ts : List Addr} {a b : Addr} {o : Obj} {xs : List V} (h : b ∈ ts) : atLaw K ts a o xs b = some (.tbl #[]) := if_pos h
theorem law_run {mb : Str → Option Value} {CX : CXT} {k : Nat} {fa a : Addr} {cs : List (Addr × Addr)} {sp : Sp} {s₁ : Shared} {vs : List Value} {ns : List Int}
    (KX : K.In s₁.heap) (hns : s₁.heap.Ns mainGlobals mg) (hb : s₁.heap.Ns builtinsNs mb) (hbb : ∀ x : Str, x ≠ "__name__" → mb x = bootBuiltins x) (hlim : s₁.heap.NoLimit) (hg : s₁.gens = #[])
    (hT : ∀ p ∈ cs, s₁.heap.get? p.2 = some { cls := .none, data := .fields #[] }) (nT : ∀ p ∈ cs, K.lookup p.2 = none) (C : ∀ p ∈ cs, PySem.W.CodeHd s₁.heap p.1 p.2)
    (hbm : ∃ (bm : Addr) (ob : Obj), mg "__builtins__" = some (.ref bm) ∧ bm ≠ builtinsNs ∧ s₁.heap.get? bm = some ob ∧ ob.cls = .type "module" ∧ ob.dict = some builtinsNs ∧ ob.data = .plain)
    (ha : s₁.heap.get? a = some { cls := .type "list", data := .seq vs.toArray }) (hi : IntsAre vs ns) (hl : ns.length ≤ sizeLine) (hr : RoomG k callerA)
    (F : ∀ base : Heap, K.In base → base.Ns mainGlobals mg → (∀ p ∈ cs, LamX.TabB base mg p.1 p.2) → FnG P w K mg base CX k fa sp)
    (hsp : ∀ H : Hp, (∀ p ∈ cs, H p.2 = some (.tbl #[])) → SqL K H a (ns.map V.int) → sp [.ref a] H (fun v _ => v = .bl true) fun _ _ _ => False)
    (hCX : ∀ H e s', CX [] H s₁ (fun _ _ _ => False) e s' → False) :
    codeAny (model P w) callerA (.call (.ref fa) ⟨[.ref a], []⟩) (fun r s' => r = .ok (.ret (.bool true)) ∧ OldK s₁.heap s'.heap ∧ s'.os = s₁.os ∧ AllBare s'.gens) s₁ := by
  have rv := vals_ints hi
  let ts := cs.map (·.2)
  let o1 : Obj := { cls := .type "list", data := .seq vs.toArray }
  let H0 : Hp := atLaw K ts a o1 (ns.map V.int)
  have inT : ∀ p ∈ cs, p.2 ∈ ts := fun p hp => List.mem_map.mpr ⟨p, hp, rfl⟩
  have ofT : ∀ b ∈ ts, ∃ p ∈ cs, p.2 = b := fun b m => List.mem_map.mp m
  have getT : ∀ b ∈ ts, s₁.heap.get? b = some { cls := .none, data := .fields #[] } := fun b m => by
    obtain ⟨p, hp, rfl⟩ := ofT b m
    exact hT p hp
  have aT : a ∉ ts := fun m => by
    have q := (getT a m).symm.trans ha
    cases q
  -- an object that is neither a list nor an empty table is not tracked
  have un0 : ∀ {b : Addr} {o : Obj}, s₁.heap.get? b = some o → (∀ ws n, o.data ≠ .seq ws n) → o.data ≠ .fields #[] → H0 b = none := fun {b o} e n1 n2 => by
    match q : H0 b with
    | none => rfl
    | some u =>
      rcases atLaw_inv q with ⟨m, _⟩ | ⟨_, rfl, _⟩
      · have e' := (getT b m).symm.trans e
        cases e'
        exact absurd rfl n2
      · have e' := ha.symm.trans e
        cases e'
        exact absurd rfl (n1 _ _)
  have see : ∀ {b : Addr} {o : Obj}, s₁.heap.get? b = some o → H0 b = none → (hidT s₁.heap H0).get? b = some o := fun e n => hidT_get e n
  have seeN : ∀ {b : Addr} {m : Str → Option Value}, s₁.heap.Ns b m → (hidT s₁.heap H0).Ns b m := fun {b m} ⟨o, es, ep, e, hd, r⟩ => by
    refine ⟨o, es, ep, see e (un0 e (fun ws n z => ?_) fun z => ?_), hd, r⟩
    · exact nomatch hd.symm.trans z
    · exact nomatch hd.symm.trans z
  have KB : K.In (hidT s₁.heap H0) := fun b o e => by
    refine see (KX b o e) ?_
    match q : H0 b with
    | none => rfl
    | some u =>
      rcases atLaw_inv q with ⟨m, _⟩ | ⟨_, rfl, z, _⟩
      · obtain ⟨p, hp, rfl⟩ := ofT b m
        exact nomatch (nT p hp).symm.trans e
      · exact nomatch z.symm.trans e
  have M0 : L2.Mod K mg (hidT s₁.heap H0) := by
    obtain ⟨mc, l1, l2⟩ := hlim
    exact ⟨KB, seeN hns, ⟨mb, seeN hb, hbb⟩, mc, seeN l1, l2⟩
  have tabs : ∀ p ∈ cs, LamX.TabB (hidT s₁.heap H0) mg p.1 p.2 := fun p hp => by
    refine ⟨?_, ?_, fun z => ?_⟩
    · obtain ⟨o, us, file, tf, flags, tg, inF, text, tt, e1, r1, r2, r3, rr⟩ := C p hp
      refine ⟨o, us, file, tf, flags, tg, inF, text, tt, see e1 (un0 e1 (fun ws n z => nomatch r2.symm.trans z) fun z => ?_), r1, r2, r3, rr⟩
      have q := r2.symm.trans z
      cases q
      simp at r3
    · obtain ⟨bm, ob, b1, b2, b3, b4, b5, b6⟩ := hbm
      refine ⟨bm, ob, b1, b2, fun q => ?_, fun q => ?_, see b3 (un0 b3 (fun ws n z => nomatch b6.symm.trans z) fun z => nomatch b6.symm.trans z), b4, b5, b6⟩
      · obtain ⟨o, es, ep, e, hd, _⟩ := hns
        subst q
        have q := b3.symm.trans e
        cases q
        exact nomatch b6.symm.trans hd
      · subst q
        have q := b3.symm.trans (hT p hp)
        cases q
        cases b6
    · obtain ⟨o, es, ep, e, hd, _⟩ := hns
      rw [z] at e
      have q := (hT p hp).symm.trans e
      cases q
      cases hd
  have ok0 : HOk P w H0 s₁.heap := fun b u q => by
    rcases atLaw_inv q with ⟨m, rfl⟩ | ⟨_, rfl, _, rfl⟩
    · exact getT b m
    · exact ⟨ha, by rw [List.length_map]; exact hl, vs, _, rv, ha⟩
  have sq : SqL K H0 a (ns.map V.int) := by
    match hk : K.lookup a with
    | none =>
      refine .inl (.inr ⟨o1, ?_⟩)
      show atLaw K ts a o1 (ns.map V.int) a = _
      unfold atLaw
      rw [if_neg aT, if_pos rfl, hk]
    | some o =>
      have e := (KX a o hk).symm.trans ha
      cases e
      exact .inr ⟨_, vs.toArray, _, hk, rfl, rfl, rfl, by rw [List.size_toArray, hi.length]; exact hl, by simpa using rv⟩
  have e0 : Env0 P w K mg (hidT s₁.heap H0) callerA [] s₁ H0 :=
    { frames := rfl, mod := M0, bs := fun b o e => of_hidT e, bsz := Nat.le_of_eq (hidT_size _ _), funs := trivial, frf := fun b m => (List.not_mem_nil m).elim, hok := ok0, bare := .of_eq hg }
  refine codeAny_mono (F _ KB (seeN hns) tabs callerA [] s₁ H0 [.ref a] [.ref a] _ _ hr e0 (.cons rfl .nil) (hsp H0 (fun p hp => atLaw_t (inT p hp)) sq)) fun r s' h => ?_
  match r, h with
  | .error e, h => exact (hCX H0 e s' h).elim
  | .ok .next, h => exact False.elim h
  | .ok .brk, h => exact False.elim h
  | .ok .cont, h => exact False.elim h
  | .ok (.ret u), ⟨v, H2, os, bare, un, ok2, rr, q⟩ =>
    have ev : v = .bl true := q
    subst ev
    have eu : u = Value.bool true := rr
    subst eu
    have rest : ∀ b o, b ∉ ts → s₁.heap.get? b = some o → s'.heap.get? b = some o := fun b o nb e => by
      match z : H0 b with
      | none => exact un.keep b o e z (fun m => (List.not_mem_nil m).elim) (fun m => (List.not_mem_nil m).elim)
      | some u =>
        rcases atLaw_inv z with ⟨m, _⟩ | ⟨_, _, _, rfl⟩
        · exact absurd m nb
        · have e1 := (ok0 b _ z).1
          have e2 := (ok2 b _ (un.frzs b _ _ z)).1
          exact e2.trans (e1.symm.trans e)
    have grew : ∀ b ∈ ts, ∃ more : Array Value, s'.heap.get? b = some { cls := .none, data := .fields more } := fun b m => by
      obtain ⟨more, z⟩ := un.tbls b #[] (atLaw_t m)
      exact ⟨_, ok2 b _ z⟩
    refine ⟨rfl, ⟨fun b o e => ?_, fun b o e => ?_⟩, os, bare⟩
    · by_cases m : b ∈ ts
      · obtain ⟨p, hp, rfl⟩ := ofT b m
        obtain ⟨more, hm⟩ := grew _ m
        have q := (hT p hp).symm.trans e
        cases q
        exact .inr (.inl ⟨((C p hp).tab (hT p hp)).isCodeTable, rfl, #[], more, rfl, by rw [Array.empty_append]; exact hm⟩)
      · exact .inl (rest b o m e)
    · by_cases m : b ∈ ts
      · obtain ⟨more, hm⟩ := grew b m
        exact ⟨_, hm⟩
      · exact ⟨o, rest b o m e⟩
end
/-- what a law's def keeps -/
def LawG (l : PySem.W.OpenLaw) (w : World) (K : Frg) (CX : CXT) (k n : Nat) (mg : Str → Option Value) (fa : Addr) (h : Heap) : Prop :=
  ∃ (cs : List (Addr × Addr)) (sp : Sp), (∀ p ∈ cs, h.get? p.2 = some { cls := .none, data := .fields #[] }) ∧ (∀ p ∈ cs, K.lookup p.2 = none) ∧ (∀ p ∈ cs, PySem.W.CodeHd h p.1 p.2) ∧
    (∀ (H : Hp) (a : Addr) (ns : List Int), ns.length ≤ n → (∀ p ∈ cs, H p.2 = some (.tbl #[])) → SqL K H a (ns.map V.int) → sp [.ref a] H (fun v _ => v = .bl true) fun _ _ _ => False) ∧
    ∀ base : Heap, K.In base → base.Ns mainGlobals mg → (∀ p ∈ cs, LamX.TabB base mg p.1 p.2) → FnG l.prog w K mg base CX k fa sp
theorem walk_G {l : PySem.W.OpenLaw} {n k : Nat} {q : Program} {loose : List Str} {XP : (Str → Option Value) → Heap → Prop} {YP : World → Heap → Prop} {d : DefRec} {CX : World → CXT}
    (hn : l.most = some n) (hn2 : n ≤ sizeLine) (hdf : d.params.defaults = []) (hr : Room k callerA)
    (F : ∀ (w : World) (mg : Str → Option Value) (fa : Addr) (h : Heap), YP w h → h.Ns mainGlobals mg → mg d.name = some (.ref fa) → ∃ K : Frg, K.In h ∧ LawG l w K (CX w) k n mg fa h)
    (hCX : ∀ (w : World) (H : Hp) (s : Shared) (e : Value) (s' : Shared), CX w [] H s (fun _ _ _ => False) e s' → False) :
    PySem.W.WalkO q loose XP YP l.row.toRowW d [] (fun f vs => PySem.call f vs) :=
  Att.attach_callB hn hdf fun w s₀ s₁ mg mb fa o pm cd doc a vs ns G Y ho hd hcd hmg hobj hints hlen hbits hg => by
    obtain ⟨K, KX, cs, sp, t1, t2, t3, t4, t5⟩ := F w mg fa _ Y G.T.g hmg
    exact law_run KX G.T.g G.T.b G.T.builtins G.T.nolimit hg t1 t2 t3 G.T.bmain hobj hints (Nat.le_trans hlen hn2) ⟨hr, rfl⟩ t5 (fun H h1 h2 => t4 H a ns hlen h1 h2) fun H e s' => hCX w H s₁ e s'
end Z
namespace Z
open PySem PySem.Spec PyProof.Rows L2 HandSHeadRun PySem.W PySem.Calls
end Z
namespace Y
open PySem PySem.Spec PyProof.Rows L2 Z
/-! ### plain data, and the values that bear it in a frozen heap -/
inductive D where
  | non | bl (b : Bool) | int (i : Int) | str (s : Str) | lst (ds : List D) | tup (ds : List D) | obj (c : Str) (ns : List Str) (ds : List D) | ty (n : String) | glob (x : Str) | tape | fn (a : Addr) | dic (ks : List Key) (ds : List D) | dpl (ks : List (List Int)) (ds : List D)
/-! ### the tables of the code objects of defs that make lambdas -/
def lamNames : List Str := ["law", "overlay", "enlarged", "sampled", "layered", "masked", "uncovered", "_law_net_right", "_law_triples_right", "_law_shifts_right", "_law_rows_right", "_law_fixed_right", "_law_refusals_right", "_law_errors_right", "_law_far_right", "_law_round_right", "_law_apart", "_law_stepped", "_law_acted"]
def isFnB : Option Obj → Bool
  | some ⟨_, _, .func _, _⟩ => true
  | _ => false
def tabN (K : Frg) (x : Str) : Addr := He.tabOf K (cdAt K (He.ga K x))
def lamQ (x : Str) : Str := (x ++ ".<locals>.") ++ "<lambda>"
def tabsOf (K : Frg) : List (Addr × Str) := (lamNames.filter fun x => isFnB (K.lookup (He.ga K x))).map fun x => (tabN K x, lamQ x)
def tabA (K : Frg) : List Addr := (tabsOf K).map (·.1)
/-! ### dicts whose keys are tuples of ints -/
def tupI (k : List Int) : Int := reduceHash (Builtin.Tuple.tupleHashOf (k.map hashInt))
def entI (x : List Int × Addr × Value) : DictEntry := ⟨tupI x.1, .ref x.2.1, x.2.2⟩
def dxO (a : Addr) (es : Array DictEntry) (ep : Nat) : HO := .ext fun h => ∃ o, h.get? a = some o ∧ o.ExactDict ∧ o.data = .dict es ep
/-- the entries of such a dict -/
inductive DKs (K : Frg) (F : Hp) : List (List Int) → List (List Int × Addr × Value) → List V → Prop
  | nil : DKs K F [] [] []
  | cons {k : List Int} {b : Addr} {u : Value} {v : V} {ks : List (List Int)} {xs : List (List Int × Addr × Value)} {vs : List V} : SqT K F b (k.map V.int) → RelV v u → DKs K F ks xs vs → DKs K F (k :: ks) ((k, b, u) :: xs) (v :: vs)
theorem DKs.up {K : Frg} {F F' : Hp} {ks : List (List Int)} {xs : List (List Int × Addr × Value)} {vs : List V} (h : DKs K F ks xs vs) (s : Same F F') : DKs K F' ks xs vs := by
  induction h with
  | nil => exact .nil
  | cons h1 h2 _ ih => exact .cons (sqT s h1) h2 ih
mutual
inductive Rp (K : Frg) (ms : List Addr) (F : Hp) : V → D → Prop
  | non : Rp K ms F .non .non
  | bl (b : Bool) : Rp K ms F (.bl b) (.bl b)
  | int (i : Int) : Rp K ms F (.int i) (.int i)
  | str (s : Str) : Rp K ms F (.str s) (.str s)
  | ty (n : String) : Rp K ms F (.ty n) (.ty n)
  | glob (x : Str) : Rp K ms F (.ref (He.ga K x)) (.glob x)
  | tape {t : Addr} : t ∈ ms → t ∉ tabA K → Rp K ms F (.ref t) .tape
  | fn (a : Addr) : Rp K ms F (.ref a) (.fn a)
  | lst {a : Addr} {vs : List V} {ds : List D} : F a = some (.lst vs) → Rps K ms F vs ds → Rp K ms F (.ref a) (.lst ds)
  | tup {a : Addr} {vs : List V} {ds : List D} : SqT K F a vs → Rps K ms F vs ds → Rp K ms F (.ref a) (.tup ds)
  | obj {a dx : Addr} {c : Str} {ns : List Str} {vs : List V} {ds : List D} : F a = some (.ins (He.ga K c) dx (ns.zip vs)) → ns.length = vs.length → Rps K ms F vs ds → Rp K ms F (.ref a) (.obj c ns ds)
  | dic {a : Addr} {o : Obj} {ks : List Key} {vs : List V} {ds : List D} : F a = some (.frz o (.dK (ks.zip vs))) → ks.length = vs.length → Rps K ms F vs ds → Rp K ms F (.ref a) (.dic ks ds)
  | dpl {a : Addr} {es : Array DictEntry} {ep : Nat} {ks : List (List Int)} {xs : List (List Int × Addr × Value)} {vs : List V} {ds : List D} : F a = some (dxO a es ep) → (a == sysModules) = false → ks.length ≤ 100000 → es.toList = xs.map entI → (xs.map (·.1)).Nodup → DKs K F ks xs vs → Rps K ms F vs ds → Rp K ms F (.ref a) (.dpl ks ds)
inductive Rps (K : Frg) (ms : List Addr) (F : Hp) : List V → List D → Prop
  | nil : Rps K ms F [] []
  | cons {v : V} {d : D} {vs : List V} {ds : List D} : Rp K ms F v d → Rps K ms F vs ds → Rps K ms F (v :: vs) (d :: ds)
end
section
variable {K : Frg} {ms : List Addr} {F F' H : Hp}
mutual
theorem Rp.mono (s : Same F F') : ∀ (d : D) (v : V), Rp K ms F v d → Rp K ms F' v d
  | .non, _, h => by cases h; exact .non
  | .bl b, _, h => by cases h; exact .bl b
  | .int i, _, h => by cases h; exact .int i
  | .str x, _, h => by cases h; exact .str x
  | .ty x, _, h => by cases h; exact .ty x
  | .glob x, _, h => by cases h; exact .glob x
  | .tape, _, h => by cases h with | tape m n => exact .tape m n
  | .fn a, _, h => by cases h; exact .fn a
  | .lst ds, _, h => by cases h with | lst h1 h2 => exact .lst (s _ _ h1) (Rps.mono s ds _ h2)
  | .tup ds, _, h => by cases h with | tup h1 h2 => exact .tup (sqT s h1) (Rps.mono s ds _ h2)
  | .obj c ns ds, _, h => by cases h with | obj h1 h2 h3 => exact .obj (s _ _ h1) h2 (Rps.mono s ds _ h3)
  | .dic ks ds, _, h => by cases h with | dic h1 h2 h3 => exact .dic (s _ _ h1) h2 (Rps.mono s ds _ h3)
  | .dpl ks ds, _, h => by cases h with | dpl h1 h2 h3 h4 h5 h6 h7 => exact .dpl (s _ _ h1) h2 h3 h4 h5 (h6.up s) (Rps.mono s ds _ h7)
theorem Rps.mono (s : Same F F') : ∀ (ds : List D) (vs : List V), Rps K ms F vs ds → Rps K ms F' vs ds
  | [], _, h => by cases h; exact .nil
  | d :: ds, _, h => by cases h with | cons h1 h2 => exact .cons (Rp.mono s d _ h1) (Rps.mono s ds _ h2)
end
theorem Rp.up {v : V} {d : D} (h : Rp K ms F v d) (s : Same F F') : Rp K ms F' v d := Rp.mono s d v h
theorem Rps.up {v : List V} {d : List D} (h : Rps K ms F v d) (s : Same F F') : Rps K ms F' v d := Rps.mono s d v h
theorem Rps.len : ∀ {vs : List V} {ds : List D}, Rps K ms F vs ds → vs.length = ds.length
  | [], [], _ => rfl
  | _ :: _, _ :: _, h => by
    cases h with
    | cons _ h => simp only [List.length_cons]; rw [Rps.len h]
  | [], _ :: _, h => by cases h
  | _ :: _, [], h => by cases h
theorem Rps.app : ∀ {vs ws : List V} {ds es : List D}, Rps K ms F vs ds → Rps K ms F ws es → Rps K ms F (vs ++ ws) (ds ++ es)
  | [], _, [], _, _, h => h
  | _ :: _, _, _ :: _, _, h, h' => by
    cases h with
    | cons h1 h2 => exact .cons h1 (Rps.app h2 h')
  | [], _, _ :: _, _, h, _ => by cases h
  | _ :: _, _, [], _, h, _ => by cases h
theorem Rps.get : ∀ {vs : List V} {ds : List D} {i : Nat} {d : D}, Rps K ms F vs ds → ds[i]? = some d → ∃ v, vs[i]? = some v ∧ Rp K ms F v d
  | [], [], _, _, _, e => by simp at e
  | v :: _, _ :: _, 0, _, h, e => by
    cases h with
    | cons h1 _ => simp at e; subst e; exact ⟨v, rfl, h1⟩
  | _ :: vs, _ :: ds, i + 1, d, h, e => by
    cases h with
    | cons _ h2 =>
      obtain ⟨v, h3, h4⟩ := Rps.get (i := i) h2 (by simpa using e)
      exact ⟨v, by simpa using h3, h4⟩
  | [], _ :: _, _, _, h, _ => by cases h
  | _ :: _, [], _, _, h, _ => by cases h
theorem Rps.getV : ∀ {vs : List V} {ds : List D} {i : Nat} {v : V}, Rps K ms F vs ds → vs[i]? = some v → ∃ d, ds[i]? = some d ∧ Rp K ms F v d := fun {vs ds i v} h e => by
  have hi : i < vs.length := by
    rcases Nat.lt_or_ge i vs.length with z | z
    · exact z
    · rw [List.getElem?_eq_none z] at e; cases e
  have hd : i < ds.length := by rw [← h.len]; exact hi
  obtain ⟨w, h1, h2⟩ := h.get (i := i) (d := ds[i]) (List.getElem?_eq_getElem hd)
  rw [e] at h1
  cases h1
  exact ⟨_, List.getElem?_eq_getElem hd, h2⟩
theorem Rps.take : ∀ {vs : List V} {ds : List D} (n : Nat), Rps K ms F vs ds → Rps K ms F (vs.take n) (ds.take n)
  | _, _, 0, _ => .nil
  | [], [], _ + 1, _ => .nil
  | _ :: _, _ :: _, n + 1, h => by
    cases h with
    | cons h1 h2 => exact .cons h1 (Rps.take n h2)
  | [], _ :: _, _ + 1, h => by cases h
  | _ :: _, [], _ + 1, h => by cases h
theorem Rps.drop : ∀ {vs : List V} {ds : List D} (n : Nat), Rps K ms F vs ds → Rps K ms F (vs.drop n) (ds.drop n)
  | _, _, 0, h => h
  | [], [], _ + 1, _ => .nil
  | _ :: _, _ :: _, n + 1, h => by
    cases h with
    | cons h1 h2 => exact Rps.drop n h2
  | [], _ :: _, _ + 1, h => by cases h
  | _ :: _, [], _ + 1, h => by cases h
theorem Rps.flat {vs : List V} {ds : List D} (h : Rps K ms F vs ds) : ∀ n : Nat, Rps K ms F (List.replicate n vs).flatten (List.replicate n ds).flatten
  | 0 => .nil
  | n + 1 => by
    rw [List.replicate_succ, List.replicate_succ, List.flatten_cons, List.flatten_cons]
    exact h.app (Rps.flat h n)
theorem Rps.one {v : V} {d : D} (h : Rp K ms F v d) : Rps K ms F [v] [d] := .cons h .nil
theorem Rps.two {v w : V} {d e : D} (h : Rp K ms F v d) (h' : Rp K ms F w e) : Rps K ms F [v, w] [d, e] := .cons h (.cons h' .nil)
theorem Rps.ints : ∀ {vs : List V} {is : List Int}, Rps K ms F vs (is.map D.int) → vs = is.map V.int
  | [], [], _ => rfl
  | _ :: _, _ :: _, h => by
    cases h with
    | cons h1 h2 => cases h1; rw [Rps.ints h2]; rfl
  | [], _ :: _, h => by cases h
  | _ :: _, [], h => by cases h
end
/-! ### as data of the library -/
mutual
def pd : D → Option PyData
  | .non => some .none
  | .bl b => some (.bool b)
  | .int i => some (.int i)
  | .str s => some (.str s)
  | .lst ds => (pds ds).map PyData.list
  | .tup ds => (pds ds).map PyData.tuple
  | .obj _ _ _ => none
  | .ty _ => none
  | .glob _ => none
  | .tape => none
  | .fn _ => none
  | .dic _ _ => none
  | .dpl _ _ => none
def pds : List D → Option (List PyData)
  | [] => some []
  | d :: ds => match pd d, pds ds with
    | some a, some b => some (a :: b)
    | _, _ => none
end
mutual
/-- == of plain data -/
def eqD : D → D → Bool
  | .non, .non => true
  | .bl a, .bl b => a == b
  | .bl a, .int j => (if a then 1 else 0) == j
  | .int i, .bl b => i == (if b then 1 else 0)
  | .int i, .int j => i == j
  | .str x, .str y => x == y
  | .lst xs, .lst ys => eqDs xs ys
  | .tup xs, .tup ys => eqDs xs ys
  | _, _ => false
def eqDs : List D → List D → Bool
  | [], [] => true
  | x :: xs, y :: ys => eqD x y && eqDs xs ys
  | _, _ => false
end
/-- data of at most so many layers, with texts of real signs -/
def okD : Nat → D → Bool
  | _, .non | _, .bl _ | _, .int _ => true
  | _, .str s => PyData.strOk s
  | n + 1, .lst ds => ds.all (okD n)
  | n + 1, .tup ds => ds.all (okD n)
  | _, _ => false
theorem okD_pd : ∀ (n : Nat) (d : D), okD n d = true → ∃ e, pd d = some e ∧ e.canLay0 = true ∧ e.depth ≤ n := by
  have key : ∀ (n : Nat) (P : D → Prop), (∀ d, okD n d = true → ∃ e, pd d = some e ∧ e.canLay0 = true ∧ e.depth ≤ n) → ∀ ds : List D, ds.all (okD n) = true → ∃ es, pds ds = some es ∧ PyData.canLayAll0 es = true ∧ PyData.depthAll es ≤ n := by
    intro n P ih ds
    induction ds with
    | nil => intro _; exact ⟨[], rfl, rfl, Nat.zero_le _⟩
    | cons d ds ih2 =>
      intro h
      rw [List.all_cons, Bool.and_eq_true] at h
      obtain ⟨e, h1, h2, h3⟩ := ih d h.1
      obtain ⟨es, h4, h5, h6⟩ := ih2 h.2
      refine ⟨e :: es, by simp [pds, h1, h4], by simp [PyData.canLayAll0, h2, h5], ?_⟩
      simp only [PyData.depthAll]
      omega
  intro n
  induction n with
  | zero =>
    intro d h
    cases d with
    | non => exact ⟨_, rfl, rfl, Nat.le_refl _⟩
    | bl b => exact ⟨_, rfl, rfl, Nat.le_refl _⟩
    | int i => exact ⟨_, rfl, rfl, Nat.le_refl _⟩
    | str s => exact ⟨_, rfl, by simpa [okD, PyData.canLay0] using h, Nat.le_refl _⟩
    | _ => simp [okD] at h
  | succ n ih =>
    intro d h
    cases d with
    | non => exact ⟨_, rfl, rfl, by simp [PyData.depth]⟩
    | bl b => exact ⟨_, rfl, rfl, by simp [PyData.depth]⟩
    | int i => exact ⟨_, rfl, rfl, by simp [PyData.depth]⟩
    | str s => exact ⟨_, rfl, by simpa [okD, PyData.canLay0] using h, by simp [PyData.depth]⟩
    | lst ds =>
      simp only [okD] at h
      obtain ⟨es, h1, h2, h3⟩ := key n (fun _ => True) ih ds h
      exact ⟨.list es, by simp [pd, h1], by simpa [PyData.canLay0] using h2, by simp only [PyData.depth]; omega⟩
    | tup ds =>
      simp only [okD] at h
      obtain ⟨es, h1, h2, h3⟩ := key n (fun _ => True) ih ds h
      exact ⟨.tuple es, by simp [pd, h1], by simpa [PyData.canLay0] using h2, by simp only [PyData.depth]; omega⟩
    | _ => simp [okD] at h
theorem pds_cons {x : D} {xs : List D} {as : List PyData} (h : pds (x :: xs) = some as) : ∃ a r, pd x = some a ∧ pds xs = some r ∧ as = a :: r := by
  unfold pds at h
  split at h
  · rename_i a r h1 h2
    cases h
    exact ⟨a, r, h1, h2, rfl⟩
  · cases h
mutual
theorem eqD_pd : ∀ (x y : D) (a b : PyData), pd x = some a → pd y = some b → eqD x y = PyData.eqv a b
  | .non, y, a, b, h1, h2 => by
    cases h1
    cases y <;> simp [pd] at h2 <;> first | (subst h2; simp [eqD, PyData.eqv]) | (obtain ⟨_, _, rfl⟩ := h2; simp [eqD, PyData.eqv])
  | .bl c, y, a, b, h1, h2 => by
    cases h1
    cases y <;> simp [pd] at h2 <;> first | (subst h2; simp [eqD, PyData.eqv]) | (obtain ⟨_, _, rfl⟩ := h2; simp [eqD, PyData.eqv])
  | .int c, y, a, b, h1, h2 => by
    cases h1
    cases y <;> simp [pd] at h2 <;> first | (subst h2; simp [eqD, PyData.eqv]) | (obtain ⟨_, _, rfl⟩ := h2; simp [eqD, PyData.eqv])
  | .str c, y, a, b, h1, h2 => by
    cases h1
    cases y <;> simp [pd] at h2 <;> first | (subst h2; simp [eqD, PyData.eqv]) | (obtain ⟨_, _, rfl⟩ := h2; simp [eqD, PyData.eqv])
  | .lst xs, y, a, b, h1, h2 => by
    simp [pd] at h1
    obtain ⟨as, h1, rfl⟩ := h1
    cases y with
    | lst ys =>
      simp [pd] at h2
      obtain ⟨bs, h2, rfl⟩ := h2
      simp only [eqD, PyData.eqv]
      exact eqDs_pd xs ys as bs h1 h2
    | _ => simp [pd] at h2 <;> first | (subst h2; simp [eqD, PyData.eqv]) | (obtain ⟨_, _, rfl⟩ := h2; simp [eqD, PyData.eqv])
  | .tup xs, y, a, b, h1, h2 => by
    simp [pd] at h1
    obtain ⟨as, h1, rfl⟩ := h1
    cases y with
    | tup ys =>
      simp [pd] at h2
      obtain ⟨bs, h2, rfl⟩ := h2
      simp only [eqD, PyData.eqv]
      exact eqDs_pd xs ys as bs h1 h2
    | _ => simp [pd] at h2 <;> first | (subst h2; simp [eqD, PyData.eqv]) | (obtain ⟨_, _, rfl⟩ := h2; simp [eqD, PyData.eqv])
  | .obj _ _ _, _, _, _, h1, _ => by simp [pd] at h1
  | .ty _, _, _, _, h1, _ => by simp [pd] at h1
  | .glob _, _, _, _, h1, _ => by simp [pd] at h1
  | .tape, _, _, _, h1, _ => by simp [pd] at h1
  | .fn _, _, _, _, h1, _ => by simp [pd] at h1
  | .dic _ _, _, _, _, h1, _ => by simp [pd] at h1
  | .dpl _ _, _, _, _, h1, _ => by simp [pd] at h1
theorem eqDs_pd : ∀ (xs ys : List D) (as bs : List PyData), pds xs = some as → pds ys = some bs → eqDs xs ys = PyData.eqvAll as bs
  | [], [], _, _, h1, h2 => by cases h1; cases h2; simp [eqDs, PyData.eqvAll]
  | [], _ :: _, _, _, h1, h2 => by
    cases h1
    obtain ⟨_, _, _, _, rfl⟩ := pds_cons h2
    simp [eqDs, PyData.eqvAll]
  | _ :: _, [], _, _, h1, h2 => by
    cases h2
    obtain ⟨_, _, _, _, rfl⟩ := pds_cons h1
    simp [eqDs, PyData.eqvAll]
  | x :: xs, y :: ys, _, _, h1, h2 => by
    obtain ⟨a, r, p1, p2, rfl⟩ := pds_cons h1
    obtain ⟨b, t, q1, q2, rfl⟩ := pds_cons h2
    simp only [eqDs, PyData.eqvAll]
    rw [eqD_pd x y a b p1 q1, eqDs_pd xs ys r t p2 q2]
end
section
variable {K : Frg} {ms : List Addr} {F : Hp}
mutual
theorem dp_of : ∀ (d : D) (v : V) (e : PyData), pd d = some e → Rp K ms F v d → Dp K F v e
  | .non, _, _, h, r => by cases h; cases r; exact .non
  | .bl b, _, _, h, r => by cases h; cases r; exact .bl b
  | .int i, _, _, h, r => by cases h; cases r; exact .int i
  | .str x, _, _, h, r => by cases h; cases r; exact .str x
  | .lst ds, _, _, h, r => by
    simp [pd] at h
    obtain ⟨es, h, rfl⟩ := h
    cases r with
    | lst h1 h2 => exact .lst (SqL.of h1) (dps_of ds _ es h h2)
  | .tup ds, _, _, h, r => by
    simp [pd] at h
    obtain ⟨es, h, rfl⟩ := h
    cases r with
    | tup h1 h2 => exact .tup h1 (dps_of ds _ es h h2)
  | .obj _ _ _, _, _, h, _ => by simp [pd] at h
  | .ty _, _, _, h, _ => by simp [pd] at h
  | .glob _, _, _, h, _ => by simp [pd] at h
  | .tape, _, _, h, _ => by simp [pd] at h
  | .fn _, _, _, h, _ => by simp [pd] at h
  | .dic _ _, _, _, h, _ => by simp [pd] at h
  | .dpl _ _, _, _, h, _ => by simp [pd] at h
theorem dps_of : ∀ (ds : List D) (vs : List V) (es : List PyData), pds ds = some es → Rps K ms F vs ds → DpAll K F vs es
  | [], _, _, h, r => by cases h; cases r; exact .nil
  | d :: ds, _, _, h, r => by
    obtain ⟨a, t, h1, h2, rfl⟩ := pds_cons h
    cases r with
    | cons r1 r2 => exact .cons (dp_of d _ a h1 r1) (dps_of ds _ t h2 r2)
end
end
end Y
namespace Y
open PySem PySem.Spec PyProof.Rows L2 Z
/-- an error: its class (.glob or .ty), the names of its fields, their values -/
structure Ex where
  c : D
  ns : List Str
  ds : List D
def clsV (K : Frg) : D → Option Value
  | .glob x => some (.ref (He.ga K x))
  | .ty n => some (.type n)
  | _ => none
def XR (K : Frg) (ms : List Addr) (F : Hp) (cls : Value) (d : Option Addr) (x : Ex) : Prop :=
  clsV K x.c = some cls ∧ (x.ns ≠ [] ∨ d ≠ none → ∃ a vs, d = some a ∧ F a = some (.xd (x.ns.zip vs)) ∧ x.ns.length = vs.length ∧ Rps K ms F vs x.ds)
/-- a thing that only one slot holds: a list that grows, an instance that is being made -/
inductive Mo where
  | lst (ds : List D) | ins (x : Addr) (c : Str) (ns : List Str) (ds : List D) | dct (kvs : List (List Int × D)) | exc (x : Ex) | dk (kds : List (Key × D)) | dt (w : World) (kds : List (List Key × D))
/-- a slot: not known, a plain value, a thing that only this slot holds -/
inductive Sl where
  | no | val (d : D) | mu (m : Mo)
inductive DRl (K : Frg) (ms : List Addr) (F : Hp) : List (List Int × D) → List (List Int × Addr × Value) → Prop
  | nil : DRl K ms F [] []
  | cons {k : List Int} {b : Addr} {u : Value} {v : V} {d : D} {kvs : List (List Int × D)} {xs : List (List Int × Addr × Value)} : SqT K F b (k.map V.int) → RelV v u → Rp K ms F v d → DRl K ms F kvs xs → DRl K ms F ((k, d) :: kvs) ((k, b, u) :: xs)
theorem DRl.up {K : Frg} {ms : List Addr} {F F' : Hp} {kvs : List (List Int × D)} {xs : List (List Int × Addr × Value)} (h : DRl K ms F kvs xs) (s : Same F F') : DRl K ms F' kvs xs := by
  induction h with
  | nil => exact .nil
  | cons h1 h2 h3 _ ih => exact .cons (sqT s h1) h2 (h3.up s) ih
/-- dicts whose keys are tuples of numbers and texts -/
inductive DRk (K : Frg) (ms : List Addr) (F : Hp) : List (List Key × D) → List (List Key × Addr × Value) → Prop
  | nil : DRk K ms F [] []
  | cons {k : List Key} {b : Addr} {u : Value} {v : V} {d : D} {kvs : List (List Key × D)} {xs : List (List Key × Addr × Value)} : SqT K F b (k.map kV) → RelV v u → Rp K ms F v d → DRk K ms F kvs xs → DRk K ms F ((k, d) :: kvs) ((k, b, u) :: xs)
theorem DRk.up {K : Frg} {ms : List Addr} {F F' : Hp} {kvs : List (List Key × D)} {xs : List (List Key × Addr × Value)} (h : DRk K ms F kvs xs) (s : Same F F') : DRk K ms F' kvs xs := by
  induction h with
  | nil => exact .nil
  | cons h1 h2 h3 _ ih => exact .cons (sqT s h1) h2 (h3.up s) ih
def entM (w : World) (x : List Key × Addr × Value) : DictEntry := ⟨reduceHash (Builtin.Tuple.tupleHashOf (x.1.map (keyH w))), .ref x.2.1, x.2.2⟩
/-- entries of a dict whose keys are numbers or texts -/
inductive Rkd (K : Frg) (ms : List Addr) (F : Hp) : List (Key × V) → List (Key × D) → Prop
  | nil : Rkd K ms F [] []
  | cons {k : Key} {v : V} {d : D} {kvs : List (Key × V)} {kds : List (Key × D)} : Rp K ms F v d → Rkd K ms F kvs kds → Rkd K ms F ((k, v) :: kvs) ((k, d) :: kds)
theorem Rkd.up {K : Frg} {ms : List Addr} {F F' : Hp} {kvs : List (Key × V)} {kds : List (Key × D)} (h : Rkd K ms F kvs kds) (s : Same F F') : Rkd K ms F' kvs kds := by
  induction h with
  | nil => exact .nil
  | cons h1 _ ih => exact .cons (h1.up s) ih
theorem XR.up {K : Frg} {ms : List Addr} {F F' : Hp} {cls : Value} {d : Option Addr} {x : Ex} (h : XR K ms F cls d x) (s : Same F F') : XR K ms F' cls d x :=
  ⟨h.1, fun n => let ⟨a, vs, h1, h2, h3, h4⟩ := h.2 n; ⟨a, vs, h1, s _ _ h2, h3, h4.up s⟩⟩
/-- a caught error at a -/
def XO (cls : Value) (d : Option Addr) (a : Addr) : HO := .ext fun h => ∃ (oe : Obj) (vs : Array Value), h.get? a = some oe ∧ Zc cls d oe ∧ oe.data = .fields vs
def MoR (K : Frg) (ms : List Addr) (F : Hp) (a : Addr) : Mo → HO → Prop
  | .exc x, o => ∃ cls d, o = XO cls d a ∧ XR K ms F cls d x
  | .dk kds, o => ∃ kvs, o = .dK kvs ∧ Rkd K ms F kvs kds
  | .dt w kds, o => ∃ es ep xs, o = dxO a es ep ∧ (a == sysModules) = false ∧ kds.length ≤ 100000 ∧ DRk K ms F kds xs ∧ es.toList = xs.map (entM w) ∧ (xs.map (·.1)).Nodup
  | .dct kvs, o => ∃ es ep xs, o = dxO a es ep ∧ (a == sysModules) = false ∧ kvs.length ≤ 100000 ∧ DRl K ms F kvs xs ∧ es.toList = xs.map entI ∧ (xs.map (·.1)).Nodup
  | .lst ds, o => ∃ vs, o = .lst vs ∧ Rps K ms F vs ds
  | .ins x c ns ds, o => x = a ∧ ∃ dx vs, o = .ins (He.ga K c) dx (ns.zip vs) ∧ ns.length = vs.length ∧ Rps K ms F vs ds
theorem MoR.up {K : Frg} {ms : List Addr} {F F' : Hp} {a : Addr} {m : Mo} {o : HO} (h : MoR K ms F a m o) (s : Same F F') : MoR K ms F' a m o := by
  cases m with
  | exc x => obtain ⟨c, d, e, r⟩ := h; exact ⟨c, d, e, r.up s⟩
  | dk kds => obtain ⟨kvs, e, r⟩ := h; exact ⟨kvs, e, r.up s⟩
  | dt w kds => obtain ⟨es, ep, xs, e, e1, e2, r, e3⟩ := h; exact ⟨es, ep, xs, e, e1, e2, r.up s, e3⟩
  | dct kvs => obtain ⟨es, ep, xs, e, e1, e2, r, e3⟩ := h; exact ⟨es, ep, xs, e, e1, e2, r.up s, e3⟩
  | lst ds => obtain ⟨vs, e, r⟩ := h; exact ⟨vs, e, r.up s⟩
  | ins x c ns ds => obtain ⟨ex, dx, vs, e, l, r⟩ := h; exact ⟨ex, dx, vs, e, l, r.up s⟩
abbrev Ev := List Sl
/-- the base of a def: the tapes, the heaps at its entry, what is wanted of an error -/
structure Bs where
  ms : List Addr
  F0 : Hp
  H0 : Hp
  Ed : Ex → Prop
/-- what a table of code objects tells: each of them is known, and bears the lambda's name -/
def TabF (F H : Hp) (P : Addr) (q : Str) : Prop := F P = none ∧ ∃ ps : Array Value, H P = some (.tbl ps) ∧ PySem.TriplesOk ps.toList ∧ ∀ (pos : Pos) (cv : Value), PySem.codeAmong pos ps.toList = some cv → ∃ c, cv = .ref c ∧ F c = some (LamX.CodeO c q)
theorem TabF.go {F H F' H' : Hp} {P : Addr} {q : Str} {ms : List Addr} (t : TabF F H P q) (g : Go ms F H F' H') (hm : P ∉ ms) : TabF F' H' P q := by
  obtain ⟨t0, ps, t1, t2, t3⟩ := t
  obtain ⟨g1, g2⟩ := g.mu P _ hm t0 t1
  exact ⟨g1, ps, g2, t2, fun pos cv hc => let ⟨c, e1, e2⟩ := t3 pos cv hc; ⟨c, e1, g.ff _ _ e2⟩⟩
structure Tp (K : Frg) (ms : List Addr) (F H : Hp) : Prop where
  sm : Same F H
  tape : ∀ t ∈ ms, t ∉ tabA K → Tape K F H t
  tabs : ∀ p ∈ tabsOf K, p.1 ∈ ms ∧ TabF F H p.1 p.2
theorem Tp.ne {K : Frg} {ms : List Addr} {F H : Hp} (h : Tp K ms F H) {a : Addr} (m : a ∈ ms) : H a ≠ none := by
  by_cases ha : a ∈ tabA K
  · obtain ⟨p, hp, rfl⟩ := List.mem_map.mp ha
    obtain ⟨_, _, ps, e, _⟩ := h.tabs p hp
    rw [e]
    exact fun z => nomatch z
  · exact (h.tape a m ha).ne
/-- a thing that is no tape and no table is written or frozen -/
theorem Tp.go1 {K : Frg} {ms ns : List Addr} {F H F' H' : Hp} (h : Tp K ms F H) (g : Go ns F H F' H') (hd : ∀ d ∈ ns, d ∉ ms) : Tp K ms F' H' :=
  ⟨g.fh, fun t m n => (h.tape t m n).go g fun z => hd t z m, fun p hp => ⟨(h.tabs p hp).1, (h.tabs p hp).2.go g fun z => hd _ z (h.tabs p hp).1⟩⟩
theorem Tp.go0 {K : Frg} {ms : List Addr} {F H F' H' : Hp} (h : Tp K ms F H) (g : Go [] F H F' H') : Tp K ms F' H' := h.go1 g fun _ z => nomatch z
theorem Tp.gox {K : Frg} {ms : List Addr} {F H F' H' : Hp} {d : Addr} (h : Tp K ms F H) (g : Go [d] F H F' H') (hd : d ∉ ms) : Tp K ms F' H' := h.go1 g fun x hx => by
  have : x = d := by simpa using hx
  rw [this]; exact hd
structure Iv (K : Frg) (B : Bs) (F H : Hp) (σ : L2.St) (ρ : Ev) : Prop where
  go : Go B.ms B.F0 B.H0 F H
  tp : Tp K B.ms F H
  len : σ.length = ρ.length
  val : ∀ (i : Nat) (d : D), ρ[i]? = some (.val d) → ∃ v, σ[i]? = some (some v) ∧ Rp K B.ms F v d
  own : ∀ (i : Nat) (m : Mo), ρ[i]? = some (.mu m) → ∃ a o, σ[i]? = some (some (.ref a)) ∧ F a = none ∧ a ∉ B.ms ∧ B.H0 a = none ∧ H a = some o ∧ MoR K B.ms F a m o
  sep : ∀ (i j : Nat) (m n : Mo) (a : Addr), i ≠ j → ρ[i]? = some (.mu m) → ρ[j]? = some (.mu n) → σ[i]? = some (some (.ref a)) → σ[j]? ≠ some (some (.ref a))
section
variable {K : Frg} {B : Bs} {F H F' H' : Hp} {σ : L2.St} {ρ : Ev}
theorem Iv.same (I : Iv K B F H σ ρ) : Same F H := I.tp.1
theorem Iv.step (I : Iv K B F H σ ρ) (g : Go B.ms F H F' H') (t : Tp K B.ms F' H') : Iv K B F' H' σ ρ where
  go := I.go.trans g
  tp := t
  len := I.len
  val := fun i d e => let ⟨v, h1, h2⟩ := I.val i d e; ⟨v, h1, h2.up g.ff⟩
  own := fun i ds e => by
    obtain ⟨a, vs, h1, h2, h3, h4, h5, h6⟩ := I.own i ds e
    obtain ⟨p1, p2⟩ := g.mu a _ h3 h2 h5
    exact ⟨a, vs, h1, p1, h3, h4, p2, h6.up g.ff⟩
  sep := I.sep
theorem Iv.step0 (I : Iv K B F H σ ρ) (g : Go [] F H F' H') : Iv K B F' H' σ ρ := I.step g.nil (I.tp.go0 g)
/-- store a plain value -/
theorem Iv.set (I : Iv K B F H σ ρ) {v : V} {d : D} (i : Nat) (r : Rp K B.ms F v d) : Iv K B F H (σ.set i (some v)) (ρ.set i (.val d)) where
  go := I.go
  tp := I.tp
  len := by rw [List.length_set, List.length_set]; exact I.len
  val := fun j e h => by
    have hj := I.len
    by_cases hij : i = j
    · subst hij
      rcases Nat.lt_or_ge i ρ.length with z | z
      · rw [List.getElem?_set_self z] at h
        cases h
        exact ⟨v, List.getElem?_set_self (by omega), r⟩
      · rw [List.getElem?_eq_none (by rw [List.length_set]; exact z)] at h; cases h
    · rw [List.getElem?_set_ne hij] at h
      rw [List.getElem?_set_ne hij]
      exact I.val j e h
  own := fun j ds h => by
    have hj := I.len
    by_cases hij : i = j
    · subst hij
      rcases Nat.lt_or_ge i ρ.length with z | z
      · rw [List.getElem?_set_self z] at h; cases h
      · rw [List.getElem?_eq_none (by rw [List.length_set]; exact z)] at h; cases h
    · rw [List.getElem?_set_ne hij] at h
      rw [List.getElem?_set_ne hij]
      exact I.own j ds h
  sep := fun j k ds es a hjk h1 h2 h3 => by
    have key : ∀ (m : Nat) (ds : Mo), (ρ.set i (.val d))[m]? = some (.mu ds) → i ≠ m := fun m ds h e => by
      subst e
      rcases Nat.lt_or_ge i ρ.length with z | z
      · rw [List.getElem?_set_self z] at h; cases h
      · rw [List.getElem?_eq_none (by rw [List.length_set]; exact z)] at h; cases h
    have e1 := key j _ h1
    have e2 := key k _ h2
    rw [List.getElem?_set_ne e1] at h1 h3
    rw [List.getElem?_set_ne e2] at h2 ⊢
    exact I.sep j k ds es a hjk h1 h2 h3
/-- forget a slot -/
theorem Iv.wipe (I : Iv K B F H σ ρ) (i : Nat) : Iv K B F H (σ.set i none) (ρ.set i .no) where
  go := I.go
  tp := I.tp
  len := by rw [List.length_set, List.length_set]; exact I.len
  val := fun j e h => by
    have hj := I.len
    by_cases hij : i = j
    · subst hij
      rcases Nat.lt_or_ge i ρ.length with z | z
      · rw [List.getElem?_set_self z] at h; cases h
      · rw [List.getElem?_eq_none (by rw [List.length_set]; exact z)] at h; cases h
    · rw [List.getElem?_set_ne hij] at h
      rw [List.getElem?_set_ne hij]
      exact I.val j e h
  own := fun j ds h => by
    have hj := I.len
    by_cases hij : i = j
    · subst hij
      rcases Nat.lt_or_ge i ρ.length with z | z
      · rw [List.getElem?_set_self z] at h; cases h
      · rw [List.getElem?_eq_none (by rw [List.length_set]; exact z)] at h; cases h
    · rw [List.getElem?_set_ne hij] at h
      rw [List.getElem?_set_ne hij]
      exact I.own j ds h
  sep := fun j k ds es a hjk h1 h2 h3 => by
    have hj := I.len
    have key : ∀ (m : Nat) (ds : Mo), (ρ.set i .no)[m]? = some (.mu ds) → i ≠ m := fun m ds h e => by
      subst e
      rcases Nat.lt_or_ge i ρ.length with z | z
      · rw [List.getElem?_set_self z] at h; cases h
      · rw [List.getElem?_eq_none (by rw [List.length_set]; exact z)] at h; cases h
    have e1 := key j _ h1
    have e2 := key k _ h2
    rw [List.getElem?_set_ne e1] at h1 h3
    rw [List.getElem?_set_ne e2] at h2 ⊢
    exact I.sep j k ds es a hjk h1 h2 h3
end
def wipeR (ρ : Ev) : List Nat → Ev
  | [] => ρ
  | v :: vs => (wipeR ρ vs).set v .no
theorem Iv.wipes {K : Frg} {B : Bs} {F H : Hp} {σ : L2.St} {ρ : Ev} (I : Iv K B F H σ ρ) : ∀ vs : List Nat, Iv K B F H (L2.wipe σ vs) (wipeR ρ vs)
  | [] => I
  | v :: vs => (Iv.wipes I vs).wipe v
/-! ### a choice that nothing opens by itself -/
@[irreducible] def ifB (b : Bool) (p q : Prop) : Prop := if b = true then p else q
theorem ifB_eq (b : Bool) (p q : Prop) : ifB b p q = if b = true then p else q := by unfold ifB; rfl
theorem ifB_t {p q : Prop} (h : ifB true p q) : p := by rw [ifB_eq] at h; exact h
theorem ifB_f {p q : Prop} (h : ifB false p q) : q := by rw [ifB_eq] at h; exact h
theorem ifB_T {b : Bool} {p q : Prop} (e : b = true) (h : p) : ifB b p q := by rw [ifB_eq, if_pos e]; exact h
theorem ifB_F {b : Bool} {p q : Prop} (e : b = false) (h : q) : ifB b p q := by rw [ifB_eq, e]; exact h
/-! ### readings -/
abbrev Rd := Ev → (D → Prop) → Prop
abbrev RdT := Ev → (Bool → Prop) → Prop
abbrev RdA := Ev → (List D → Prop) → Prop
structure En where
  nx : Ev → Prop
  rt : D → Prop
  bk : Ev → Prop := fun _ => False
  ct : Ev → Prop := fun _ => False
abbrev RdS := Ev → En → Prop
def tE (K : Frg) (B : Bs) (r : Rd) : TE := fun σ H Q => ∃ F ρ Qd, Iv K B F H σ ρ ∧ r ρ Qd ∧ ∀ v F' H' d, Go B.ms F H F' H' → Tp K B.ms F' H' → Rp K B.ms F' v d → Qd d → Q v H'
def tT (K : Frg) (B : Bs) (r : RdT) : TT := fun σ H Q => ∃ F ρ Qd, Iv K B F H σ ρ ∧ r ρ Qd ∧ ∀ b F' H', Go B.ms F H F' H' → Tp K B.ms F' H' → Qd b → Q b H'
def tA (K : Frg) (B : Bs) (r : RdA) : TA := fun σ H Q => ∃ F ρ Qd, Iv K B F H σ ρ ∧ r ρ Qd ∧ ∀ vs F' H' ds, Go B.ms F H F' H' → Tp K B.ms F' H' → Rps K B.ms F' vs ds → Qd ds → Q vs H'
def tS (K : Frg) (B : Bs) (r : RdS) : TS := fun Dd σ H => ∃ F ρ En, Iv K B F H σ ρ ∧ r ρ En ∧ (∀ σ' ρ' F' H', Same F F' → Iv K B F' H' σ' ρ' → En.nx ρ' → Dd.nx σ' H') ∧
  (∀ v d F' H', Go B.ms B.F0 B.H0 F' H' → Tp K B.ms F' H' → Rp K B.ms F' v d → En.rt d → Dd.rt v H') ∧
  (∀ σ' ρ' F' H', Same F F' → Iv K B F' H' σ' ρ' → En.bk ρ' → Dd.bk σ' H') ∧ (∀ σ' ρ' F' H', Same F F' → Iv K B F' H' σ' ρ' → En.ct ρ' → Dd.ct σ' H')
def PEp (X : Cx) (B : Bs) (e : Expr) (r : Rd) : Prop := PE X e (tE X.K B r)
def PAp (X : Cx) (B : Bs) (es : List Expr) (r : RdA) : Prop := PA X es (tA X.K B r)
def PSp (X : Cx) (B : Bs) (st : Stmt) (r : RdS) : Prop := PS X st (tS X.K B r)
def PSsp (X : Cx) (B : Bs) (st : List Stmt) (r : RdS) : Prop := PSs X st (tS X.K B r)
theorem pt_imp {X : Cx} {e : Expr} {t t' : TT} (h : PT X e t) (f : ∀ σ H Q, t' σ H Q → t σ H Q) : PT X e t' := ⟨fun pins s σ H Q I z => h.run pins s σ H Q I (f σ H Q z)⟩
theorem pa_imp {X : Cx} {e : List Expr} {t t' : TA} (h : PA X e t) (f : ∀ σ H Q, t' σ H Q → t σ H Q) : PA X e t' := ⟨fun p pins s σ H Q I z => h.run p pins s σ H Q I (f σ H Q z)⟩
theorem ps_imp {X : Cx} {e : Stmt} {t t' : TS} (h : PS X e t) (f : ∀ σ H Q, t' Q σ H → t Q σ H) : PS X e t' := ⟨fun pins s σ H Q I z => h.run pins s σ H Q I (f σ H Q z)⟩
theorem pss_imp {X : Cx} {e : List Stmt} {t t' : TS} (h : PSs X e t) (f : ∀ σ H Q, t' Q σ H → t Q σ H) : PSs X e t' := ⟨fun pins s σ H Q I z => h.run pins s σ H Q I (f σ H Q z)⟩
section
variable {X : Cx} {B : Bs} {a b c e : Expr} {es : List Expr} {ra rb rc r : Rd} {rt ru : RdT} {rl : RdA} {pos : Pos}
/-! ### names, constants -/
def rVar (i : Nat) : Rd := fun ρ Q => match ρ[i]? with
  | some (.val d) => Q d
  | _ => False
def rC (d : D) : Rd := fun _ Q => Q d
theorem y_var {i : Nat} {x : Str} (h : PE X (.Name x pos) (tVar i)) : PEp X B (.Name x pos) (rVar i) := pe_imp h fun σ H Q ⟨F, ρ, Qd, I, z, k⟩ => by
  unfold rVar at z
  split at z
  · rename_i d e
    obtain ⟨v, h1, h2⟩ := I.val i d e
    exact ⟨v, h1, k v F H d (Go.refl I.same) I.tp h2 z⟩
  · exact z.elim
theorem y_c {v : V} {d : D} (h : PE X e (tC v)) (hr : ∀ K ms F, Rp K ms F v d) : PEp X B e (rC d) := pe_imp h fun σ H Q ⟨F, ρ, Qd, I, z, k⟩ => k v F H d (Go.refl I.same) I.tp (hr _ _ _) z
theorem y_int {i j} : PEp X B (.Constant (.int i) j pos) (rC (.int i)) := y_c pe_int fun _ _ _ => .int i
theorem y_bl {b j} : PEp X B (.Constant (.bool b) j pos) (rC (.bl b)) := y_c pe_bl fun _ _ _ => .bl b
theorem y_non {j} : PEp X B (.Constant .none j pos) (rC .non) := y_c pe_non fun _ _ _ => .non
theorem y_str {x j} : PEp X B (.Constant (.str x) j pos) (rC (.str x)) := y_c pe_str fun _ _ _ => .str x
/-! ### two-place operations -/
def OpL (K : Frg) (ms : List Addr) (r : R2) (g : D → D → (D → Prop) → Prop) : Prop := ∀ (F H : Hp) (x y : V) (dx dy : D) (Qd : D → Prop) (Q : VK), Same F H → Rp K ms F x dx → Rp K ms F y dy → g dx dy Qd → (∀ v F' H' d, Go [] F H F' H' → Rp K ms F' v d → Qd d → Q v H') → r x y H Q
theorem tOp_of {g : D → D → (D → Prop) → Prop} {o : R2} (hl : OpL X.K B.ms o g) (σ : L2.St) (H : Hp) (Q : VK) (h : tE X.K B (fun ρ Q => ra ρ fun x => rb ρ fun y => g x y Q) σ H Q) : tOp o (tE X.K B ra) (tE X.K B rb) σ H Q := by
  obtain ⟨F, ρ, Qd, I, z, k⟩ := h
  refine ⟨F, ρ, _, I, z, fun v F1 H1 d g1 t1 r1 z1 => ⟨F1, ρ, _, I.step g1 t1, z1, fun u F2 H2 e g2 t2 r2 z2 => ?_⟩⟩
  exact hl F2 H2 v u d e Qd Q t2.1 (r1.up g2.ff) r2 z2 fun w F3 H3 d3 g3 r3 q3 => k w F3 H3 d3 ((g1.trans g2).trans g3.nil) (t2.go0 g3) r3 q3
theorem y_op {op : Operator} {g : D → D → (D → Prop) → Prop} {o : R2} (ho : OpR X (binaryOp op) o) (hl : OpL X.K B.ms o g) (ha : PEp X B a ra) (hb : PEp X B b rb) : PEp X B (.BinOp a op b pos) (fun ρ Q => ra ρ fun x => rb ρ fun y => g x y Q) :=
  pe_imp (pe_op ho ha hb) (tOp_of hl)
theorem y_cmp {op : CmpOp} {g : D → D → (D → Prop) → Prop} {o : R2} (ho : OpR X (compareOp op) o) (hl : OpL X.K B.ms o g) (ha : PEp X B a ra) (hb : PEp X B b rb) (hm : behindInMarks op b = false) : PEp X B (.Compare a [op] [b] pos) (fun ρ Q => ra ρ fun x => rb ρ fun y => g x y Q) :=
  pe_imp (pe_cmpR ho ha hb hm) (tOp_of hl)
def tst (d : D) (Q : Bool → Prop) : Prop := match d with
  | .bl b => Q b
  | _ => False
/-- a op b op' c -/
def chn (g g' : D → D → (D → Prop) → Prop) (ra rb rc : Rd) : Rd := fun ρ Q => ra ρ fun x => rb ρ fun y => g x y fun z => tst z fun k => ifB k (rc ρ fun w => g' y w Q) (Q (.bl false))
/-! ### and, or, not, if -/
/-! ### arguments, displays -/
def aNil : RdA := fun _ Q => Q []
def aCons (ra : Rd) (rl : RdA) : RdA := fun ρ Q => ra ρ fun x => rl ρ fun xs => Q (x :: xs)
theorem a_nil : PAp X B [] aNil := pa_imp pa_nil fun σ H Q ⟨F, ρ, Qd, I, z, k⟩ => k [] F H [] (Go.refl I.same) I.tp .nil z
theorem a_cons (ha : PEp X B e ra) (hr : PAp X B es rl) (hs : starEach (e :: es) X.env = (false, eval e X.env) :: starEach es X.env := by rfl) : PAp X B (e :: es) (aCons ra rl) :=
  pa_imp (pa_cons ha hr hs) fun σ H Q ⟨F, ρ, Qd, I, z, k⟩ => ⟨F, ρ, _, I, z, fun v F1 H1 d g1 t1 r1 z1 => ⟨F1, ρ, _, I.step g1 t1, z1, fun vs F2 H2 ds g2 t2 r2 z2 => k (v :: vs) F2 H2 (d :: ds) (g1.trans g2) t2 (.cons (r1.up g2.ff) r2) z2⟩⟩
theorem y_tup {x1} (h : PAp X B es rl) : PEp X B (.Tuple es x1 pos) (fun ρ Q => rl ρ fun ds => ds.length ≤ 100000 ∧ Q (.tup ds)) :=
  pe_imp (pe_tupZ h) fun σ H Q ⟨F, ρ, Qd, I, z, k⟩ => ⟨F, ρ, _, I, z, fun vs F1 H1 ds g1 t1 r1 z1 => ⟨Nat.le_trans (by rw [r1.len]; exact z1.1) (by decide), fun p H2 hp e2 => by
    obtain ⟨F2, g2, q2, _⟩ := newE g1.fh hp e2
    exact k _ F2 H2 _ (g1.trans g2.nil) (t1.go0 g2) (.tup (SqT.of q2) (r1.up g2.ff)) z1.2⟩⟩
theorem y_lst (h : PAp X B es rl) : PEp X B (.List es pos) (fun ρ Q => rl ρ fun ds => ds.length ≤ 100000 ∧ Q (.lst ds)) :=
  pe_imp (pe_lstZ h) fun σ H Q ⟨F, ρ, Qd, I, z, k⟩ => ⟨F, ρ, _, I, z, fun vs F1 H1 ds g1 t1 r1 z1 => ⟨Nat.le_trans (by rw [r1.len]; exact z1.1) (by decide), fun p H2 hp e2 => by
    obtain ⟨F2, g2, q2, _⟩ := newE g1.fh hp e2
    exact k _ F2 H2 _ (g1.trans g2.nil) (t1.go0 g2) (.lst q2 (r1.up g2.ff)) z1.2⟩⟩
end
end Y
namespace Y
open PySem PySem.Spec PyProof.Rows L2 Z
/-! ### statements -/
section
variable {X : Cx} {B : Bs} {a b c e : Expr} {es : List Expr} {ra rb rc r : Rd} {rt ru : RdT} {rl : RdA} {pos : Pos} {st : Stmt} {rest : List Stmt} {s1 s2 : RdS}
theorem s_ret (he : PEp X B e r) : PSp X B (.Return (some e) pos) (fun ρ E => r ρ E.rt) :=
  ps_imp (ps_ret he) fun σ H Dd ⟨F, ρ, E, I, z, kn, kr, kb, kc⟩ => ⟨F, ρ, _, I, z, fun v F' H' d g t r q => kr v d F' H' (I.go.trans g) t r q⟩
/-! ### targets -/
inductive Tg where
  | nm (i : Nat) | tp (is : List Nat)
def stN : List Nat → List D → Ev → (Ev → Prop) → Prop
  | [], [], ρ, Q => Q ρ
  | i :: is, d :: ds, ρ, Q => stN is ds (ρ.set i (.val d)) Q
  | _, _, _, _ => False
def tgD : Tg → D → Ev → (Ev → Prop) → Prop
  | .nm i, d, ρ, Q => Q (ρ.set i (.val d))
  | .tp is, .tup ds, ρ, Q => stN is ds ρ Q
  | .tp is, .lst ds, ρ, Q => stN is ds ρ Q
  | _, _, _, _ => False
def gNs : List Nat → TGs
  | [] => gNil
  | i :: is => gCons (gName i) (gNs is)
def tgV (K : Frg) : Tg → TG
  | .nm i => gName i
  | .tp is => fun v σ H Q => gTup K is.length (gNs is) v σ H Q ∨ gLst K is.length (gNs is) v σ H Q
theorem g_nm {i : Nat} {x : Str} (h : PG X (.Name x pos) (gName i)) : PG X (.Name x pos) (tgV X.K (.nm i)) := h
theorem g_tp {is : List Nat} {k : Nat} (hc : X.calm = true) (h : PGs X es (gNs is)) (hl : is.length = (assignEach es X.env).length := by rfl) (hst : (assignEach es X.env).findIdx? (·.1) = none := by rfl) : PG X (.Tuple es k pos) (tgV X.K (.tp is)) := by
  have h1 := pg_tup (pos := pos) (k := k) hc h hl.symm hst
  have h2 := pg_lst (pos := pos) (k := k) hc h hl.symm hst
  exact ⟨fun pins s σ H v u Q I r z => z.elim (h1.run pins s σ H v u Q I r) (h2.run pins s σ H v u Q I r)⟩
theorem stN_run {K : Frg} : ∀ {is : List Nat} {vs : List V} {ds : List D} {F H : Hp} {σ : L2.St} {ρ : Ev} {Qd : Ev → Prop} {Q : L2.St → Hp → Prop}, Iv K B F H σ ρ → Rps K B.ms F vs ds → stN is ds ρ Qd → (∀ σ' ρ', Iv K B F H σ' ρ' → Qd ρ' → Q σ' H) → gNs is vs σ H Q
  | [], [], [], F, H, σ, ρ, Qd, Q, I, _, z, k => ⟨rfl, k σ ρ I z⟩
  | i :: is, v :: vs, d :: ds, F, H, σ, ρ, Qd, Q, I, r, z, k => by
    cases r with
    | cons r1 r2 => exact ⟨v, vs, rfl, stN_run (I.set i r1) r2 z k⟩
  | [], _ :: _, [], _, _, _, _, _, _, _, r, _, _ => by cases r
  | [], _, _ :: _, _, _, _, _, _, _, _, _, z, _ => z.elim
  | _ :: _, _, [], _, _, _, _, _, _, _, _, z, _ => z.elim
  | _ :: _, [], _ :: _, _, _, _, _, _, _, _, r, _, _ => by cases r
theorem stN_len : ∀ {is : List Nat} {ds : List D} {ρ : Ev} {Qd : Ev → Prop}, stN is ds ρ Qd → ds.length = is.length
  | [], [], _, _, _ => rfl
  | _ :: is, _ :: ds, _, _, z => by simp only [List.length_cons]; rw [stN_len (is := is) (ds := ds) z]
  | [], _ :: _, _, _, z => z.elim
  | _ :: _, [], _, _, z => z.elim
theorem tg_run {K : Frg} {tg : Tg} {v : V} {d : D} {F H : Hp} {σ : L2.St} {ρ : Ev} {Qd : Ev → Prop} {Q : L2.St → Hp → Prop} (I : Iv K B F H σ ρ) (r : Rp K B.ms F v d) (z : tgD tg d ρ Qd) (k : ∀ σ' ρ', Iv K B F H σ' ρ' → Qd ρ' → Q σ' H) : tgV K tg v σ H Q := by
  cases tg with
  | nm i => exact k _ _ (I.set i r) z
  | tp is =>
    cases d with
    | tup ds =>
      cases r with
      | tup h1 h2 => exact .inl ⟨_, _, rfl, sqT I.same h1, by rw [h2.len]; exact stN_len z, stN_run I h2 z k⟩
    | lst ds =>
      cases r with
      | lst h1 h2 => exact .inr ⟨_, _, rfl, SqL.of (I.same _ _ h1), by rw [h2.len]; exact stN_len z, stN_run I h2 z k⟩
    | _ => exact z.elim
/-- a target touches its own slots alone -/
def Tg.slots : Tg → List Nat
  | .nm i => [i]
  | .tp is => is
theorem wipe_get (σ : L2.St) : ∀ (vs : List Nat) (j : Nat), (L2.wipe σ vs)[j]? = if j ∈ vs then (if j < σ.length then some none else none) else σ[j]?
  | [], j => by simp [L2.wipe]
  | v :: vs, j => by
    unfold L2.wipe
    rw [List.getElem?_set, L2.wipe_length, wipe_get σ vs j]
    by_cases hv : v = j
    · subst hv; simp
    · rw [if_neg hv]
      have : (j ∈ v :: vs) = (j ∈ vs) := by simp [Ne.symm hv]
      simp only [this]
theorem wipe_set (σ : L2.St) {i : Nat} {x : Option V} {vs : List Nat} (h : i ∈ vs) : L2.wipe (σ.set i x) vs = L2.wipe σ vs := by
  apply List.ext_getElem?
  intro j
  rw [wipe_get, wipe_get, List.length_set]
  by_cases hj : j ∈ vs
  · rw [if_pos hj, if_pos hj]
  · rw [if_neg hj, if_neg hj, List.getElem?_set_ne (fun (e : i = j) => hj (e ▸ h))]
theorem gNs_wipe {vs0 : List Nat} {H : Hp} {Q : L2.St → Hp → Prop} : ∀ {is : List Nat} {vs : List V} {σ : L2.St}, (∀ i ∈ is, i ∈ vs0) → gNs is vs σ H Q → gNs is vs σ H fun σ2 H2 => L2.wipe σ2 vs0 = L2.wipe σ vs0 ∧ Q σ2 H2
  | [], _, _, _, h => ⟨h.1, rfl, h.2⟩
  | i :: is, vs, σ, hm, ⟨v, r, e, h⟩ => by
    refine ⟨v, r, e, ?_⟩
    have := gNs_wipe (is := is) (fun j hj => hm j (List.mem_cons_of_mem _ hj)) h
    rw [wipe_set σ (hm i List.mem_cons_self)] at this
    exact this
theorem tg_wipe {K : Frg} {tg : Tg} {vs0 : List Nat} {v : V} {σ : L2.St} {H : Hp} {Q : L2.St → Hp → Prop} (hm : ∀ i ∈ tg.slots, i ∈ vs0) (h : tgV K tg v σ H Q) : tgV K tg v σ H fun σ2 H2 => L2.wipe σ2 vs0 = L2.wipe σ vs0 ∧ Q σ2 H2 := by
  cases tg with
  | nm i => exact ⟨wipe_set σ (hm i List.mem_cons_self), h⟩
  | tp is =>
    rcases h with ⟨a, xs, e, h1, h2, h3⟩ | ⟨a, xs, e, h1, h2, h3⟩
    · exact .inl ⟨a, xs, e, h1, h2, gNs_wipe hm h3⟩
    · exact .inr ⟨a, xs, e, h1, h2, gNs_wipe hm h3⟩
/-! ### assignments -/
theorem asg_of {te : TE} {tg : Tg} (h0 : ∀ σ H Q, tE X.K B r σ H Q → te σ H Q) (σ : L2.St) (H : Hp) (Dd : Ends) (h : tS X.K B (fun ρ E => r ρ fun d => tgD tg d ρ E.nx) Dd σ H) : tAsg te (tgV X.K tg) Dd σ H := by
  obtain ⟨F, ρ, E, I, z, kn, kr, kb, kc⟩ := h
  exact h0 _ _ _ ⟨F, ρ, _, I, z, fun v F' H' d g t r q => tg_run (I.step g t) r q fun σ' ρ' I' z' => kn σ' ρ' F' H' g.ff I' z'⟩
theorem s_set {i : Nat} {x : Str} {pos' : Pos} (hN : X.N.Nodup) (hi : X.N[i]? = some x) (hx : Loc X.env.scope x) (he : PEp X B e r) (hs : swapsWith e (some (.Name x pos')) pos.line X.env = pure false := by rfl) (hf : X.fn x = true ∨ X.env.scope.names.lookup x = some .local := by first | exact .inl rfl | exact .inr rfl | assumption) :
    PSp X B (.Assign [.Name x pos'] e pos) (fun ρ E => r ρ fun d => E.nx (ρ.set i (.val d))) := ps_imp (ps_set hN hi hx he hs hf) (asg_of (tg := .nm i) fun _ _ _ z => z)
/-! ### loops -/
end
/-- an iterator that hands out the data ds -/
def Sqs (K : Frg) (ms : List Addr) (F : Hp) (J : It) (ds : List D) : Prop := ∃ (G : Hp → Prop) (Yd : Nat → Hp → V → Hp → Prop), Walk J ds.length G Yd ∧ (∀ F1 H1, Same F F1 → Same F1 H1 → G H1) ∧
  ∀ (i : Nat) (F1 H1 : Hp) (x : V) (H1' : Hp) (d : D), Same F F1 → Same F1 H1 → Yd i H1 x H1' → ds[i]? = some d → ∃ F2, Go [] F1 H1 F2 H1' ∧ Rp K ms F2 x d
def tI (K : Frg) (B : Bs) (r : RdA) : L2.TI := fun σ H R => ∃ F ρ Qd, Iv K B F H σ ρ ∧ r ρ Qd ∧ ∀ J F' H' ds, Go B.ms F H F' H' → Tp K B.ms F' H' → Sqs K B.ms F' J ds → Qd ds → R J H'
def PIp (X : Cx) (B : Bs) (tg iter : Expr) (r : RdA) : Prop := PI X tg iter (tI X.K B r)
theorem pi_imp {X : Cx} {tg it : Expr} {t t' : L2.TI} (h : PI X tg it t) (f : ∀ σ H R, t' σ H R → t σ H R) : PI X tg it t' := ⟨fun pins s σ H R I z => h.run pins s σ H R I (f σ H R z)⟩
/-- a for, turn by turn -/
def forP (tg : Tg) (sb : RdS) (E : En) : List D → Ev → Prop
  | [], ρ => E.nx ρ
  | d :: ds, ρ => tgD tg d ρ fun ρ1 => sb ρ1 { E with nx := forP tg sb E ds, ct := forP tg sb E ds, bk := E.nx }
theorem lt_of_get {α : Type} {ds : List α} {i : Nat} {d : α} (h : ds[i]? = some d) : i < ds.length := by
  rcases Nat.lt_or_ge i ds.length with z | z
  · exact z
  · rw [List.getElem?_eq_none z] at h; cases h
/-- a comprehension, item by item -/
def mapP (tg : Tg) (rt : RdT) (re : Rd) (ρ : Ev) : List D → (List D → Prop) → Prop
  | [], Q => Q []
  | d :: ds, Q => tgD tg d ρ fun ρ2 => rt ρ2 fun k => ifB k (re ρ2 fun y => mapP tg rt re ρ ds fun ys => Q (y :: ys)) (mapP tg rt re ρ ds Q)
/-- a comprehension, by what holds of the items made so far -/
def mapI (tg : Tg) (rt : RdT) (re : Rd) (ρ : Ev) (ds : List D) (Q : List D → Prop) : Prop := ∃ J : Nat → List D → Prop, J 0 [] ∧ (∀ (i : Nat) (d : D) (acc : List D), ds[i]? = some d → J i acc → tgD tg d ρ fun ρ2 => rt ρ2 fun k => ifB k (re ρ2 fun y => J (i + 1) (acc ++ [y])) (J (i + 1) acc)) ∧ ∀ out, J ds.length out → Q out
section
variable {X : Cx} {B : Bs} {a b c e : Expr} {es : List Expr} {ra rb rc r : Rd} {rt ru : RdT} {rl : RdA} {pos : Pos} {st : Stmt} {rest : List Stmt} {s1 s2 : RdS}
/-! ### iterables -/
/-- lo, lo + 1, .. -/
def rngD (lo : Int) (n : Nat) : List D := (List.range n).map fun i => .int (lo + (i : Nat))
theorem rng_sqs {K : Frg} {ms : List Addr} {F : Hp} {lo : Int} {n : Nat} : Sqs K ms F (Itr lo n) (rngD lo n) := by
  refine ⟨_, _, by rw [show (rngD lo n).length = n by simp [rngD]]; exact walk_range, fun _ _ _ _ => trivial, ?_⟩
  rintro i F2 H2 x H2' d s s' ⟨rfl, rfl⟩ hd
  have hi : i < n := by
    rcases Nat.lt_or_ge i n with z | z
    · exact z
    · rw [List.getElem?_eq_none (by simp [rngD]; exact z)] at hd; cases hd
  simp [rngD, hi] at hd
  subst hd
  exact ⟨F2, Go.refl s', .int _⟩
def rng1 (ds : List D) (Q : List D → Prop) : Prop := match ds with
  | [.int j] => -(2 ^ 62) ≤ j ∧ j < 2 ^ 62 ∧ Q (rngD 0 j.toNat)
  | _ => False
def rng2 (ds : List D) (Q : List D → Prop) : Prop := match ds with
  | [.int i, .int j] => (-(2 ^ 62) ≤ i ∧ i < 2 ^ 62 ∧ -(2 ^ 62) ≤ j ∧ j < 2 ^ 62) ∧ Q (rngD i (j - i).toNat)
  | _ => False
theorem i_rng1 {tg a : Expr} {p : Pos} (hg : Gl X "range") (hm : X.mg "range" = none) (ha : PAp X B [a] rl) (hs : starEach [a] X.env = [(false, eval a X.env)] := by rfl) : PIp X B tg (.Call (.Name "range" p) [a] [] pos) (fun ρ Q => rl ρ fun ds => rng1 ds Q) :=
  pi_imp (pi_range1 hg hm ha hs) fun σ H R ⟨F, ρ, Qd, I, z, k⟩ => ⟨F, ρ, _, I, z, fun vs F1 H1 ds g1 t1 r1 z1 => by
    unfold rng1 at z1
    split at z1
    · cases r1 with
      | cons r1 r2 =>
        cases r1
        cases r2
        exact ⟨_, rfl, z1.1, z1.2.1, k _ F1 H1 _ g1 t1 rng_sqs z1.2.2⟩
    · exact z1.elim⟩
end
end Y
namespace Y
open PySem PySem.Spec PyProof.Rows L2 Z
/-! ### comprehensions -/
def Bs.nox (B : Bs) : Bs := { B with Ed := fun _ => False }
theorem Iv.nox {K : Frg} {B : Bs} {F H : Hp} {σ : L2.St} {ρ : Ev} (I : Iv K B F H σ ρ) : Iv K B.nox F H σ ρ := ⟨I.go, I.tp, I.len, I.val, I.own, I.sep⟩
theorem Tp.put {K : Frg} {ms : List Addr} {F H F1 H1 F2 H2 : Hp} {d : Addr} (h0 : Tp K ms F H) (hd : H d = none) (h : Tp K ms F1 H1) (g : Go [d] F1 H1 F2 H2) : Tp K ms F2 H2 := h.gox g fun m => h0.ne m hd
section
variable {X : Cx} {B : Bs} {a b c e : Expr} {es : List Expr} {ra rb rc r : Rd} {rt ru : RdT} {rl : RdA} {pos : Pos} {st : Stmt} {rest : List Stmt} {s1 s2 : RdS}
def rYes : RdT := fun _ Q => Q true
theorem c_nil : PTs X [] (tT X.K B rYes) := ⟨fun pins s σ H Q I ⟨F, ρ, Qd, J, z, k⟩ => (pts_nil (X := X)).run pins s σ H Q I (k true F H (Go.refl J.same) J.tp z)⟩
theorem lc_of {K : Frg} {t : Tg} {wi : L2.TI} {vs : List Nat} {re : Rd} (hw : ∀ i ∈ t.slots, i ∈ vs) (h0 : ∀ σ H R, tI K B rl σ H R → wi σ H R) (σ : L2.St) (H : Hp) (Q : VK) (h : tE K B (fun ρ Q => rl ρ fun ds => ds.length ≤ 100000 ∧ mapI t rt re (wipeR ρ vs) ds fun ys => Q (.lst ys)) σ H Q) :
    tLcZ wi (tgV K t) (tT K B.nox rt) (tE K B.nox re) vs σ H Q := by
  obtain ⟨F, ρ, Qd, I, z, k⟩ := h
  refine h0 _ _ _ ⟨F, ρ, _, I, z, fun J F1 H1 ds g1 t1 ⟨G, Yd, w, hG, hY⟩ ⟨hn, Jw, z1, zs, zf⟩ => ?_⟩
  have I1 := (I.step g1 t1).nox.wipes vs
  refine lc_go w t1.1 (ms := B.ms) (fun t m => t1.ne m) (fun F H => Tp K B.ms F H) t1 (fun D F1 H1 F2 H2 hD h g => t1.put hD h g) (fun F2 H2 g _ => hG F2 H2 g.ff g.fh)
    (fun i acc F2 => ∃ ys, Rps K B.ms F2 acc ys ∧ Jw i ys) ⟨[], .nil, z1⟩ (fun i acc F2 F3 s ⟨ys, h1, h2⟩ => ⟨ys, h1.up s, h2⟩) hn ?_ ?_
  · rintro i x acc F2 H2 H2' hi hl ⟨ys, hys, zz⟩ g2 t2 hy Kp Sk kp sk
    have zz := zs i ds[i] ys (List.getElem?_eq_getElem hi) zz
    obtain ⟨F3, g3, r3⟩ := hY i F2 H2 x H2' ds[i] g2.ff g2.fh hy (List.getElem?_eq_getElem hi)
    have I2 := (I1.step g2 t2).step0 g3
    have t3 := t2.go0 g3
    have e : L2.wipe (L2.wipe σ vs) vs = L2.wipe σ vs := by
      apply List.ext_getElem?
      intro j
      rw [wipe_get, L2.wipe_length, wipe_get]
      by_cases hj : j ∈ vs
      · rw [if_pos hj, if_pos hj]
      · rw [if_neg hj]
    have q := tg_wipe (K := K) (v := x) (σ := L2.wipe σ vs) (H := H2') (Q := fun σ2 H2 => tT K B.nox rt σ2 H2 fun b H3 => if b = true then tE K B.nox re σ2 H3 Kp else Sk H3) hw (tg_run I2 r3 zz fun σ4 ρ4 I4 z4 => by
      refine ⟨F3, ρ4, _, I4, z4, fun b F5 H5 g5 t5 z5 => ?_⟩
      cases b with
      | false => exact sk F5 H5 (g3.nil.trans g5) t5 ⟨ys, (hys.up g3.ff).up g5.ff, ifB_f z5⟩
      | true => exact ⟨F5, ρ4, _, I4.step g5 t5, ifB_t z5, fun v F6 H6 d g6 t6 r6 z6 => kp v F6 H6 (g3.nil.trans (g5.trans g6)) t6 ⟨ys ++ [d], (((hys.up g3.ff).up g5.ff).up g6.ff).app (.one r6), z6⟩⟩)
    rw [e] at q
    exact q
  · rintro D ys F2 H2 g2 t2 hD _ ⟨zs', hz, zz⟩
    exact k _ F2 H2 _ (g1.trans g2) t2 (.lst hD hz) (zf _ zz)
theorem y_lc {elt tg iter : Expr} {ifs : List Expr} {scope : Scope} {own : List (Str × Nat)} {t : Tg} {re : Rd} (hc : X.calm = true) (hN : X.N.Nodup) (hi : PIp X B tg iter rl) (ok : BlkOk X.N X.env.scope scope own)
    (hg : ∀ (s : Shared) (H : Hp) (C : Addr) (cl : List (Str × Addr)) (fp : List Addr), PG (X.blk s H scope (compEnvC scope cl C X.env) fp) tg (tgV X.K t)) (ht : ∀ (s : Shared) (H : Hp) (C : Addr) (cl : List (Str × Addr)) (fp : List Addr), PTs (X.blk s H scope (compEnvC scope cl C X.env) fp) ifs (tT X.K B.nox rt))
    (he : ∀ (s : Shared) (H : Hp) (C : Addr) (cl : List (Str × Addr)) (fp : List Addr), PEp (X.blk s H scope (compEnvC scope cl C X.env) fp) B.nox elt re) (hw : ∀ i ∈ t.slots, i ∈ own.map (·.2) := by decide) (hs : ∀ x, foldedSetIterable iter X.env x = pure x := by intro _; rfl) :
    PEp X B (.ListComp elt [⟨tg, iter, ifs, 0⟩] scope pos) (fun ρ Q => rl ρ fun ds => ds.length ≤ 100000 ∧ mapI t rt re (wipeR ρ (own.map (·.2))) ds fun ys => Q (.lst ys)) :=
  pe_imp (pe_lcZ (pe_lc (te := tE X.K B.nox re) hc hN hi ok hg ht he hs)) (lc_of hw fun _ _ _ z => z)
end
/-! ### defs -/
abbrev RdF := List D → (D → Prop) → (Ex → Prop) → Prop
def spP (K : Frg) (R : RdF) : Sp := fun vs H Q E => ∃ ms F ds Qd Ed, Tp K ms F H ∧ Rps K ms F vs ds ∧ R ds Qd Ed ∧ (∀ v F' H' d, Go ms F H F' H' → Tp K ms F' H' → Rp K ms F' v d → Qd d → Q v H') ∧
  (∀ cls d F' H' x, Go ms F H F' H' → Tp K ms F' H' → XR K ms F' cls d x → Ed x → E cls d H')
def EE (K : Frg) (B : Bs) : XK := fun cls d H' => ∃ F' x, Go B.ms B.F0 B.H0 F' H' ∧ Tp K B.ms F' H' ∧ XR K B.ms F' cls d x ∧ B.Ed x
abbrev Px (X : Cx) (B : Bs) : Prop := Passes (L2.CX X.prog X.w) X (EE X.K B)
def ar0 (P : (D → Prop) → (Ex → Prop) → Prop) : RdF := fun ds Q E => match ds with | [] => P Q E | _ => False
def ar1 (P : D → (D → Prop) → (Ex → Prop) → Prop) : RdF := fun ds Q E => match ds with | [a] => P a Q E | _ => False
def ar2 (P : D → D → (D → Prop) → (Ex → Prop) → Prop) : RdF := fun ds Q E => match ds with | [a, b] => P a b Q E | _ => False
def ar3 (P : D → D → D → (D → Prop) → (Ex → Prop) → Prop) : RdF := fun ds Q E => match ds with | [a, b, c] => P a b c Q E | _ => False
def ar4 (P : D → D → D → D → (D → Prop) → (Ex → Prop) → Prop) : RdF := fun ds Q E => match ds with | [a, b, c, d] => P a b c d Q E | _ => False
def ar5 (P : D → D → D → D → D → (D → Prop) → (Ex → Prop) → Prop) : RdF := fun ds Q E => match ds with | [a, b, c, d, e] => P a b c d e Q E | _ => False
section
variable {P : Program} {w : World} {K : Frg} {mg : Str → Option Value} {base : Heap}
def startE (n : Nat) (ds : List D) : Ev := ds.map Sl.val ++ List.replicate (n - ds.length) .no
theorem iv_start {B : Bs} {N : List Str} {vs : List V} {ds : List D} (t : Tp K B.ms B.F0 B.H0) (r : Rps K B.ms B.F0 vs ds) : Iv K B B.F0 B.H0 (L2.start N vs) (startE N.length ds) where
  go := Go.refl t.1
  tp := t
  len := by simp [L2.start, startE, r.len]
  val := fun i d h => by
    unfold startE at h
    have hi : i < ds.length := by
      rcases Nat.lt_or_ge i ds.length with z | z
      · exact z
      · rw [List.getElem?_append_right (by simpa using z), List.getElem?_replicate] at h
        split at h <;> cases h
    rw [List.getElem?_append_left (by simpa using hi), List.getElem?_map] at h
    have hd : ds[i]? = some d := by
      rw [List.getElem?_eq_getElem hi] at h ⊢
      simpa using h
    obtain ⟨v, h1, h2⟩ := r.get hd
    refine ⟨v, ?_, h2⟩
    unfold L2.start
    rw [List.getElem?_append_left (by simp [r.len]; exact hi), List.getElem?_map, h1]
    rfl
  own := fun i m h => by
    unfold startE at h
    rcases Nat.lt_or_ge i ds.length with z | z
    · rw [List.getElem?_append_left (by simpa using z), List.getElem?_map, List.getElem?_eq_getElem z] at h
      cases h
    · rw [List.getElem?_append_right (by simpa using z), List.getElem?_replicate] at h
      split at h <;> cases h
  sep := fun i j m n a _ h _ _ => by
    exfalso
    unfold startE at h
    rcases Nat.lt_or_ge i ds.length with z | z
    · rw [List.getElem?_append_left (by simpa using z), List.getElem?_map, List.getElem?_eq_getElem z] at h
      cases h
    · rw [List.getElem?_append_right (by simpa using z), List.getElem?_replicate] at h
      split at h <;> cases h
theorem px_of {N : List Str} {qual : Str} {scope : Scope} {f : Addr} {cdv : Value} {A : Around} {outer : List Env} {s : Shared} {H : Hp} {E : XK} {B : Bs} (h : ∀ cls d H', EE K B cls d H' → E cls d H') : Px (cxOf (L2.CX P w) P w K mg base N qual scope f cdv A outer s H E) B := by
  have tk : Takes (cxOf (L2.CX P w) P w K mg base N qual scope f cdv A outer s H E) (fun cls d _ H => E cls d H) := takes_of rfl rfl rfl rfl
  exact passes_call tk fun cls d σ H z => h cls d H z
theorem po_of {N : List Str} {qual : Str} {scope : Scope} {f : Addr} {cdv : Value} {A : Around} {outer : List Env} {s : Shared} {H : Hp} {E : XK} :
    PassesOwn (model P w) (cxOf (L2.CX P w) P w K mg base N qual scope f cdv A outer s H E).A (cxOf (L2.CX P w) P w K mg base N qual scope f cdv A outer s H E).env (cxOf (L2.CX P w) P w K mg base N qual scope f cdv A outer s H E).xe := passes_of rfl
end
/-! ### calls -/
section
variable {X : Cx} {B : Bs} {a b c e o : Expr} {es : List Expr} {ra rb rc r ro : Rd} {rt ru : RdT} {rl : RdA} {pos p0 apos : Pos} {R : RdF} {k : Nat} {f C g p : Addr} {x m : Str}
theorem sp_call {K : Frg} {F H F1 H1 : Hp} {σ : L2.St} {ρ : Ev} {vs : List V} {ds : List D} {Qd : D → Prop} {Q : VK} (I : Iv K B F H σ ρ) (kk : ∀ v F' H' d, Go B.ms F H F' H' → Tp K B.ms F' H' → Rp K B.ms F' v d → Qd d → Q v H') (g1 : Go B.ms F H F1 H1) (t1 : Tp K B.ms F1 H1) (r1 : Rps K B.ms F1 vs ds) (h : R ds Qd B.Ed) : spP K R vs H1 Q (EE K B) :=
  ⟨B.ms, F1, ds, Qd, B.Ed, t1, r1, h, fun v F2 H2 d g2 t2 r2 q2 => kk v F2 H2 d (g1.trans g2) t2 r2 q2, fun cls d F2 H2 x g2 t2 xr q => ⟨F2, x, (I.go.trans g1).trans g2, t2, xr, q⟩⟩
theorem y_call (F : FnG X.prog X.w X.K X.mg X.base (L2.CX X.prog X.w) k f (spP X.K R)) (hr : RoomG k X.A) (hg : Gl X x) (hm : X.mg x = some (.ref f)) (hk : PySem.W.keepIn X.K (.ref f) = true) (hx : Px X B)
    (ha : PAp X B (e :: es) rl) (hdb : (x == ("__debug__" : Str)) = false := by decide) (he : starEach (e :: es) X.env = (false, eval e X.env) :: starEach es X.env := by rfl) (hpl : (backTo pos (starEach es X.env)).any (·.1) = false := by rfl) :
    PEp X B (.Call (.Name x p0) (e :: es) [] pos) (fun ρ Q => rl ρ fun ds => R ds Q B.Ed) :=
  pe_imp (gcall (F.at hr) hg hm hk hx ha hdb he hpl) fun σ H Q ⟨F, ρ, Qd, I, z, k⟩ => ⟨F, ρ, _, I, z, fun vs F1 H1 ds g1 t1 r1 z1 => sp_call I k g1 t1 r1 z1⟩
/-- an object of the classes cs with the fields ns -/
def asO (cs : List Str) (ns : List Str) (o : D) (k : Prop) : Prop := match o with
  | .obj c n _ => c ∈ cs ∧ n = ns ∧ k
  | _ => False
end
end Y
namespace Y
open PySem PySem.Spec PyProof.Rows L2 Z
section
variable {X : Cx} {B : Bs} {K : Frg} {ms : List Addr}
theorem line_ge : 100000 ≤ sizeLine := by decide
/-! ### + - * // % ** -/
def dAdd (x y : D) (Q : D → Prop) : Prop := match x, y with
  | .int i, .int j => Q (.int (i + j))
  | .str s, .str t => s.length + t.length ≤ 100000 ∧ Q (.str (s ++ t))
  | .lst xs, .lst ys => xs.length + ys.length ≤ 100000 ∧ Q (.lst (xs ++ ys))
  | .tup xs, .tup ys => xs ≠ [] ∧ ys ≠ [] ∧ xs.length + ys.length ≤ 100000 ∧ Q (.tup (xs ++ ys))
  | _, _ => False
theorem op_addY : OpR X (binaryOp .Add) (fun x y H Q => rI0 (fun i j => .int (i + j)) x y H Q ∨ (∃ i j, x = .str i ∧ y = .str j ∧ i.length + j.length ≤ sizeLine ∧ Q (.str (i ++ j)) H) ∨ rCatZ x y H Q ∨ rCatT X.K x y H Q) := op_add.or (op_add_str.or (op_catZ.or op_catT))
theorem addL : OpL K ms (fun x y H Q => rI0 (fun i j => .int (i + j)) x y H Q ∨ (∃ i j, x = .str i ∧ y = .str j ∧ i.length + j.length ≤ sizeLine ∧ Q (.str (i ++ j)) H) ∨ rCatZ x y H Q ∨ rCatT K x y H Q) dAdd := by
  intro F H x y dx dy Qd Q hs rx ry h k
  unfold dAdd at h
  split at h
  · cases rx; cases ry
    exact .inl ⟨_, _, rfl, rfl, k _ F H _ (Go.refl hs) (.int _) h⟩
  · cases rx; cases ry
    exact .inr (.inl ⟨_, _, rfl, rfl, Nat.le_trans h.1 line_ge, k _ F H _ (Go.refl hs) (.str _) h.2⟩)
  · cases rx with
    | lst h1 h2 =>
      cases ry with
      | lst h3 h4 =>
        refine .inr (.inr (.inl ⟨_, _, _, _, rfl, rfl, hs _ _ h1, hs _ _ h3, by rw [h2.len, h4.len]; exact Nat.le_trans h.1 line_ge, fun p H2 hp e2 => ?_⟩))
        obtain ⟨F2, g2, q2, _⟩ := newE hs hp e2
        exact k _ F2 H2 _ g2 (.lst q2 ((h2.app h4).up g2.ff)) h.2
  · cases rx with
    | tup h1 h2 =>
      cases ry with
      | tup h3 h4 =>
        obtain ⟨n1, n2, n3, h⟩ := h
        have m1 := h2.len
        have m2 := h4.len
        refine .inr (.inr (.inr ⟨_, _, _, _, rfl, rfl, sqT hs h1, sqT hs h3, fun e => n1 ?_, by rw [m1, m2]; exact Nat.le_trans n3 line_ge, fun e => (n2 ?_).elim, fun _ p hp => ?_⟩))
        · rw [e] at m1; exact List.length_eq_zero_iff.mp m1.symm
        · rw [e] at m2; exact List.length_eq_zero_iff.mp m2.symm
        · obtain ⟨F2, g2, q2, _⟩ := newE hs hp rfl
          exact k _ F2 _ _ g2 (.tup (SqT.of q2) ((h2.app h4).up g2.ff)) h
  · exact h.elim
def dSub (x y : D) (Q : D → Prop) : Prop := match x, y with
  | .int i, .int j => Q (.int (i - j))
  | _, _ => False
theorem subL : OpL K ms (rI0 fun i j => .int (i - j)) dSub := by
  intro F H x y dx dy Qd Q hs rx ry h k
  unfold dSub at h
  split at h
  · cases rx; cases ry
    exact ⟨_, _, rfl, rfl, k _ F H _ (Go.refl hs) (.int _) h⟩
  · exact h.elim
def dMul (x y : D) (Q : D → Prop) : Prop := match x, y with
  | .int i, .int j => (Sz 5000 i ∧ Sz 5000 j) ∧ Q (.int (i * j))
  | .lst xs, .int n => (-(2 ^ 62) ≤ n ∧ n < 2 ^ 62 ∧ xs.length * n.toNat ≤ 100000) ∧ Q (.lst (List.replicate n.toNat xs).flatten)
  | _, _ => False
theorem op_repZ : OpR X (binaryOp .Mult) rRepZ := op_imp op_rep fun _ _ _ _ ⟨l, k, xs, e1, e2, h, h1, h2, hz, n⟩ => ⟨l, k, xs, e1, e2, h, h1, h2, hz, n.run⟩
theorem mulL : OpL K ms (fun x y H Q => rI CMulW (fun i j => .int (i * j)) x y H Q ∨ rRepZ x y H Q) dMul := by
  intro F H x y dx dy Qd Q hs rx ry h k
  unfold dMul at h
  split at h
  · cases rx; cases ry
    exact .inl ⟨_, _, rfl, rfl, mulOk h.1.1 h.1.2, k _ F H _ (Go.refl hs) (.int _) h.2⟩
  · cases rx with
    | lst h1 h2 =>
      cases ry
      obtain ⟨⟨a1, a2, a3⟩, h⟩ := h
      refine .inr ⟨_, _, _, rfl, rfl, hs _ _ h1, by omega, by omega, by rw [h2.len]; exact Nat.le_trans a3 line_ge, fun p H2 hp e2 => ?_⟩
      obtain ⟨F2, g2, q2, _⟩ := newE hs hp e2
      exact k _ F2 H2 _ g2 (.lst q2 ((h2.flat _).up g2.ff)) h
  · exact h.elim
/-- // and % by what is above 0 -/
def dDiv (x y : D) (Q : D → Prop) : Prop := match x, y with
  | .int i, .int j => (0 < j ∧ Sz 5000 j) ∧ Q (.int (i / j))
  | _, _ => False
def dMod (x y : D) (Q : D → Prop) : Prop := match x, y with
  | .int i, .int j => 0 < j ∧ Q (.int (i % j))
  | _, _ => False
/-- // by what is not 0 -/
def dDivZ (x y : D) (Q : D → Prop) : Prop := match x, y with
  | .int i, .int j => (j ≠ 0 ∧ Sz 8000 j) ∧ Q (.int (i.fdiv j))
  | _, _ => False
def dPow (x y : D) (Q : D → Prop) : Prop := match x, y with
  | .int i, .int j => (0 ≤ j ∧ j ≤ 1000 ∧ i.natAbs < 18446744073709551616) ∧ Q (.int (i ^ j.toNat))
  | _, _ => False
theorem powL : OpL K ms (rI CPow fun i j => .int (i ^ j.toNat)) dPow := by
  intro F H x y dx dy Qd Q hs rx ry h k
  unfold dPow at h
  split at h
  · cases rx; cases ry
    exact ⟨_, _, rfl, rfl, ⟨h.1.1, by omega, by have := h.1.2.2; omega⟩, k _ F H _ (Go.refl hs) (.int _) h.2⟩
  · exact h.elim
def dNeg (x : D) (Q : D → Prop) : Prop := match x with
  | .int i => Q (.int (-i))
  | _ => False
/-! ### < <= > >= == != is in -/
def dCmp (f : Int → Int → Bool) (x y : D) (Q : D → Prop) : Prop := match x, y with
  | .int i, .int j => Q (.bl (f i j))
  | _, _ => False
theorem cmpL {f : Int → Int → Bool} : OpL K ms (rI0 fun i j => .bl (f i j)) (dCmp f) := by
  intro F H x y dx dy Qd Q hs rx ry h k
  unfold dCmp at h
  split at h
  · cases rx; cases ry
    exact ⟨_, _, rfl, rfl, k _ F H _ (Go.refl hs) (.bl _) h⟩
  · exact h.elim
def dEq (x y : D) (Q : D → Prop) : Prop := match x, y with
  | .int i, .int j => Q (.bl (decide (i = j)))
  | .str i, .str j => Q (.bl (decide (i = j)))
  | .bl i, .bl j => Q (.bl (decide (i = j)))
  | _, _ => (okD 8 x = true ∧ okD 8 y = true) ∧ Q (.bl (eqD x y))
def dNe (x y : D) (Q : D → Prop) : Prop := match x, y with
  | .int i, .int j => Q (.bl (!decide (i = j)))
  | .str i, .str j => Q (.bl (!decide (i = j)))
  | .bl i, .bl j => Q (.bl (!decide (i = j)))
  | _, _ => (okD 8 x = true ∧ okD 8 y = true) ∧ Q (.bl (!eqD x y))
theorem shaped_of {n : Nat} {e : PyData} (h1 : e.canLay0 = true) (h2 : e.depth ≤ n) (hn : n ≤ 64) : SeqAt.shaped e = true := by
  unfold SeqAt.shaped
  rw [h1, Bool.true_and]
  exact decide_eq_true (by omega)
theorem eqL : OpL K ms (fun x y H Q => rEq x y H Q ∨ rEqD K x y H Q) dEq := by
  intro F H x y dx dy Qd Q hs rx ry h k
  unfold dEq at h
  split at h
  · cases rx; cases ry
    refine .inl ⟨rfl, k _ F H _ (Go.refl hs) (.bl _) ?_⟩
    simpa using h
  · cases rx; cases ry
    refine .inl ⟨rfl, k _ F H _ (Go.refl hs) (.bl _) ?_⟩
    simpa using h
  · cases rx; cases ry
    refine .inl ⟨rfl, k _ F H _ (Go.refl hs) (.bl _) ?_⟩
    simpa using h
  · obtain ⟨⟨h1, h2⟩, h⟩ := h
    obtain ⟨e1, a1, a2, a3⟩ := okD_pd 8 _ h1
    obtain ⟨e2, b1, b2, b3⟩ := okD_pd 8 _ h2
    refine .inr ⟨e1, e2, dp_mono hs _ _ (dp_of _ _ _ a1 rx), dp_mono hs _ _ (dp_of _ _ _ b1 ry), shaped_of a2 a3 (by decide), shaped_of b2 b3 (by decide), k _ F H _ (Go.refl hs) (.bl _) ?_⟩
    rw [← eqD_pd _ _ _ _ a1 b1]
    exact h
theorem neL : OpL K ms (fun x y H Q => rNe x y H Q ∨ rNeD K x y H Q) dNe := by
  intro F H x y dx dy Qd Q hs rx ry h k
  unfold dNe at h
  split at h
  · cases rx; cases ry
    refine .inl ⟨rfl, k _ F H _ (Go.refl hs) (.bl _) ?_⟩
    simpa using h
  · cases rx; cases ry
    refine .inl ⟨rfl, k _ F H _ (Go.refl hs) (.bl _) ?_⟩
    simpa using h
  · cases rx; cases ry
    refine .inl ⟨rfl, k _ F H _ (Go.refl hs) (.bl _) ?_⟩
    simpa using h
  · obtain ⟨⟨h1, h2⟩, h⟩ := h
    obtain ⟨e1, a1, a2, a3⟩ := okD_pd 8 _ h1
    obtain ⟨e2, b1, b2, b3⟩ := okD_pd 8 _ h2
    refine .inr ⟨e1, e2, dp_mono hs _ _ (dp_of _ _ _ a1 rx), dp_mono hs _ _ (dp_of _ _ _ b1 ry), shaped_of a2 a3 (by decide), shaped_of b2 b3 (by decide), k _ F H _ (Go.refl hs) (.bl _) ?_⟩
    rw [← eqD_pd _ _ _ _ a1 b1]
    exact h
def isNon : D → Bool
  | .non => true
  | _ => false
def dIsN (x y : D) (Q : D → Prop) : Prop := match y with
  | .non => Q (.bl (isNon x))
  | _ => False
def dNotN (x y : D) (Q : D → Prop) : Prop := match y with
  | .non => Q (.bl (!isNon x))
  | _ => False
/-- x in a list of data, in a tuple of flat data, in a text -/
def flatD : D → Bool
  | .non | .bl _ | .int _ | .str _ => true
  | _ => false
def anyD (x : D) (ds : List D) : Bool := ds.any fun z => eqD z x
def dIn (neg : Bool) (x y : D) (Q : D → Prop) : Prop := match x, y with
  | .str s, .str t => Q (.bl (neg != !(Builtin.Str.occurrences t s 0 t.length 1).isEmpty))
  | x, .lst ds => (okD 8 x = true ∧ okD 8 (.lst ds) = true) ∧ Q (.bl (neg != anyD x ds))
  | x, .tup ds => (flatD x = true ∧ ds.all flatD = true) ∧ Q (.bl (neg != anyD x ds))
  | _, _ => False
theorem pds_any {x : D} {e : PyData} (hx : pd x = some e) : ∀ {ds : List D} {es : List PyData}, pds ds = some es → (es.any fun z => PyData.eqv z e) = anyD x ds
  | [], _, h => by cases h; rfl
  | d :: ds, _, h => by
    obtain ⟨a, r, h1, h2, rfl⟩ := pds_cons h
    have := pds_any hx h2
    simp only [anyD, List.any_cons] at this ⊢
    rw [← eqD_pd _ _ _ _ h1 hx, this]
theorem flat_of {F : Hp} {x : V} {d : D} (r : Rp K ms F x d) (h : flatD d = true) : flatV x = true := by
  cases r <;> first | rfl | simp [flatD] at h
theorem flats_of {F : Hp} : ∀ {xs : List V} {ds : List D}, Rps K ms F xs ds → ds.all flatD = true → xs.all flatV = true
  | [], [], _, _ => rfl
  | _ :: _, _ :: _, h, z => by
    cases h with
    | cons h1 h2 =>
      rw [List.all_cons, Bool.and_eq_true] at z ⊢
      exact ⟨flat_of h1 z.1, flats_of h2 z.2⟩
  | [], _ :: _, h, _ => by cases h
  | _ :: _, [], h, _ => by cases h
theorem eqV_of {F : Hp} {x y : V} {d e : D} (r : Rp K ms F x d) (r' : Rp K ms F y e) (h : flatD d = true) (h' : flatD e = true) : eqV x y = eqD d e := by
  cases r <;> cases r' <;> first | rfl | (simp [flatD] at h; done) | (simp [flatD] at h'; done) | (simp [eqV, eqD]; done)
theorem inV_of {F : Hp} {x : V} {d : D} (r : Rp K ms F x d) (h : flatD d = true) : ∀ {xs : List V} {ds : List D}, Rps K ms F xs ds → ds.all flatD = true → inV x xs = anyD d ds
  | [], [], _, _ => rfl
  | _ :: _, _ :: _, q, z => by
    cases q with
    | cons h1 h2 =>
      rw [List.all_cons, Bool.and_eq_true] at z
      have := inV_of r h h2 z.2
      simp only [inV, anyD, List.any_cons] at this ⊢
      rw [eqV_of h1 r z.1 h, this]
  | [], _ :: _, h, _ => by cases h
  | _ :: _, [], h, _ => by cases h
theorem inL : OpL K ms (fun x y H Q => (∃ i j, x = .str i ∧ y = .str j ∧ Q (.bl (!(Builtin.Str.occurrences j i 0 j.length 1).isEmpty)) H) ∨ rInD K x y H Q ∨ rIn K false x y H Q) (dIn false) := by
  intro F H x y dx dy Qd Q hs rx ry h k
  unfold dIn at h
  split at h
  · cases rx; cases ry
    refine .inl ⟨_, _, rfl, rfl, k _ F H _ (Go.refl hs) (.bl _) ?_⟩
    simpa using h
  · obtain ⟨⟨h1, h2⟩, h⟩ := h
    obtain ⟨e1, a1, a2, a3⟩ := okD_pd 8 _ h1
    obtain ⟨e2, b1, b2, b3⟩ := okD_pd 8 _ h2
    simp [pd] at b1
    obtain ⟨es, b1, rfl⟩ := b1
    refine .inr (.inl ⟨e1, es, dp_mono hs _ _ (dp_of _ _ _ a1 rx), dp_mono hs _ _ (dp_of (K := K) (ms := ms) _ _ _ (by simp [pd, b1]) ry), shaped_of a2 a3 (by decide), shaped_of b2 b3 (by decide), k _ F H _ (Go.refl hs) (.bl _) ?_⟩)
    rw [pds_any a1 b1]
    simpa using h
  · cases ry with
    | tup h1 h2 =>
      obtain ⟨⟨f1, f2⟩, h⟩ := h
      refine .inr (.inr ⟨_, _, rfl, .inr (sqT hs h1), flat_of rx f1, flats_of h2 f2, k _ F H _ (Go.refl hs) (.bl _) ?_⟩)
      rw [if_neg (by decide), inV_of rx f1 h2 f2]
      simpa using h
  · exact h.elim
theorem op_inY (hu : X.A.units + 65 < cLine) : OpR X (compareOp .In) (fun x y H Q => (∃ i j, x = .str i ∧ y = .str j ∧ Q (.bl (!(Builtin.Str.occurrences j i 0 j.length 1).isEmpty)) H) ∨ rInD X.K x y H Q ∨ rIn X.K false x y H Q) := op_in_str.or ((op_inD hu).or op_in_seq)
theorem op_eqY (hu : X.A.units + 64 < cLine) : OpR X (compareOp .Eq) (fun x y H Q => rEq x y H Q ∨ rEqD X.K x y H Q) := op_eq.or (op_eqD hu)
theorem op_neY (hu : X.A.units + 64 < cLine) : OpR X (compareOp .NotEq) (fun x y H Q => rNe x y H Q ∨ rNeD X.K x y H Q) := op_ne.or (op_neD hu)
theorem op_mulY : OpR X (binaryOp .Mult) (fun x y H Q => rI CMulW (fun i j => .int (i * j)) x y H Q ∨ rRepZ x y H Q) := op_mulW.or op_repZ
end
end Y
namespace Y
open PySem PySem.Spec PyProof.Rows L2 Z
section
variable {X : Cx} {B : Bs} {K : Frg} {ms : List Addr} {a b c e o : Expr} {es : List Expr} {ra rb rc r ro : Rd} {rt ru : RdT} {rl : RdA} {pos p0 apos : Pos} {R : RdF} {k : Nat} {f C g p : Addr} {x m : Str} {s1 s2 : RdS}
/-! ### xs[i], xs[i:j] -/
def dIx (x y : D) (Q : D → Prop) : Prop := match x, y with
  | .lst ds, .int i => (match atI ds i with | some d => Q d | none => False)
  | .tup ds, .int i => (match atI ds i with | some d => Q d | none => False)
  | .str s, .int i => s.length ≤ 100000 ∧ (match atI s.cps.toList i with | some c => Q (.str ⟨#[c]⟩) | none => False)
  | _, _ => False
theorem atI_rps {F : Hp} {vs : List V} {ds : List D} {i : Int} {d : D} (r : Rps K ms F vs ds) (h : atI ds i = some d) : ∃ v, atI vs i = some v ∧ Rp K ms F v d := by
  unfold atI at h ⊢
  rw [r.len]
  cases e : ixN ds.length i with
  | none => rw [e] at h; cases h
  | some j =>
    rw [e] at h
    obtain ⟨v, h1, h2⟩ := r.get (i := j) (d := d) h
    exact ⟨v, h1, h2⟩
theorem ixL' : OpL K ms (rIx K) dIx := by
  intro F H x y dx dy Qd Q hs rx ry h k
  unfold dIx at h
  split at h
  · split at h
    · rename_i d e
      cases rx with
      | lst h1 h2 =>
        cases ry
        obtain ⟨v, e1, e2⟩ := atI_rps h2 e
        exact .inl ⟨_, _, _, v, rfl, rfl, SqL.of (hs _ _ h1), e1, k v F H d (Go.refl hs) e2 h⟩
    · exact h.elim
  · split at h
    · rename_i d e
      cases rx with
      | tup h1 h2 =>
        cases ry
        obtain ⟨v, e1, e2⟩ := atI_rps h2 e
        exact .inr (.inl ⟨_, _, _, v, rfl, rfl, sqT hs h1, e1, k v F H d (Go.refl hs) e2 h⟩)
    · exact h.elim
  · obtain ⟨hz, h⟩ := h
    split at h
    · rename_i d e
      cases rx
      cases ry
      exact .inr (.inr ⟨_, _, _, rfl, rfl, Nat.le_trans hz line_ge, e, k _ F H _ (Go.refl hs) (.str _) h⟩)
    · exact h.elim
  · exact h.elim
theorem y_ix (ha : PEp X B a ra) (hb : PEp X B b rb) (hs : PlainIx b) : PEp X B (.Subscript a b pos) (fun ρ Q => ra ρ fun x => rb ρ fun y => dIx x y Q) := pe_imp (pe_ix ix_seq ha hb hs) (tOp_of ixL')
def cutD {α : Type} (xs : List α) (lo hi : Option Int) : List α := (xs.drop (HT.sIx xs.length 0 lo)).take (HT.sIx xs.length xs.length hi - HT.sIx xs.length 0 lo)
@[irreducible] def dSl (x : D) (lo hi : Option Int) (Q : D → Prop) : Prop := match x with
  | .lst ds => Q (.lst (cutD ds lo hi))
  | .str s => s.length ≤ 100000 ∧ Q (.str (cutS s lo hi))
  | .tup ds => ¬ (HT.sIx ds.length 0 lo = 0 ∧ HT.sIx ds.length ds.length hi = ds.length) ∧ Q (.tup (cutD ds lo hi))
  | _ => False
def asI (d : D) (Q : Int → Prop) : Prop := match d with
  | .int i => Q i
  | _ => False
/-! ### fields, properties -/
def fldD (cs ns : List Str) (j : Nat) (o : D) (Q : D → Prop) : Prop := match o with
  | .obj c n ds => (c ∈ cs ∧ n = ns) ∧ (match ds[j]? with | some d => Q d | none => False)
  | _ => False
/-! ### builtins -/
def CalL (K : Frg) (ms : List Addr) (r : List V → Hp → VK → Prop) (g : List D → (D → Prop) → Prop) : Prop := ∀ (F H : Hp) (xs : List V) (ds : List D) (Qd : D → Prop) (Q : VK), Same F H → Rps K ms F xs ds → g ds Qd → (∀ v F' H' d, Go [] F H F' H' → Rp K ms F' v d → Qd d → Q v H') → r xs H Q
theorem tCB_of {q : List V → Hp → VK → Prop} {g : List D → (D → Prop) → Prop} (hl : CalL X.K B.ms q g) (σ : L2.St) (H : Hp) (Q : VK) (h : tE X.K B (fun ρ Q => rl ρ fun ds => g ds Q) σ H Q) : tCB q (tA X.K B rl) σ H Q := by
  obtain ⟨F, ρ, Qd, I, z, k⟩ := h
  exact ⟨F, ρ, _, I, z, fun vs F1 H1 ds g1 t1 r1 z1 => hl F1 H1 vs ds Qd Q t1.1 r1 z1 fun w F2 H2 e g2 r2 z2 => k w F2 H2 e (g1.trans g2.nil) (t1.go0 g2) r2 z2⟩
theorem y_callB {id : String} {q : List V → Hp → VK → Prop} {g : List D → (D → Prop) → Prop} (hc : CallR X (.builtin id) q) (hl : CalL X.K B.ms q g) (hg : Gl X x) (hm : X.mg x = none) (hv : bootBuiltins x = some (.builtin id)) (ha : PAp X B (e :: es) rl) (hn : x ≠ "__name__" := by decide) (hdb : (x == ("__debug__" : Str)) = false := by decide)
    (he : starEach (e :: es) X.env = (false, eval e X.env) :: starEach es X.env := by rfl) (hpl : (backTo pos (starEach es X.env)).any (·.1) = false := by rfl) : PEp X B (.Call (.Name x p0) (e :: es) [] pos) (fun ρ Q => rl ρ fun ds => g ds Q) := pe_imp (pe_callB hc hg hm hv ha hn hdb he hpl) (tCB_of hl)
theorem rps1 {F : Hp} {xs : List V} {d : D} (r : Rps K ms F xs [d]) : ∃ x, xs = [x] ∧ Rp K ms F x d := by
  cases r with
  | cons r1 r2 => cases r2; exact ⟨_, rfl, r1⟩
theorem rps2 {F : Hp} {xs : List V} {d e : D} (r : Rps K ms F xs [d, e]) : ∃ x y, xs = [x, y] ∧ Rp K ms F x d ∧ Rp K ms F y e := by
  cases r with
  | cons r1 r2 =>
    obtain ⟨y, rfl, r3⟩ := rps1 r2
    exact ⟨_, _, rfl, r1, r3⟩
def dLen (ds : List D) (Q : D → Prop) : Prop := match ds with
  | [.lst xs] => Q (.int (xs.length : Int))
  | [.tup xs] => Q (.int (xs.length : Int))
  | [.str s] => s.length ≤ 100000 ∧ Q (.int (s.length : Int))
  | _ => False
def dAbs (ds : List D) (Q : D → Prop) : Prop := match ds with
  | [.int i] => Q (.int (if i < 0 then -i else i))
  | _ => False
def blsOf : List D → Option (List Bool)
  | [] => some []
  | .bl b :: ds => (blsOf ds).map (b :: ·)
  | _ => none
def dAll (f : List Bool → Bool) (ds : List D) (Q : D → Prop) : Prop := match ds with
  | [.lst xs] => (match blsOf xs with | some bs => Q (.bl (f bs)) | none => False)
  | _ => False
def dList (ds : List D) (Q : D → Prop) : Prop := match ds with
  | [.lst xs] => Q (.lst xs)
  | [.tup xs] => Q (.lst xs)
  | _ => False
def dTuple (ds : List D) (Q : D → Prop) : Prop := match ds with
  | [.lst xs] => Q (.tup xs)
  | [.tup xs] => Q (.tup xs)
  | _ => False
/-! ### isinstance -/
def dIsB (cs : List Str) (T : String) (d : D) (Q : D → Prop) : Prop := match d with
  | .non => Q (.bl false)
  | .bl _ => Q (.bl (T == "bool" || T == "int"))
  | .int _ => Q (.bl (T == "int"))
  | .str _ => Q (.bl (T == "str"))
  | .lst _ => Q (.bl (T == "list"))
  | .tup _ => Q (.bl (T == "tuple"))
  | .dic _ _ => Q (.bl (T == "dict"))
  | .obj c _ _ => c ∈ cs ∧ Q (.bl false)
  | _ => False
def dIs2 (g : D → (D → Prop) → Prop) (c : D) (ds : List D) (Q : D → Prop) : Prop := match ds with
  | [x, y] => y = c ∧ g x Q
  | _ => False
def dIsO (cs cs' : List Str) (d : D) (Q : D → Prop) : Prop := match d with
  | .obj c _ _ => (c ∈ cs ∧ Q (.bl true)) ∨ (c ∈ cs' ∧ Q (.bl false))
  | .non | .bl _ | .int _ | .str _ | .lst _ | .tup _ | .dic _ _ => Q (.bl false)
  | _ => False
end
end Y
namespace Y
open PySem PySem.Spec PyProof.Rows L2 Z
/-! ### things that one slot holds -/
section
variable {K : Frg} {B : Bs} {F H F' H' : Hp} {σ : L2.St} {ρ : Ev}
theorem Tp.nms {ms : List Addr} {p : Addr} (t : Tp K ms F H) (hp : H p = none) : p ∉ ms := fun m => t.ne m hp
theorem go_none {ms : List Addr} {F0 H0 F H : Hp} {p : Addr} (g : Go ms F0 H0 F H) (hf : Same F0 H0) (hp : H p = none) (hm : p ∉ ms) : H0 p = none := by
  cases e : H0 p with
  | none => rfl
  | some o =>
    cases e2 : F0 p with
    | some o' => have := g.fh p o' (g.ff p o' e2); rw [hp] at this; cases this
    | none => have := (g.mu p o hm e2 e).2; rw [hp] at this; cases this
/-- a new thing comes into a slot -/
theorem Iv.newM (I : Iv K B F H σ ρ) (h0 : Same B.F0 B.H0) {p : Addr} {o : HO} {m : Mo} {H2 : Hp} (i : Nat) (hp : H p = none) (e : H2 = upd H p o) (r : MoR K B.ms F p m o) : Iv K B F H2 (σ.set i (some (.ref p))) (ρ.set i (.mu m)) := by
  have nm := I.tp.nms hp
  have g : Go [] F H F H2 := by rw [e]; exact Go.newM I.same hp
  have I2 := I.step0 g
  have hn : ∀ (j : Nat) (n : Mo), ρ[j]? = some (.mu n) → σ[j]? ≠ some (some (.ref p)) := fun j n h z => by
    obtain ⟨a, o', h1, h2, h3, h4, h5, h6⟩ := I.own j n h
    rw [z] at h1
    cases h1
    rw [hp] at h5
    cases h5
  have hl := I.len
  refine ⟨I2.go, I2.tp, by rw [List.length_set, List.length_set]; exact I.len, fun j d h => ?_, fun j n h => ?_, fun j k n n' a hjk h1 h2 h3 => ?_⟩
  · by_cases hij : i = j
    · subst hij
      rcases Nat.lt_or_ge i ρ.length with z | z
      · rw [List.getElem?_set_self z] at h; cases h
      · rw [List.getElem?_eq_none (by rw [List.length_set]; exact z)] at h; cases h
    · rw [List.getElem?_set_ne hij] at h ⊢
      exact I2.val j d h
  · by_cases hij : i = j
    · subst hij
      rcases Nat.lt_or_ge i ρ.length with z | z
      · rw [List.getElem?_set_self z] at h
        cases h
        exact ⟨p, o, List.getElem?_set_self (by omega), same_none I.same hp, nm, go_none I.go h0 hp nm, by rw [e]; exact upd_same, r⟩
      · rw [List.getElem?_eq_none (by rw [List.length_set]; exact z)] at h; cases h
    · rw [List.getElem?_set_ne hij] at h ⊢
      exact I2.own j n h
  · by_cases hij : i = j
    · subst hij
      have hik : i ≠ k := hjk
      rw [List.getElem?_set_ne hik] at h2 ⊢
      rcases Nat.lt_or_ge i σ.length with z | z
      · rw [List.getElem?_set_self z] at h3
        cases h3
        exact hn k n' h2
      · rw [List.getElem?_eq_none (by rw [List.length_set]; exact z)] at h3; cases h3
    · rw [List.getElem?_set_ne hij] at h1 h3
      by_cases hik : i = k
      · subst hik
        rcases Nat.lt_or_ge i σ.length with z | z
        · rw [List.getElem?_set_self z]
          intro q
          cases q
          exact hn j n h1 h3
        · rw [List.getElem?_eq_none (by rw [List.length_set]; exact z)]
          intro q; cases q
      · rw [List.getElem?_set_ne hik] at h2 ⊢
        exact I.sep j k n n' a hjk h1 h2 h3
/-- a thing changes in its place -/
theorem Iv.put (I : Iv K B F H σ ρ) {a : Addr} {o : HO} {m m' : Mo} {H2 : Hp} (i : Nat) (hi : ρ[i]? = some (.mu m)) (ha : σ[i]? = some (some (.ref a))) (e : H2 = upd H a o) (r : MoR K B.ms F a m' o) : Iv K B F H2 σ (ρ.set i (.mu m')) := by
  obtain ⟨a', o', h1, fa, nm, h0, h5, _⟩ := I.own i m hi
  rw [ha] at h1
  cases h1
  have gp : Go [a] F H F H2 := by rw [e]; exact Go.put I.same fa
  have go : Go B.ms B.F0 B.H0 F H2 := ((I.go.sub (ms' := a :: B.ms) fun x hx => List.mem_cons_of_mem _ hx).trans (gp.sub fun x hx => by
    have : x = a := by simpa using hx
    rw [this]; exact List.mem_cons_self)).drop h0
  have ho : ∀ b, b ≠ a → H2 b = H b := fun b hb => by rw [e]; exact upd_ne hb
  refine ⟨go, I.tp.gox gp nm, by rw [List.length_set]; exact I.len, fun j d h => ?_, fun j n h => ?_, fun j k n n' b hjk h1 h2 h3 => ?_⟩
  · by_cases hij : i = j
    · subst hij
      rcases Nat.lt_or_ge i ρ.length with z | z
      · rw [List.getElem?_set_self z] at h; cases h
      · rw [List.getElem?_eq_none (by rw [List.length_set]; exact z)] at h; cases h
    · rw [List.getElem?_set_ne hij] at h
      exact I.val j d h
  · by_cases hij : i = j
    · subst hij
      rcases Nat.lt_or_ge i ρ.length with z | z
      · rw [List.getElem?_set_self z] at h
        cases h
        exact ⟨a, o, ha, fa, nm, h0, by rw [e]; exact upd_same, r⟩
      · rw [List.getElem?_eq_none (by rw [List.length_set]; exact z)] at h; cases h
    · rw [List.getElem?_set_ne hij] at h
      obtain ⟨b, u, b1, b2, b3, b4, b5, b6⟩ := I.own j n h
      have hb : b ≠ a := fun q => by
        subst q
        exact I.sep i j m n b hij hi h ha b1
      exact ⟨b, u, b1, b2, b3, b4, by rw [ho b hb]; exact b5, b6⟩
  · have w : ∀ (q : Nat) (n : Mo), (ρ.set i (.mu m'))[q]? = some (.mu n) → ∃ n' : Mo, ρ[q]? = some (.mu n') := fun q n h => by
      by_cases hq : i = q
      · subst hq; exact ⟨m, hi⟩
      · rw [List.getElem?_set_ne hq] at h; exact ⟨n, h⟩
    obtain ⟨n1, w1⟩ := w j n h1
    obtain ⟨n2, w2⟩ := w k n' h2
    exact I.sep j k n1 n2 b hjk w1 w2 h3
/-- a list that grew is plain data from now on -/
theorem Iv.freeze (I : Iv K B F H σ ρ) {ds : List D} (i : Nat) (hi : ρ[i]? = some (.mu (.lst ds))) : ∃ F2, Same F F2 ∧ Iv K B F2 H σ (ρ.set i (.val (.lst ds))) := by
  obtain ⟨a, o, ha, fa, nm, h0, h5, vs, rfl, hr⟩ := I.own i _ hi
  have gp : Go [a] F H (upd F a (.lst vs)) H := Go.freeze I.same fa h5
  have go : Go B.ms B.F0 B.H0 (upd F a (.lst vs)) H := ((I.go.sub (ms' := a :: B.ms) fun x hx => List.mem_cons_of_mem _ hx).trans (gp.sub fun x hx => by
    have : x = a := by simpa using hx
    rw [this]; exact List.mem_cons_self)).drop h0
  refine ⟨upd F a (.lst vs), gp.ff, go, I.tp.gox gp nm, by rw [List.length_set]; exact I.len, fun j d h => ?_, fun j n h => ?_, fun j k n n' b hjk h1 h2 h3 => ?_⟩
  · by_cases hij : i = j
    · subst hij
      rcases Nat.lt_or_ge i ρ.length with z | z
      · rw [List.getElem?_set_self z] at h
        cases h
        exact ⟨.ref a, ha, .lst upd_same (hr.up gp.ff)⟩
      · rw [List.getElem?_eq_none (by rw [List.length_set]; exact z)] at h; cases h
    · rw [List.getElem?_set_ne hij] at h
      obtain ⟨v, h1, h2⟩ := I.val j d h
      exact ⟨v, h1, h2.up gp.ff⟩
  · by_cases hij : i = j
    · subst hij
      rcases Nat.lt_or_ge i ρ.length with z | z
      · rw [List.getElem?_set_self z] at h; cases h
      · rw [List.getElem?_eq_none (by rw [List.length_set]; exact z)] at h; cases h
    · rw [List.getElem?_set_ne hij] at h
      obtain ⟨b, u, b1, b2, b3, b4, b5, b6⟩ := I.own j n h
      have hb : b ≠ a := fun q => by
        subst q
        exact I.sep i j _ n b hij hi h ha b1
      exact ⟨b, u, b1, by rw [upd_ne hb]; exact b2, b3, b4, b5, b6.up gp.ff⟩
  · have w : ∀ (q : Nat) (n : Mo), (ρ.set i (.val (.lst ds)))[q]? = some (.mu n) → ρ[q]? = some (.mu n) := fun q n h => by
      by_cases hq : i = q
      · subst hq
        rcases Nat.lt_or_ge i ρ.length with z | z
        · rw [List.getElem?_set_self z] at h; cases h
        · rw [List.getElem?_eq_none (by rw [List.length_set]; exact z)] at h; cases h
      · rw [List.getElem?_set_ne hq] at h; exact h
    exact I.sep j k n n' b hjk (w _ _ h1) (w _ _ h2) h3
end
section
variable {X : Cx} {B : Bs} {K : Frg} {ms : List Addr} {a b c e o : Expr} {es : List Expr} {ra rb rc r ro : Rd} {rt ru : RdT} {rl : RdA} {pos p0 apos : Pos} {R : RdF} {k : Nat} {f C g p : Addr} {x m : Str} {s1 s2 : RdS}
def appM (i : Nat) (ρ : Ev) (d : D) (Q : Ev → Prop) : Prop := match ρ[i]? with
  | some (.mu (.lst ds)) => ds.length < 100000 ∧ Q (ρ.set i (.mu (.lst (ds ++ [d]))))
  | _ => False
def frzM (i : Nat) (ρ : Ev) (Q : Ev → Prop) : Prop := match ρ[i]? with
  | some (.mu (.lst ds)) => Q (ρ.set i (.val (.lst ds)))
  | _ => False
/-! ### operators of own classes -/
/-- both of the own class C -/
def dBinO (B : Bs) (R : RdF) (C : Str) (ns : List Str) (x y : D) (Q : D → Prop) : Prop := asO [C] ns x (asO [C] ns y (R [x, y] Q B.Ed))
/-- == and != of an own class: the right one any value with a type that is known -/
def dEqO (B : Bs) (R : RdF) (neg : Bool) (C : Str) (ns cs : List Str) (x y : D) (Q : D → Prop) : Prop := asO [C] ns x ((match y with | .obj c _ _ => c ∈ cs | .ty _ | .glob _ | .tape | .fn _ | .dpl _ _ => False | _ => True) ∧ R [x, y] (fun d => tst d fun b => Q (.bl (neg != b))) B.Ed)
/-- x in o -/
def dInO (B : Bs) (R : RdF) (neg : Bool) (C : Str) (ns : List Str) (x y : D) (Q : D → Prop) : Prop := asO [C] ns y (R [y, x] (fun d => tst d fun b => Q (.bl (neg != b))) B.Ed)
end
end Y
namespace Y
open PySem PySem.Spec PyProof.Rows L2 Z
/-! ### making instances -/
def finI (x : Addr) (C : Str) (Q : D → Prop) (ρ : Ev) : Prop := match ρ[0]? with
  | some (Sl.mu (Mo.ins y c ns fs)) => (y = x ∧ c = C) ∧ Q (.obj c ns fs)
  | _ => False
section
variable {P : Program} {w : World} {K : Frg} {mg : Str → Option Value} {base : Heap}
/-! ### a def with one default -/
end
end Y
namespace Y
open PySem PySem.Spec PyProof.Rows L2 Z
section
variable {X : Cx} {B : Bs} {K : Frg} {ms : List Addr} {a b c e o : Expr} {es : List Expr} {ra rb rc r ro : Rd} {rt ru : RdT} {rl : RdA} {pos p0 apos : Pos} {R : RdF} {k : Nat} {f g p : Addr} {x m : Str} {s1 s2 : RdS}
def putM (C : Str) (ns : List Str) (fl : Str) (i : Nat) (ρ : Ev) (d : D) (Q : Ev → Prop) : Prop := match ρ[i]? with
  | some (Sl.mu (Mo.ins y c n ds)) => (c = C ∧ n = ns) ∧ Q (ρ.set i (.mu (.ins y C (ns ++ [fl]) (ds ++ [d]))))
  | _ => False
/-! ### static methods, class methods -/
structure SMet (K : Frg) (C : Addr) (m : Str) (p g : Addr) : Prop where
  rd : ClX.CRead K C (.type "type")
  at_ : PySem.W.findCls K (.ref C) (.type "type") m = some (.get (.builtin "staticmethod.__get__") (.ref p) .none (.ref C))
  rc : ∃ rest, PySem.W.recIn K p "staticmethod" = some (.ref g :: rest)
  kp : PySem.W.keepIn K (.ref g) = true
/-- C.m(*e) -/
def starD (d : D) (Q : List D → Prop) : Prop := match d with
  | .lst ds => Q ds
  | .tup ds => Q ds
  | _ => False
end
end Y
namespace Y
open PySem PySem.Spec PyProof.Rows L2 Z
section
variable {P : Program} {w : World} {K : Frg} {mg : Str → Option Value} {base : Heap}
/-- the tape's draw, as a plain promise -/
def rDraw : RdF := ar2 fun t n Q _ => match t, n with
  | .tape, .int n => (0 < n ∧ Sz 8000 n) ∧ ∀ d, 0 ≤ d → d < n → Q (.int d)
  | _, _ => False
theorem draw_of {k : Nat} {f : Addr} {CX : CXT} (F : FnR P w K mg base CX k f (spDraw K)) : FnG P w K mg base CX k f (spP K rDraw) := (FnG.of F).imp fun vs H Q E h => by
  obtain ⟨ms, F, ds, Qd, Ed, t, r, h, kq, ke⟩ := h
  unfold rDraw ar2 at h
  split at h
  · split at h
    · obtain ⟨v, u, rfl, r1, r2⟩ := rps2 r
      cases r2
      cases r1 with
      | @tape tt mt nt =>
        refine ⟨_, _, rfl, F, tt, _, rfl, rfl, t.1, t.tape _ mt nt, h.1.1, szLog h.1.2, fun d H' d0 d1 g tp => ?_⟩
        refine kq _ F H' _ (g.sub fun y hy => ?_) ⟨g.fh, fun y my ny => ?_, fun p hp => ⟨(t.tabs p hp).1, (t.tabs p hp).2.go g fun z => ?_⟩⟩ (.int d) (h.2 d d0 d1)
        · have : y = tt := by simpa using hy
          rw [this]; exact mt
        · by_cases e : y = tt
          · subst e; exact tp
          · exact (t.tape y my ny).go g (by simpa using e)
        · have e : p.1 = tt := by simpa using z
          exact nt (e ▸ List.mem_map.mpr ⟨p, hp, rfl⟩)
    · exact h.elim
  · exact h.elim
/-- law's promise, where the tables are empty -/
def spLawT (K : Frg) : Sp := Sp1 fun a H Q _ => ∃ (s : Addr) (ns : List Int), a = .ref s ∧ ns.length ≤ 63 ∧ SqL K H s (ns.map V.int) ∧ (∀ p ∈ tabsOf K, H p.1 = some (.tbl #[])) ∧ ∀ H', Q (.bl true) H'
/-- the heap but for the tables -/
def noTb (K : Frg) (H : Hp) : Hp := fun b => if b ∈ tabA K then none else H b
theorem noTb_same {K : Frg} {H : Hp} : Same (noTb K H) H := fun b u e => by
  unfold noTb at e
  split at e
  · cases e
  · exact e
theorem noTb_ne {K : Frg} {H : Hp} {a : Addr} (h : a ∉ tabA K) : noTb K H a = H a := if_neg h
theorem tab_in {K : Frg} {H : Hp} {a : Addr} (hT : ∀ p ∈ tabsOf K, H p.1 = some (.tbl #[])) (m : a ∈ tabA K) : H a = some (.tbl #[]) := by
  obtain ⟨p, hp, rfl⟩ := List.mem_map.mp m
  exact hT p hp
theorem noTb_sq {K : Frg} {H : Hp} {a : Addr} {xs : List V} (hT : ∀ p ∈ tabsOf K, H p.1 = some (.tbl #[])) (h : SqL K H a xs) : SqL K (noTb K H) a xs := by
  rcases h with (h | ⟨o, h⟩) | h
  · exact .inl (.inl (by show noTb K H a = _; rw [noTb_ne fun m => by rw [tab_in hT m] at h; cases h]; exact h))
  · exact .inl (.inr ⟨o, by show noTb K H a = _; rw [noTb_ne fun m => by rw [tab_in hT m] at h; cases h]; exact h⟩)
  · exact .inr h
theorem noTb_tab {K : Frg} {H F1 H1 : Hp} {p : Addr × Str} (hT : ∀ p ∈ tabsOf K, H p.1 = some (.tbl #[])) (g : Go [] (noTb K H) H F1 H1) (hp : p ∈ tabsOf K) : TabF F1 H1 p.1 p.2 := by
  have m : p.1 ∈ tabA K := List.mem_map.mpr ⟨p, hp, rfl⟩
  obtain ⟨e1, e2⟩ := g.mu p.1 _ (fun z => nomatch z) (show noTb K H p.1 = none from if_pos m) (hT p hp)
  exact ⟨e1, #[], e2, True.intro, fun pos cv hc => by
    have z : PySem.codeAmong pos [] = some cv := hc
    simp [PySem.codeAmong] at z⟩
theorem noTb_tape {K : Frg} {H F1 H1 : Hp} {t : Addr} (hT : ∀ p ∈ tabsOf K, H p.1 = some (.tbl #[])) (g : Go [] (noTb K H) H F1 H1) (tp : Tape K F1 H1 t) : t ∉ tabA K := fun m => by
  obtain ⟨p, hp, rfl⟩ := List.mem_map.mp m
  obtain ⟨_, ps, e, _⟩ := noTb_tab hT g hp
  obtain ⟨_, xs, e', _⟩ := tp
  rw [e] at e'
  cases e'
/-- the law: the tape first, then its own body -/
theorem y_law {qual px : Str} {st : Stmt} {f : Addr} {N : List Str} {k i : Nat} {xt : Str} {pt pc pn pa pp : Pos} {rest : List Stmt} (F : DefAt K "law" qual st f) (S : FnScope N [px] (defScope st))
    (hb : ∀ (kV doc pm : Value) (an : Option Addr) (cdv ct : Value) (us : List Value), us.length = 1 → bindArgs (PySem.W.fnOf "law" qual (defArgs st) (defBody st) (defScope st) .none kV doc pm an cdv ct) ⟨us, []⟩ = pure ([px].zip us))
    (hs : defBody st = .Assign [.Name xt pt] (.Call (.Name "_law_tape" pn) [.Name px pa] [] pc) pp :: rest)
    (FT : ∀ base, FnR P w K mg base (L2.CX P w) 1 (He.ga K "_law_tape") (spTape K)) (mt : mg "_law_tape" = some (.ref (He.ga K "_law_tape"))) (kt : PySem.W.keepIn K (.ref (He.ga K "_law_tape")) = true) (hk : 1 ≤ k) (h0 : N[0]? = some px) (hi : N[i]? = some xt) (hi0 : i ≠ 0)
    (hgl : ∀ cdv (s : Shared), (envOfC qual (defScope st) s.heap.objs.size f cdv).kindOf "_law_tape" = some .globalImplicit) (hvis : Vis (defScope st) px) (hloc : Loc (defScope st) xt)
    (hsw : ∀ cdv (s : Shared), swapsWith (.Call (.Name "_law_tape" pn) [.Name px pa] [] pc) (some (.Name xt pt)) pp.line (envOfC qual (defScope st) s.heap.objs.size f cdv) = pure false)
    (hst : ∀ cdv (s : Shared), starEach [.Name px pa] (envOfC qual (defScope st) s.heap.objs.size f cdv) = (false, eval (.Name px pa) (envOfC qual (defScope st) s.heap.objs.size f cdv)) :: starEach [] (envOfC qual (defScope st) s.heap.objs.size f cdv))
    (hpx : (px == ("__debug__" : Str)) = false) (hpc : (px == ("__classdict__" : Str)) = false)
    (hbody : ∀ (base : Heap) (cdv : Value), cdv = .ref (cdAt K f) → ∀ (A : Around) (outer : List Env) (s : Shared) (H : Hp) (E : XK) (B : Bs), Same B.F0 B.H0 → (∀ x, ¬ B.Ed x) → RoomG k (A.deeper (envOfC qual (defScope st) s.heap.objs.size f cdv)) → Px (cxOf (L2.CX P w) P w K mg base N qual (defScope st) f cdv A outer s H E) B →
      PassesOwn (model P w) (cxOf (L2.CX P w) P w K mg base N qual (defScope st) f cdv A outer s H E).A (cxOf (L2.CX P w) P w K mg base N qual (defScope st) f cdv A outer s H E).env (cxOf (L2.CX P w) P w K mg base N qual (defScope st) f cdv A outer s H E).xe →
      ∃ r, PSsp (cxOf (L2.CX P w) P w K mg base N qual (defScope st) f cdv A outer s H E) B rest r ∧ r ((List.replicate N.length .no).set i (.val .tape)) { nx := fun _ => False, rt := fun d => d = .bl true }) : ∀ base : Heap, FnG P w K mg base (L2.CX P w) (k + 1) f (spLawT K) := by
  refine fun base => zfnGC F S len1 hb fun cdv ecd A outer s H vs Q E hr h => ?_
  obtain ⟨_, rfl, sa, ns, rfl, hl, hS, hTb, kk⟩ := h
  have po := po_of (P := P) (w := w) (K := K) (mg := mg) (base := base) (N := N) (qual := qual) (scope := defScope st) (f := f) (cdv := cdv) (A := A) (outer := outer) (s := s) (H := H) (E := E)
  have key : ∀ (t : Addr) (F1 H1 : Hp), ∃ r, PSsp (cxOf (L2.CX P w) P w K mg base N qual (defScope st) f cdv A outer s H E) ⟨t :: tabA K, F1, H1, fun _ => False⟩ rest r ∧ (Same F1 H1 → r ((List.replicate N.length .no).set i (.val .tape)) { nx := fun _ => False, rt := fun d => d = .bl true }) := fun t F1 H1 => by
    by_cases hs : Same F1 H1
    · obtain ⟨r, h1, h2⟩ := hbody base cdv ecd A outer s H E ⟨t :: tabA K, F1, H1, fun _ => False⟩ hs (fun _ z => z) hr (px_of fun cls d H' ⟨F', x, g, t', xr, z⟩ => z.elim) po
      exact ⟨r, h1, fun _ => h2⟩
    · exact ⟨fun _ _ => False, pss_imp pss_never fun σ H Dd ⟨F, ρ, E, I, z, _⟩ => z, fun z => absurd z hs⟩
  rw [hs]
  refine ⟨_, pss_cons (t := tAsg (tFn (spTape K) E0 (tCons (tVar 0) tNil)) (gName i)) (u := fun Dd σ H' => ∃ (t : Addr) (F1 H1 : Hp) (r : RdS), PSsp (cxOf (L2.CX P w) P w K mg base N qual (defScope st) f cdv A outer s H E) ⟨t :: tabA K, F1, H1, fun _ => False⟩ rest r ∧ tS K ⟨t :: tabA K, F1, H1, fun _ => False⟩ r Dd σ H') ?_ ⟨fun pins s' σ H' D I ⟨t, F1, H1, r, hr, z⟩ => hr.run pins s' σ H' D I z⟩, ?_⟩
  · refine ps_set S.nd hi hloc (zcall (FT base) (hr.rm.mono hk) (hgl cdv s) mt kt passL (pa_cons (pe_var h0 hvis hpx hpc) pa_nil (hst cdv s)) (by decide) (hst cdv s) rfl) (hsw cdv s) (.inl rfl)
  · refine ⟨_, rfl, _, rfl, noTb K H, sa, ns, rfl, noTb_same, noTb_sq hTb hS, fun t F1 H1 g1 tp => ?_⟩
    have nt : t ∉ tabA K := noTb_tape hTb g1 tp
    obtain ⟨r, h1, h2⟩ := key t F1 H1
    refine ⟨t, F1, H1, r, h1, F1, _, _, ?_, h2 g1.fh, ?_, ?_, ?_, ?_⟩
    · have e : ∀ j : Nat, j ≠ i → ((List.replicate N.length Sl.no).set i (.val .tape))[j]? = if j < N.length then some .no else none := fun j hj => by
        rw [List.getElem?_set_ne (Ne.symm hj), List.getElem?_replicate]
      have hin : i < N.length := by
        rcases Nat.lt_or_ge i N.length with z | z
        · exact z
        · rw [List.getElem?_eq_none z] at hi; cases hi
      have hN1 : 1 ≤ N.length := by omega
      refine ⟨Go.refl g1.fh, ⟨g1.fh, fun y hy ny => ?_, fun p hp => ⟨List.mem_cons_of_mem _ (List.mem_map.mpr ⟨p, hp, rfl⟩), noTb_tab hTb g1 hp⟩⟩, ?_, fun j d hd => ?_, fun j m hm => ?_, fun j j' m n a hjj h1 h2 h3 => ?_⟩
      · rcases List.mem_cons.mp hy with e | e
        · rw [e]; exact tp
        · exact absurd e ny
      · simp [L2.start]; omega
      · by_cases hj : j = i
        · subst hj
          rw [List.getElem?_set_self (by simpa using hin)] at hd
          cases hd
          exact ⟨.ref t, List.getElem?_set_self (by simp [L2.start]; omega), .tape (by simp) nt⟩
        · rw [e j hj] at hd
          split at hd <;> cases hd
      · by_cases hj : j = i
        · subst hj
          rw [List.getElem?_set_self (by simpa using hin)] at hm
          cases hm
        · rw [e j hj] at hm
          split at hm <;> cases hm
      · exfalso
        by_cases hj : j = i
        · subst hj
          rw [List.getElem?_set_self (by simpa using hin)] at h1
          cases h1
        · rw [e j hj] at h1
          split at h1 <;> cases h1
    · intro _ _ _ _ _ _ z; exact z.elim
    · intro v d F' H' _ _ rr z
      have z' : d = .bl true := z
      subst z'
      cases rr
      exact kk H'
    · intro _ _ _ _ _ _ z; exact z
    · intro _ _ _ _ _ _ z; exact z
end
/-! ### texts -/
def strsOf : List D → Option (List Str)
  | [] => some []
  | .str b :: ds => (strsOf ds).map (b :: ·)
  | _ => none
def dJoin (x y : D) (Q : D → Prop) : Prop := match x, y with
  | .str a, .lst ds => (match strsOf ds with | some ys => (ys.map (·.length)).sum + ys.length * a.length ≤ 100000 ∧ Q (.str (Txt.join a ys)) | none => False)
  | _, _ => False
section
variable {X : Cx} {B : Bs} {K : Frg} {ms : List Addr} {a b c e o : Expr} {es : List Expr} {ra rb rc r ro : Rd} {rt ru : RdT} {rl : RdA} {pos p0 apos : Pos}
def isS (x : D) (k : Prop) : Prop := match x with
  | .str _ => k
  | _ => False
end
theorem hu65 {k : Nat} {A : Around} (r : RoomG k A) : A.units + 65 < cLine := by have := r.rm.un; omega
theorem all0 {p : Str → Prop} : ∀ c ∈ ([] : List Str), p c := fun _ h => nomatch h
end Y
namespace Y
open PySem PySem.Spec PyProof.Rows L2 Z
/-! ### facts of the top for the pure layer -/
end Y
namespace Y
open PySem PySem.Spec PyProof.Rows L2 Z
section
variable {X : Cx} {B : Bs} {K : Frg} {ms : List Addr} {a b c e o : Expr} {es : List Expr} {ra rb rc r ro : Rd} {rt ru : RdT} {rl : RdA} {pos p0 apos : Pos} {s1 s2 : RdS}
def dModZ (x y : D) (Q : D → Prop) : Prop := match x, y with
  | .int i, .int j => j ≠ 0 ∧ Q (.int (i.fmod j))
  | _, _ => False
def dIsBl (neg : Bool) (x y : D) (Q : D → Prop) : Prop := match x, y with
  | .bl i, .bl j => Q (.bl (neg != decide (i = j)))
  | _, _ => False
def dInt1 (ds : List D) (Q : D → Prop) : Prop := match ds with
  | [.int i] => Q (.int i)
  | [.bl b] => Q (.int (if b then 1 else 0))
  | _ => False
/-! ### texts and enumerate as what a loop walks -/
def enumD (ds : List D) : List D := (List.range ds.length).map fun i => .tup [.int (i : Nat), (ds[i]?).getD .non]
theorem i_enum {p tpos : Pos} {elts : List Expr} {kk : Nat} (hg : Gl X "enumerate") (hm : X.mg "enumerate" = none) (ha : PAp X B [e] rl) (hs : starEach [e] X.env = [(false, eval e X.env)] := by rfl) :
    PIp X B (.Tuple elts kk tpos) (.Call (.Name "enumerate" p) [e] [] pos) (fun ρ Q => rl ρ fun ds => match ds with | [.lst xs] => Q (enumD xs) | _ => False) :=
  pi_imp (pi_enum hg hm ha hs) fun σ H R ⟨F, ρ, Qd, I, z, k⟩ => ⟨F, ρ, _, I, z, fun vs F1 H1 ds g1 t1 r1 z1 => by
    split at z1
    · rename_i xs
      obtain ⟨x, rfl, r2⟩ := rps1 r1
      cases r2 with
      | @lst a ws _ h1 h2 =>
        refine ⟨a, ws, rfl, SqL.of (t1.1 _ _ h1), k _ F1 H1 _ g1 t1 ⟨_, _, by rw [show (enumD xs).length = ws.length by simp [enumD, h2.len]]; exact walk_enum (K := X.K) (a := a) (xs := ws), fun F2 H2 s s' => SqL.of (s' _ _ (s _ _ h1)), ?_⟩ z1⟩
        rintro i F2 H2 y H2' d s s' ⟨T, u, v, rfl, hT, rfl, hu, hv⟩ hd
        cases hu
        obtain ⟨dd, q1, q2⟩ := h2.getV hv
        have hi := lt_of_get q1
        have : d = .tup [.int (i : Nat), dd] := by
          unfold enumD at hd
          rw [List.getElem?_map, List.getElem?_range hi] at hd
          have := (Option.some.inj hd).symm
          dsimp only at this
          rw [q1] at this
          exact this
        subst this
        obtain ⟨F3, g3, q3, _⟩ := newE s' hT rfl
        exact ⟨F3, g3, .tup (SqT.of q3) (.cons (.int _) (.cons ((q2.up s).up g3.ff) .nil))⟩
    · exact z1.elim⟩
end
end Y
namespace Y
open PySem PySem.Spec PyProof.Rows L2 Z
/-! ### texts of data: repr -/
mutual
def toP : D → PyData
  | .non => .none
  | .bl b => .bool b
  | .int i => .int i
  | .str s => .str s
  | .lst ds => .list (toPs ds)
  | .tup ds => .tuple (toPs ds)
  | .obj _ _ _ => .none
  | .ty _ => .none
  | .glob _ => .none
  | .tape => .none
  | .fn _ => .none
  | .dic _ _ => .dict []
  | .dpl _ _ => .none
def toPs : List D → List PyData
  | [] => []
  | d :: ds => toP d :: toPs ds
end
mutual
/-- data that repr shows: with so many items and signs at most, so deep at most -/
def shP (n : Nat) : D → Prop
  | .non => True
  | .bl _ => True
  | .int i => Sz 1900 i
  | .str s => ∀ c ∈ s.cps.toList, c < 16 ^ 8
  | .lst ds => shPs n ds
  | .tup ds => shPs n ds
  | .obj _ _ _ => False
  | .ty _ => False
  | .glob _ => False
  | .tape => False
  | .fn _ => False
  | .dic _ _ => False
  | .dpl _ _ => False
def shPs (n : Nat) : List D → Prop
  | [] => True
  | d :: ds => shP n d ∧ shPs n ds
end
def shD (d : D) : Str := (toP d).shown
theorem sz1900 {i : Int} (h : Sz 1900 i) : i.natAbs.log2 < 1920 := Nat.lt_of_lt_of_le (PySem.Flt.log2_lt_of (by decide) h) (by decide)
mutual
theorem sh_able {n : Nat} : ∀ d : D, shP n d → (toP d).showable = true
  | .non, _ => rfl
  | .bl _, _ => rfl
  | .int i, h => by
    show decide _ = true
    exact decide_eq_true (sz1900 h)
  | .str _, _ => rfl
  | .lst ds, h => sh_ables ds h
  | .tup ds, h => sh_ables ds h
  | .obj _ _ _, h => h.elim
  | .ty _, h => h.elim
  | .glob _, h => h.elim
  | .tape, h => h.elim
  | .fn _, h => h.elim
  | .dic _ _, h => h.elim
  | .dpl _ _, h => h.elim
theorem sh_ables {n : Nat} : ∀ ds : List D, shPs n ds → PyData.showableAll (toPs ds) = true
  | [], _ => rfl
  | d :: ds, h => by
    show ((toP d).showable && PyData.showableAll (toPs ds)) = true
    rw [sh_able d h.1, sh_ables ds h.2]
    rfl
end
mutual
theorem sh_short {n : Nat} : ∀ d : D, shP n d → (toP d).leavesShort 1921 = true
  | .non, _ => rfl
  | .bl _, _ => rfl
  | .int i, h => by
    show decide ((PyData.shown (.int i)).length ≤ 1921) = true
    exact decide_eq_true (int_text_len_1921 (sz1900 h))
  | .str s, h => by
    show (s.cps.toList.all fun c => decide (c < 16 ^ 8)) = true
    exact List.all_eq_true.mpr fun c hc => decide_eq_true (h c hc)
  | .lst ds, h => sh_shorts ds h
  | .tup ds, h => sh_shorts ds h
  | .obj _ _ _, h => h.elim
  | .ty _, h => h.elim
  | .glob _, h => h.elim
  | .tape, h => h.elim
  | .fn _, h => h.elim
  | .dic _ _, h => h.elim
  | .dpl _ _, h => h.elim
theorem sh_shorts {n : Nat} : ∀ ds : List D, shPs n ds → PyData.leavesShortAll 1921 (toPs ds) = true
  | [], _ => rfl
  | d :: ds, h => by
    show ((toP d).leavesShort 1921 && PyData.leavesShortAll 1921 (toPs ds)) = true
    rw [sh_short d h.1, sh_shorts ds h.2]
    rfl
end
mutual
theorem sh_nodict {n : Nat} : ∀ d : D, shP n d → (toP d).hasDict = false
  | .non, _ => rfl
  | .bl _, _ => rfl
  | .int _, _ => rfl
  | .str _, _ => rfl
  | .lst ds, h => sh_nodicts ds h
  | .tup ds, h => sh_nodicts ds h
  | .obj _ _ _, h => h.elim
  | .ty _, h => h.elim
  | .glob _, h => h.elim
  | .tape, h => h.elim
  | .fn _, h => h.elim
  | .dic _ _, h => h.elim
  | .dpl _ _, h => h.elim
theorem sh_nodicts {n : Nat} : ∀ ds : List D, shPs n ds → PyData.hasDictAll (toPs ds) = false
  | [], _ => rfl
  | d :: ds, h => by
    show ((toP d).hasDict || PyData.hasDictAll (toPs ds)) = false
    rw [sh_nodict d h.1, sh_nodicts ds h.2]
    rfl
end
section
variable {X : Cx} {B : Bs} {pins : List (Addr × Obj)} {σ : L2.St} {H F : Hp} {s : Shared} {ms : List Addr}
mutual
theorem sh_reads {n : Nat} (I : L2.Inv X pins σ H s) (hs : Same F H) : ∀ (d : D) (v : V) (u : Value), shP n d → Rp X.K ms F v d → RelV v u → ∃ as, Reads s.heap u (toP d) as
  | .non, _, u, _, r, e => by
    cases r
    obtain rfl : u = Value.none := e
    exact ⟨_, .none⟩
  | .bl b, _, u, _, r, e => by
    cases r
    obtain rfl : u = Value.bool b := e
    exact ⟨_, .bool b⟩
  | .int i, _, u, _, r, e => by
    cases r
    obtain ⟨t, rfl⟩ := (show ∃ t, u = Value.int i t from e)
    exact ⟨_, .int i t⟩
  | .str x, _, u, _, r, e => by
    cases r
    obtain ⟨t, rfl⟩ := (show ∃ t, u = Value.str x t from e)
    exact ⟨_, .str x t⟩
  | .lst ds, _, u, h, r, e => by
    cases r with
    | @lst a vs _ h1 h2 =>
      obtain rfl : u = Value.ref a := e
      obtain ⟨_, its, n, rv, hg⟩ := I.hok a _ (hs _ _ h1)
      obtain ⟨as, q⟩ := sh_readss I hs ds vs its h h2 rv
      exact ⟨_, .list hg rfl rfl (by simpa using q)⟩
  | .tup ds, _, u, h, r, e => by
    cases r with
    | @tup a vs _ h1 h2 =>
      obtain rfl : u = Value.ref a := e
      obtain ⟨its, rv, ⟨o, hg, hc, n, hd⟩, _⟩ := I.tuple (sqT hs h1)
      obtain ⟨as, q⟩ := sh_readss I hs ds vs its h h2 rv
      exact ⟨_, .tuple hg hc hd (by simpa using q)⟩
  | .obj _ _ _, _, _, h, _, _ => h.elim
  | .ty _, _, _, h, _, _ => h.elim
  | .glob _, _, _, h, _, _ => h.elim
  | .tape, _, _, h, _, _ => h.elim
  | .fn _, _, _, h, _, _ => h.elim
  | .dic _ _, _, _, h, _, _ => h.elim
  | .dpl _ _, _, _, h, _, _ => h.elim
theorem sh_readss {n : Nat} (I : L2.Inv X pins σ H s) (hs : Same F H) : ∀ (ds : List D) (vs : List V) (us : List Value), shPs n ds → Rps X.K ms F vs ds → Vals vs us → ∃ as, ReadsAll s.heap us (toPs ds) as
  | [], _, _, _, r, e => by
    cases r
    cases e
    exact ⟨_, .nil⟩
  | d :: ds, _, _, h, r, e => by
    cases r with
    | cons r1 r2 =>
      cases e with
      | cons e1 e2 =>
        obtain ⟨as, q1⟩ := sh_reads I hs d _ _ h.1 r1 e1
        obtain ⟨bs, q2⟩ := sh_readss I hs ds _ _ h.2 r2 e2
        exact ⟨_, .cons q1 q2⟩
end
/-- .. or the empty dict -/
def shT (n : Nat) (d : D) : Prop := match d with
  | .dic ks ds => ks = [] ∧ ds = []
  | d => shP n d
theorem shT.of {n : Nat} {d : D} (h : shP n d) : shT n d := by cases d <;> first | exact h | exact h.elim
end
end Y
namespace Y
open PySem PySem.Spec PyProof.Rows L2 Z
section
variable {X : Cx} {B : Bs} {K : Frg} {ms : List Addr} {a b c e o : Expr} {es : List Expr} {ra rb rc r ro : Rd} {rt ru : RdT} {rl : RdA} {pos p0 apos : Pos} {s1 s2 : RdS}
end
end Y
namespace Y
open PySem PySem.Spec PyProof.Rows L2 Z
/-! ### data that stand in the written part -/
inductive All2 {α β : Type} (f : α → β → Prop) : List α → List β → Prop
  | nil : All2 f [] []
  | cons {a : α} {b : β} {as : List α} {bs : List β} : f a b → All2 f as bs → All2 f (a :: as) (b :: bs)
theorem All2.len {α β : Type} {p : α → β → Prop} : ∀ {as : List α} {bs : List β}, All2 p as bs → as.length = bs.length
  | _, _, .nil => rfl
  | _, _, .cons _ t => by rw [List.length_cons, List.length_cons, t.len]
theorem All2.get {α β : Type} {p : α → β → Prop} : ∀ {as : List α} {bs : List β} {i : Nat} {a : α} {b : β}, All2 p as bs → as[i]? = some a → bs[i]? = some b → p a b
  | _, _, i, _, _, .nil, h, _ => by simp at h
  | _, _, 0, _, _, .cons h _, e1, e2 => by
    simp at e1 e2
    subst e1 e2
    exact h
  | _, _, i + 1, _, _, .cons _ t, e1, e2 => t.get (i := i) (by simpa using e1) (by simpa using e2)
/-- the value u of the written part bears d -/
def VD (K : Frg) (d : D) (u : Value) : Prop := ∃ v, RelV v u ∧ ∀ ms F, Rp K ms F v d
/-! ### a dict of the module with text keys -/
def EntD (K : Frg) (q : Str × D) (e : DictEntry) : Prop := (∃ t, e.key = .str q.1 t) ∧ VD K q.2 e.val
def KTab (K : Frg) (w : World) (x : Str) (tab : List (Str × D)) : Prop := ∃ es n, KDict K w (He.ga K x) es n ∧ All2 (EntD K) tab es.toList
/-- what a key finds -/
theorem ents_find {K : Frg} {z : Str} : ∀ {tab : List (Str × D)} {es : List DictEntry}, All2 (EntD K) tab es →
    (∃ d e, tab.lookup z = some d ∧ es.find? (·.key.isStr z) = some e ∧ VD K d e.val) ∨ (tab.lookup z = none ∧ es.find? (·.key.isStr z) = none ∧ es.any (·.refKey) = false)
  | _, _, .nil => .inr ⟨rfl, rfl, rfl⟩
  | q :: tab, e :: es, .cons h t => by
    obtain ⟨⟨tk, hk⟩, hv⟩ := h
    have hs : e.key.isStr z = decide (q.1 = z) := by rw [hk]; rfl
    by_cases c : q.1 = z
    · refine .inl ⟨q.2, e, ?_, ?_, hv⟩
      · rw [show (q :: tab) = (q.1, q.2) :: tab from rfl, List.lookup_cons, ← c]
        simp
      · rw [List.find?_cons, hs, decide_eq_true c]
    · have l1 : (q :: tab).lookup z = tab.lookup z := by
        rw [show (q :: tab) = (q.1, q.2) :: tab from rfl, List.lookup_cons]
        have : (z == q.1) = false := by
          rw [beq_eq_false_iff_ne]
          exact fun e => c e.symm
        rw [this]
      have l2 : (e :: es).find? (·.key.isStr z) = es.find? (·.key.isStr z) := by rw [List.find?_cons, hs, decide_eq_false c]
      rcases ents_find (z := z) t with ⟨d, e', h1, h2, h3⟩ | ⟨h1, h2, h3⟩
      · exact .inl ⟨d, e', l1.trans h1, l2.trans h2, h3⟩
      · refine .inr ⟨l1.trans h1, l2.trans h2, ?_⟩
        rw [List.any_cons, h3, Bool.or_false]
        unfold DictEntry.refKey
        rw [hk]
theorem KTab.ns {K : Frg} {w : World} {x : Str} {tab : List (Str × D)} (kt : KTab K w x tab) (z : Str) :
    (∃ d u, tab.lookup z = some d ∧ PySem.W.nsIn K (He.ga K x) z = some (some u) ∧ VD K d u) ∨ (tab.lookup z = none ∧ PySem.W.nsIn K (He.ga K x) z = some none) := by
  obtain ⟨es, n, kd, h⟩ := kt
  have e : PySem.W.nsIn K (He.ga K x) z = (match es.toList.find? (·.key.isStr z) with
      | some e => some (some e.val)
      | none => if es.toList.any (·.refKey) then none else some none) := by
    unfold PySem.W.nsIn
    rw [kd.at_]
    rfl
  rcases ents_find (z := z) h with ⟨d, e', h1, h2, h3⟩ | ⟨h1, h2, h3⟩
  · exact .inl ⟨d, e'.val, h1, by rw [e, h2], h3⟩
  · exact .inr ⟨h1, by rw [e, h2, h3]; rfl⟩
section
variable {X : Cx} {B : Bs} {K : Frg} {ms : List Addr} {a b c e o : Expr} {es : List Expr} {ra rb rc r ro : Rd} {rl : RdA} {pos p0 apos : Pos}
/-! ### d.items() -/
end
end Y
namespace Z
open PySem PySem.Spec PyProof.Rows L2
open PySem.W
section
variable {prog : Program} {w : World} {A : Around} {E : Value → Shared → Prop} {s : Shared} {K : Frg} {x C C' L f f' : Addr} {h₀ : Heap} {m : Str → Option Value} {ox : Obj} {od : Option Obj}
end
section
variable {X : Cx} {CX : CXT} {k : Nat} {f C C' p g g' : Addr} {sp : Sp} {E : XK} {x m : Str} {p0 pos apos : Pos} {e o a b : Expr} {es : List Expr} {ta tb : TE} {t : TA} {pins : List (Addr × Obj)} {σ : L2.St} {H : Hp} {s : Shared}
/-- what a op b asks of two own classes -/
structure Bin2 (K : Frg) (nm : String) (C C' g g' : Addr) : Prop where
  hr : ∃ rc, PySem.W.findIn K (.ref C) (dunderR nm) = some rc ∧ (rc = none ∨ ∃ g : Addr, rc = some (.ref g))
  hr' : ∃ rc, PySem.W.findIn K (.ref C') (dunderR nm) = some rc ∧ (rc = none ∨ ∃ g : Addr, rc = some (.ref g))
  hs' : PySem.W.findIn K (.ref C') (PySem.dunder nm) = some (some (.ref g'))
  hc : selfFirst K C = true
  hc' : selfFirst K C' = true
  hsub : subIn K (.ref C') (.ref C) = some false
  hn : C ≠ C'
/-- a op b, b of a built-in type -/
structure BinT (K : Frg) (nm : String) (C : Addr) (T : String) : Prop where
  hr : ∃ rc, PySem.W.findIn K (.ref C) (dunderR nm) = some rc ∧ (rc = none ∨ ∃ g : Addr, rc = some (.ref g))
  h1 : ∃ fo, PySem.W.findIn K (.type T) (PySem.dunder nm) = some fo
  h2 : ∃ ro, PySem.W.findIn K (.type T) (dunderR nm) = some ro
  hc : selfFirst K C = true
  hsub : subIn K (.type T) (.ref C) = some false
end
/-! ### facts -/
end Z
namespace Y
open PySem PySem.Spec PyProof.Rows L2 Z
section
variable {X : Cx} {B : Bs} {K : Frg} {ms : List Addr} {a b c e o : Expr} {es : List Expr} {ra rb rc r ro : Rd} {rt ru : RdT} {rl : RdA} {pos p0 apos : Pos} {R : RdF} {k : Nat} {f g p : Addr} {x m : Str} {s1 s2 : RdS}
end
end Y
namespace Y
open PySem PySem.Spec PyProof.Rows L2 Z
section
variable {X : Cx} {B : Bs} {K : Frg} {ms : List Addr} {a b c e o : Expr} {es : List Expr} {ra rb rc r ro : Rd} {rt ru : RdT} {rl : RdA} {pos p0 apos : Pos} {R : RdF} {k : Nat} {f g p : Addr} {x m : Str}
/-! ### f-strings -/
inductive PJp (X : Cx) (B : Bs) : List Expr → List Rd → Prop
  | nil : PJp X B [] []
  | cons {e : Expr} {r : Rd} {es : List Expr} {rs : List Rd} : PEp X B e r → PJp X B es rs → PJp X B (e :: es) (r :: rs)
/-! ### repr of an own instance -/
/-! ### a constant of a class, by the class -/
end
end Y
namespace Y
open PySem PySem.Spec PyProof.Rows L2 Z
/-! ### a comprehension of two clauses, where no slot holds a thing of its own -/
def noMu (ρ : Ev) : Prop := (ρ.all fun s => match s with | .mu _ => false | _ => true) = true
theorem noMu_get {ρ : Ev} (h : noMu ρ) (i : Nat) (m : Mo) : ρ[i]? ≠ some (.mu m) := fun e => by
  have := List.all_eq_true.mp h _ (List.mem_of_getElem? e)
  cases this
theorem Iv.again {K : Frg} {B : Bs} {F H F' H' : Hp} {σ : L2.St} {ρ : Ev} (I : Iv K B F H σ ρ) (n : noMu ρ) (s : Same F F') (g : Go B.ms B.F0 B.H0 F' H') (t : Tp K B.ms F' H') : Iv K B F' H' σ ρ :=
  ⟨g, t, I.len, fun i d e => let ⟨v, h1, h2⟩ := I.val i d e; ⟨v, h1, h2.up s⟩, fun i m e => absurd e (noMu_get n i m), fun i j m _ a _ e _ => absurd e (noMu_get n i m)⟩
section
variable {X : Cx} {B : Bs} {rl : RdA} {pos : Pos}
end
end Y
/-! ### enumerate of a tuple -/
namespace PySem
section
variable {prog : Program} {w : World} {A : Around} {E : Value → Shared → Prop} {s : Shared}
end
end PySem
namespace Y
open PySem PySem.Spec PyProof.Rows L2 Z
section
variable {X : Cx} {B : Bs} {K : Frg} {ms : List Addr} {a b c e o : Expr} {es : List Expr} {ra rb rc r ro : Rd} {rt ru : RdT} {rl : RdA} {pos p0 apos : Pos} {R : RdF} {k : Nat} {f g p : Addr} {x m : Str}
end
end Y
namespace Z
open PySem PySem.Spec PyProof.Rows L2
/-! ### one keyword -/
section
variable {P : Program} {w : World} {K : Frg} {mg : Str → Option Value} {base : Heap}
end
section
variable {X : Cx} {CX : CXT} {k : Nat} {f C : Addr} {sp : Sp} {E : XK} {kn : Str} {pins : List (Addr × Obj)} {σ : L2.St} {H : Hp} {s : Shared}
end
end Z
namespace Y
open PySem PySem.Spec PyProof.Rows L2 Z
section
variable {P : Program} {w : World} {K : Frg} {mg : Str → Option Value} {base : Heap}
end
section
variable {X : Cx} {B : Bs} {K : Frg} {ms : List Addr} {a b c e o e2 : Expr} {es : List Expr} {ra rb rc r ro r2 : Rd} {rt ru : RdT} {rl : RdA} {pos p0 apos kpos : Pos} {R : RdF} {k : Nat} {f g p : Addr} {x m : Str}
/-! ### o[i], len(o) of own instances -/
/-! ### isinstance(x, (T1, T2)) -/
end
end Y
namespace Y
open PySem PySem.Spec PyProof.Rows L2 Z
/-! ### data without tapes -/
mutual
def noT : D → Bool
  | .lst ds => noTs ds
  | .tup ds => noTs ds
  | .obj _ _ ds => noTs ds
  | .dic _ ds => noTs ds
  | .dpl _ ds => noTs ds
  | .tape => false
  | _ => true
def noTs : List D → Bool
  | [] => true
  | d :: ds => noT d && noTs ds
end
section
variable {K : Frg} {ms ms' : List Addr} {F : Hp}
mutual
theorem Rp.noT : ∀ (d : D) (v : V), noT d = true → Rp K ms F v d → Rp K ms' F v d
  | .non, _, _, h => by cases h; exact .non
  | .bl b, _, _, h => by cases h; exact .bl b
  | .int i, _, _, h => by cases h; exact .int i
  | .str x, _, _, h => by cases h; exact .str x
  | .ty x, _, _, h => by cases h; exact .ty x
  | .glob x, _, _, h => by cases h; exact .glob x
  | .tape, _, n, _ => by cases n
  | .fn a, _, _, h => by cases h; exact .fn a
  | .lst ds, _, n, h => by cases h with | lst h1 h2 => exact .lst h1 (Rps.noT ds _ n h2)
  | .tup ds, _, n, h => by cases h with | tup h1 h2 => exact .tup h1 (Rps.noT ds _ n h2)
  | .obj c ns ds, _, n, h => by cases h with | obj h1 h2 h3 => exact .obj h1 h2 (Rps.noT ds _ n h3)
  | .dic ks ds, _, n, h => by cases h with | dic h1 h2 h3 => exact .dic h1 h2 (Rps.noT ds _ n h3)
  | .dpl ks ds, _, n, h => by cases h with | dpl h1 h2 h3 h4 h5 h6 h7 => exact .dpl h1 h2 h3 h4 h5 h6 (Rps.noT ds _ n h7)
theorem Rps.noT : ∀ (ds : List D) (vs : List V), noTs ds = true → Rps K ms F vs ds → Rps K ms' F vs ds
  | [], _, _, h => by cases h; exact .nil
  | d :: ds, _, n, h => by
    obtain ⟨n1, n2⟩ := He.ba (show (Y.noT d && noTs ds) = true from n)
    cases h with | cons h1 h2 => exact .cons (Rp.noT d _ n1 h1) (Rps.noT ds _ n2 h2)
end
end
/-! ### a def that gives a new list -/
section
variable {X : Cx} {B : Bs} {a b c e o : Expr} {es : List Expr} {ra rb rc r ro : Rd} {rt ru : RdT} {rl : RdA} {pos p0 apos : Pos} {R : RdF} {k : Nat} {f C g p : Addr} {x m : Str}
end
section
variable {P : Program} {w : World} {K : Frg} {mg : Str → Option Value} {base : Heap}
end
end Y
namespace Y
open PySem PySem.Spec PyProof.Rows L2 Z
/-! ### o.m.append(c), where o.m is a new list -/
section
variable {X : Cx} {B : Bs} {a b c e o : Expr} {r ro : Rd} {pos p0 apos cpos xpos : Pos} {R : RdF} {k : Nat} {f C g p : Addr} {x m : Str}
/-! ### join of lists and tuples -/
end
section
variable {P : Program} {w : World} {K : Frg} {mg : Str → Option Value} {base : Heap}
end
/-! ### str of an int -/
/-! ### facts -/
end Y
namespace Y
open PySem PySem.Spec PyProof.Rows L2 Z
/-! ### own dicts whose keys are tuples of ints -/
def lookI (kvs : List (List Int × D)) (k : List Int) : Option D := (kvs.find? fun kv => decide (kv.1 = k)).map (·.2)
def putI (kvs : List (List Int × D)) (k : List Int) (d : D) : List (List Int × D) := if (lookI kvs k).isSome then kvs.map (fun kv => if kv.1 = k then (kv.1, d) else kv) else kvs ++ [(k, d)]
def putX (xs : List (List Int × Addr × Value)) (k : List Int) (b : Addr) (u : Value) : List (List Int × Addr × Value) := if (xs.any fun x => decide (x.1 = k)) then xs.map (fun x => if x.1 = k then (x.1, x.2.1, u) else x) else xs ++ [(k, b, u)]
theorem any_find (xs : List (List Int × Addr × Value)) (k : List Int) : ((xs.find? fun x => decide (x.1 = k)).map (·.2)).isSome = xs.any fun x => decide (x.1 = k) := by
  rw [Option.isSome_map]
  induction xs with
  | nil => rfl
  | cons x xs ih =>
    rw [List.any_cons]
    by_cases e : x.1 = k
    · rw [List.find?_cons_of_pos (by exact decide_eq_true e), decide_eq_true e]; rfl
    · rw [List.find?_cons_of_neg (by simpa using e), decide_eq_false e, ih]; rfl
section
variable {K : Frg} {ms : List Addr} {F : Hp}
theorem DRl.len {kvs : List (List Int × D)} {xs : List (List Int × Addr × Value)} (h : DRl K ms F kvs xs) : kvs.length = xs.length := by
  induction h with
  | nil => rfl
  | cons _ _ _ _ ih => rw [List.length_cons, List.length_cons, ih]
theorem DRl.look {kvs : List (List Int × D)} {xs : List (List Int × Addr × Value)} (h : DRl K ms F kvs xs) (k : List Int) : (lookI kvs k = none ∧ xs.find? (fun x => decide (x.1 = k)) = none) ∨ ∃ d x v, lookI kvs k = some d ∧ xs.find? (fun x => decide (x.1 = k)) = some x ∧ RelV v x.2.2 ∧ Rp K ms F v d := by
  induction h with
  | nil => exact .inl ⟨rfl, rfl⟩
  | @cons k' b u v d kvs xs h1 h2 h3 _ ih =>
    by_cases e : k' = k
    · refine .inr ⟨d, (k', b, u), v, ?_, ?_, h2, h3⟩
      · unfold lookI; rw [List.find?_cons_of_pos (by exact decide_eq_true e)]; rfl
      · rw [List.find?_cons_of_pos (by exact decide_eq_true e)]
    · have e1 : lookI ((k', d) :: kvs) k = lookI kvs k := by unfold lookI; rw [List.find?_cons_of_neg (by simpa using e)]
      have e2 : ((k', b, u) :: xs).find? (fun x => decide (x.1 = k)) = xs.find? (fun x => decide (x.1 = k)) := by rw [List.find?_cons_of_neg (by simpa using e)]
      rw [e1, e2]
      exact ih
theorem DRl.some {kvs : List (List Int × D)} {xs : List (List Int × Addr × Value)} (h : DRl K ms F kvs xs) (k : List Int) : (lookI kvs k).isSome = xs.any fun x => decide (x.1 = k) := by
  rw [← any_find, Option.isSome_map]
  rcases h.look k with ⟨e1, e2⟩ | ⟨d, x, v, e1, e2, _⟩
  · rw [e1, e2]; rfl
  · rw [e1, e2]; rfl
theorem DRl.app {kvs kvs' : List (List Int × D)} {xs xs' : List (List Int × Addr × Value)} (h : DRl K ms F kvs xs) (h' : DRl K ms F kvs' xs') : DRl K ms F (kvs ++ kvs') (xs ++ xs') := by
  induction h with
  | nil => exact h'
  | cons a b c _ ih => exact .cons a b c ih
theorem DRl.mapPut {kvs : List (List Int × D)} {xs : List (List Int × Addr × Value)} {k : List Int} {u : Value} {v : V} {d : D} (h : DRl K ms F kvs xs) (hu : RelV v u) (hd : Rp K ms F v d) : DRl K ms F (kvs.map fun kv => if kv.1 = k then (kv.1, d) else kv) (xs.map fun x => if x.1 = k then (x.1, x.2.1, u) else x) := by
  induction h with
  | nil => exact .nil
  | @cons k' b' u' v' d' kvs xs h1 h2 h3 _ ih =>
    rw [List.map_cons, List.map_cons]
    by_cases e : k' = k
    · rw [if_pos e, if_pos e]
      exact .cons h1 hu hd ih
    · rw [if_neg e, if_neg e]
      exact .cons h1 h2 h3 ih
theorem DRl.put {kvs : List (List Int × D)} {xs : List (List Int × Addr × Value)} (h : DRl K ms F kvs xs) {k : List Int} {b : Addr} {u : Value} {v : V} {d : D} (hb : SqT K F b (k.map V.int)) (hu : RelV v u) (hd : Rp K ms F v d) : DRl K ms F (putI kvs k d) (putX xs k b u) := by
  unfold putI putX
  rw [h.some k]
  split
  · exact h.mapPut hu hd
  · exact h.app (.cons hb hu hd .nil)
end
section
variable {X : Cx} {B : Bs} {pins : List (Addr × Obj)} {σ : L2.St} {H F : Hp} {s : Shared}
end
/-! ### the rules -/
section
variable {X : Cx} {B : Bs} {e ev : Expr} {r rv : Rd} {pos p0 pv pos' tpos : Pos} {x : Str} {i k : Nat}
end
end Y
namespace Y
open PySem PySem.Spec PyProof.Rows L2 Z
/-! ### own lists: pop, + , != [] -/
theorem Rps.last {K : Frg} {ms : List Addr} {F : Hp} : ∀ {vs : List V} {ds : List D}, Rps K ms F vs ds → Rps K ms F vs.dropLast ds.dropLast
  | _, _, .nil => .nil
  | _, _, .cons h .nil => .nil
  | _, _, .cons h (.cons h1 h2) => .cons h (Rps.last (.cons h1 h2))
section
variable {X : Cx} {B : Bs} {a b c e o : Expr} {ra rb r ro : Rd} {pos p0 apos cpos pv pos' lp : Pos} {x y : Str} {i j k : Nat}
end
end Y
namespace Y
open PySem PySem.Spec PyProof.Rows L2 Z
/-! ### a class and a subclass of it, with one == -/
structure Two (K : Frg) (C C' g : Addr) : Prop where
  s1 : PySem.W.findIn K (.ref C) "__eq__" = some (some (.ref g))
  s2 : PySem.W.findIn K (.ref C') "__eq__" = some (some (.ref g))
  fn : PySem.W.isFn K (.ref g) = true
  n1 : PySem.W.findIn K (.ref C) "__ne__" = some (some (.builtin "object.__ne__"))
  n2 : PySem.W.findIn K (.ref C') "__ne__" = some (some (.builtin "object.__ne__"))
  o1 : PySem.W.mroIn K C (.type "object") = some true
  o2 : PySem.W.mroIn K C' (.type "object") = some true
  su : PySem.W.subIn K (.ref C') (.ref C) = some true
  nf : PySem.W.notFirst K C' (.ref C) = true
  ne : C ≠ C'
section
variable {X : Cx} {CX : CXT} {k : Nat} {g C C' : Addr} {sp : Sp} {E : XK}
end
section
variable {K : Frg} {B : Bs} {R : RdF}
end
section
variable {X : Cx} {B : Bs} {K : Frg} {ms : List Addr} {a b c e o e2 : Expr} {es : List Expr} {ra rb rc r ro r2 : Rd} {rt ru : RdT} {rl : RdA} {pos p0 apos kpos : Pos} {R : RdF} {k : Nat} {f g p : Addr} {x m : Str}
/-! ### o[i], len(o), repr(o) of instances of some classes with one method -/
end
end Y
namespace Z
open PySem PySem.Spec PyProof.Rows L2
open PySem.W
section
variable {prog : Program} {w : World} {A : Around} {E : Value → Shared → Prop} {s : Shared} {K : Frg} {x C C' L f f' : Addr} {h₀ : Heap} {m : Str → Option Value} {ox : Obj} {od : Option Obj} {T : String}
end
section
variable {X : Cx} {CX : CXT} {k : Nat} {f C C' p g g' : Addr} {sp : Sp} {E : XK} {T : String}
end
end Z
namespace Y
open PySem PySem.Spec PyProof.Rows L2 Z
section
variable {X : Cx} {B : Bs} {K : Frg} {R : RdF}
end
end Y
namespace GX
open PySem
/-! ### a run that never wakes a generator leaves it as it was -/
theorem no_run {M : Model} {w : String} {Γ : Ctx} {p : Pos} {fs : List Frame} {s s' : Shared} {e : End} (h : Runs M Γ p (.unsupported w) fs s e s') : False := by
  generalize ht : (Sem.unsupported w : Sem Fin) = t at h
  induction h with
  | segRet _ _ ih _ => exact ih ht
  | segGen _ _ ih _ => exact ih ht
  | segSuspOut _ _ ih => exact ih ht
  | segSuspGen _ _ _ _ ih _ => exact ih ht
  | _ => cases ht
theorem split_ret {k : Result → Sem Fin} {h : Option Value} {g : Bool} {l : List Value} {c : Code} {p : Pos} {kp : List Value} {fs : List Frame} (q : splitAtGen (.ret k h g l c p kp :: fs) = none) : splitAtGen fs = none := by
  unfold splitAtGen at q
  simpa using q
theorem split_app : ∀ {fs gs : List Frame}, splitAtGen fs = none → splitAtGen gs = none → splitAtGen (fs ++ gs) = none
  | [], _, _, h => h
  | .ret k hh g l c p kp :: fs, gs, q, h => by
    have := split_app (split_ret q) h
    show splitAtGen (.ret k hh g l c p kp :: (fs ++ gs)) = none
    unfold splitAtGen
    simpa using this
  | .gen .. :: fs, gs, q, _ => by unfold splitAtGen at q; cases q
def GOk : GenState → Prop
  | .suspended _ _ _ _ fs _ => splitAtGen fs = none
  | _ => True
def EOk : End → Prop
  | .susp _ _ _ _ _ _ fs => splitAtGen fs = none
  | _ => True
theorem EOk.gen {e : End} (h : EOk e) : GOk e.genState := by
  cases e with
  | ret _ => trivial
  | susp => exact h
def IsDead (d : GenState) : Prop := ∃ l c p fs cl, d = .suspended (fun _ => .unsupported "dead") l c p fs cl
/-- what a run sees, and what truly stands there -/
inductive Pr : GenState → GenState → Prop
  | same (x : GenState) : GOk x → Pr x x
  | dead {l l' : List Value} {c : Code} {p : Pos} {fs fs' : List Frame} {cl : Bool} {k : Resume → Sem Fin} : splitAtGen fs = none → fs.map Frame.where_ = fs'.map Frame.where_ → Pr (.suspended (fun _ => .unsupported "dead") l c p fs cl) (.suspended k l' c p fs' cl)
theorem Pr.seen {x y : GenState} (h : Pr x y) : x.seen = y.seen := by
  cases h with
  | same => rfl
  | dead _ e => show (GenStatus.suspended, some (_ :: _)) = (GenStatus.suspended, some (_ :: _)); rw [e]
structure Rl (D L : Array GenState) : Prop where
  sz : D.size = L.size
  pr : ∀ (i : Nat) (d y : GenState), D[i]? = some d → L[i]? = some y → Pr d y
def Kept (D L D' L' : Array GenState) : Prop := ∀ (i : Nat) (d y : GenState), D[i]? = some d → L[i]? = some y → IsDead d → D'[i]? = some d ∧ L'[i]? = some y
theorem Kept.refl (D L : Array GenState) : Kept D L D L := fun _ _ _ h1 h2 _ => ⟨h1, h2⟩
theorem Kept.trans {D L D1 L1 D2 L2 : Array GenState} (a : Kept D L D1 L1) (b : Kept D1 L1 D2 L2) : Kept D L D2 L2 := fun i d y h1 h2 h3 => let ⟨x1, x2⟩ := a i d y h1 h2 h3; b i d y x1 x2 h3
theorem Rl.get {D L : Array GenState} (h : Rl D L) {i : Nat} {d : GenState} (e : D[i]? = some d) : ∃ y, L[i]? = some y ∧ Pr d y := by
  have hi : i < D.size := by
    rcases Nat.lt_or_ge i D.size with z | z
    · exact z
    · rw [Array.getElem?_eq_none z] at e; cases e
  have hl : i < L.size := by rw [← h.sz]; exact hi
  exact ⟨L[i], Array.getElem?_eq_getElem hl, h.pr i d _ e (Array.getElem?_eq_getElem hl)⟩
theorem Rl.set {D L : Array GenState} (h : Rl D L) (g : Nat) {x : GenState} (hx : GOk x) : Rl (D.setIfInBounds g x) (L.setIfInBounds g x) := by
  refine ⟨by simp [h.sz], fun i d y e1 e2 => ?_⟩
  rw [Array.getElem?_setIfInBounds] at e1 e2
  by_cases hg : g = i
  · subst hg
    rw [if_pos rfl] at e1 e2
    split at e1
    · split at e2
      · cases e1; cases e2; exact .same _ hx
      · cases e2
    · cases e1
  · rw [if_neg hg] at e1 e2
    exact h.pr i d y e1 e2
theorem Kept.set {D L : Array GenState} {g : Nat} {d0 x x' : GenState} (e : D[g]? = some d0) (hd : ¬ IsDead d0) : Kept D L (D.setIfInBounds g x) (L.setIfInBounds g x') := fun i d y h1 h2 h3 => by
  have hg : g ≠ i := fun z => by subst z; rw [e] at h1; cases h1; exact hd h3
  rw [Array.getElem?_setIfInBounds, Array.getElem?_setIfInBounds, if_neg hg, if_neg hg]
  exact ⟨h1, h2⟩
/-- the same, in two steps: what was not dead at first may be set again -/
theorem Kept.set2 {D L D1 L1 : Array GenState} {g : Nat} {d0 x x' : GenState} (k : Kept D L D1 L1) (e : D[g]? = some d0) (hd : ¬ IsDead d0) : Kept D L (D1.setIfInBounds g x) (L1.setIfInBounds g x') := fun i d y h1 h2 h3 => by
  have hg : g ≠ i := fun z => by subst z; rw [e] at h1; cases h1; exact hd h3
  rw [Array.getElem?_setIfInBounds, Array.getElem?_setIfInBounds, if_neg hg, if_neg hg]
  exact k i d y h1 h2 h3
theorem Rl.push {D L : Array GenState} (h : Rl D L) (c : Code) : Rl (D.push (.fresh c)) (L.push (.fresh c)) := by
  refine ⟨by simp [h.sz], fun i d y e1 e2 => ?_⟩
  rw [Array.getElem?_push] at e1 e2
  rw [← h.sz] at e2
  split at e1
  · rename_i hi
    rw [if_pos hi] at e2
    cases e1; cases e2
    exact .same _ trivial
  · rename_i hi
    rw [if_neg hi] at e2
    exact h.pr i d y e1 e2
theorem Kept.push {D L : Array GenState} {x y : GenState} : Kept D L (D.push x) (L.push y) := fun i d z h1 h2 _ => by
  have a : i < D.size := by
    rcases Nat.lt_or_ge i D.size with q | q
    · exact q
    · rw [Array.getElem?_eq_none q] at h1; cases h1
  have b : i < L.size := by
    rcases Nat.lt_or_ge i L.size with q | q
    · exact q
    · rw [Array.getElem?_eq_none q] at h2; cases h2
  rw [Array.getElem?_push, if_neg (by omega), Array.getElem?_push, if_neg (by omega)]
  exact ⟨h1, h2⟩
theorem Pr.fresh {c : Code} {y : GenState} (h : Pr (.fresh c) y) : y = .fresh c := by cases h; rfl
theorem Pr.running {y : GenState} (h : Pr .running y) : y = .running := by cases h; rfl
theorem Pr.finished {y : GenState} (h : Pr .finished y) : y = .finished := by cases h; rfl
theorem nd_fresh {c : Code} : ¬ IsDead (.fresh c) := fun ⟨_, _, _, _, _, h⟩ => by cases h
theorem runs_lift {M : Model} {Γ : Ctx} {p : Pos} {t : Sem Fin} {fs : List Frame} {s s' : Shared} {e : End} (h : Runs M Γ p t fs s e s') (hf : splitAtGen fs = none) :
    ∀ L, Rl s.gens L → ∃ L', Rl s'.gens L' ∧ Kept s.gens L s'.gens L' ∧ EOk e ∧ Runs M Γ p t fs { s with gens := L } e { s' with gens := L' } := by
  induction h with
  | done => exact fun L h => ⟨L, h, .refl _ _, trivial, .done⟩
  | raise => exact fun L h => ⟨L, h, .refl _ _, trivial, .raise⟩
  | again q _ ih => intro L h; obtain ⟨L', a, b, c, d⟩ := ih rfl L h; exact ⟨L', a, b, c, .again q d⟩
  | rule _ ih => intro L h; obtain ⟨L', a, b, c, d⟩ := ih rfl L h; exact ⟨L', a, b, c, .rule d⟩
  | «at» _ ih => intro L h; obtain ⟨L', a, b, c, d⟩ := ih rfl L h; exact ⟨L', a, b, c, .at d⟩
  | load q _ ih => intro L h; obtain ⟨L', a, b, c, d⟩ := ih rfl L h; exact ⟨L', a, b, c, .load q d⟩
  | update q _ ih => intro L h; obtain ⟨L', a, b, c, d⟩ := ih rfl L h; exact ⟨L', a, b, c, .update q d⟩
  | loadIfAlive _ ih => intro L h; obtain ⟨L', a, b, c, d⟩ := ih rfl L h; exact ⟨L', a, b, c, .loadIfAlive d⟩
  | point _ ih => intro L h; obtain ⟨L', a, b, c, d⟩ := ih rfl L h; exact ⟨L', a, b, c, .point d⟩
  | alloc _ ih => intro L h; obtain ⟨L', a, b, c, d⟩ := ih rfl L h; exact ⟨L', a, b, c, .alloc d⟩
  | fresh _ ih => intro L h; obtain ⟨L', a, b, c, d⟩ := ih rfl L h; exact ⟨L', a, b, c, .fresh d⟩
  | ask _ ih => intro L h; obtain ⟨L', a, b, c, d⟩ := ih rfl L h; exact ⟨L', a, b, c, .ask d⟩
  | choose n _ ih => intro L h; obtain ⟨L', a, b, c, d⟩ := ih rfl L h; exact ⟨L', a, b, c, .choose n d⟩
  | os _ ih => intro L h; obtain ⟨L', a, b, c, d⟩ := ih rfl L h; exact ⟨L', a, b, c, .os d⟩
  | handled _ ih => intro L h; obtain ⟨L', a, b, c, d⟩ := ih rfl L h; exact ⟨L', a, b, c, .handled d⟩
  | genState hs _ ih =>
    intro L h
    obtain ⟨L', a, b, c, d⟩ := ih rfl L h
    obtain ⟨y, hy, py⟩ := h.get hs
    rw [py.seen] at d
    exact ⟨L', a, b, c, .genState hy d⟩
  | stack _ ih => intro L h; obtain ⟨L', a, b, c, d⟩ := ih rfl L h; exact ⟨L', a, b, c, .stack d⟩
  | thread _ ih => intro L h; obtain ⟨L', a, b, c, d⟩ := ih rfl L h; exact ⟨L', a, b, c, .thread d⟩
  | newGen _ ih =>
    intro L h
    obtain ⟨L', a, b, c, d⟩ := ih rfl _ (h.push _)
    exact ⟨L', a, Kept.push.trans b, c, .newGen (h.sz ▸ d)⟩
  | call _ _ ih1 ih2 =>
    intro L h
    obtain ⟨L1, a, b, c, d⟩ := ih1 rfl L h
    obtain ⟨L2, a2, b2, c2, d2⟩ := ih2 rfl L1 a
    exact ⟨L2, a2, b.trans b2, c2, .call d d2⟩
  | callSusp _ ih => intro L h; obtain ⟨L', a, b, c, d⟩ := ih rfl L h; exact ⟨L', a, b, split_app c (by unfold splitAtGen splitAtGen; rfl), .callSusp d⟩
  | yield => exact fun L h => ⟨L, h, .refl _ _, rfl, .yield⟩
  | resumeFresh hs _ hq _ ih1 ih2 =>
    intro L h
    obtain ⟨y, hy, py⟩ := h.get hs
    cases py.fresh
    obtain ⟨L1, a, b, c, d⟩ := ih1 rfl _ (h.set _ (x := .running) trivial)
    obtain ⟨L2, a2, b2, c2, d2⟩ := ih2 rfl _ (a.set _ c.gen)
    exact ⟨L2, a2, (Kept.set2 ((Kept.set hs nd_fresh).trans b) hs nd_fresh).trans b2, c2, .resumeFresh hy d hq d2⟩
  | @resumeSuspended Γ p g r l k s k₀ l₀ c₀ p₀ fs cl e₁ s₁ e s' hs hr hq _ ih1 ih2 =>
    intro L h
    obtain ⟨y, hy, py⟩ := h.get hs
    have nd : ¬ IsDead (.suspended k₀ l₀ c₀ p₀ fs cl) := fun ⟨_, _, _, _, _, z⟩ => by
      have z2 : k₀ = fun _ => .unsupported "dead" := by injection z
      rw [z2] at hr
      exact no_run hr
    cases py with
    | dead _ _ => exact (no_run hr).elim
    | same _ gk =>
      obtain ⟨L1, a, b, c, d⟩ := ih1 gk _ (h.set _ (x := .running) trivial)
      obtain ⟨L2, a2, b2, c2, d2⟩ := ih2 rfl _ (a.set _ c.gen)
      exact ⟨L2, a2, (Kept.set2 ((Kept.set hs nd).trans b) hs nd).trans b2, c2, .resumeSuspended hy d hq d2⟩
  | resumeJustStarted hs hv _ ih =>
    intro L h
    obtain ⟨y, hy, py⟩ := h.get hs
    cases py.fresh
    obtain ⟨L', a, b, c, d⟩ := ih rfl L h
    exact ⟨L', a, b, c, .resumeJustStarted hy hv d⟩
  | resumeThrowFresh hs _ ih =>
    intro L h
    obtain ⟨y, hy, py⟩ := h.get hs
    cases py.fresh
    obtain ⟨L', a, b, c, d⟩ := ih rfl _ (h.set _ (x := .finished) trivial)
    exact ⟨L', a, (Kept.set hs nd_fresh).trans b, c, .resumeThrowFresh hy d⟩
  | resumeRunning hs _ ih =>
    intro L h
    obtain ⟨y, hy, py⟩ := h.get hs
    cases py.running
    obtain ⟨L', a, b, c, d⟩ := ih rfl L h
    exact ⟨L', a, b, c, .resumeRunning hy d⟩
  | resumeFinished hs _ ih =>
    intro L h
    obtain ⟨y, hy, py⟩ := h.get hs
    cases py.finished
    obtain ⟨L', a, b, c, d⟩ := ih rfl L h
    exact ⟨L', a, b, c, .resumeFinished hy d⟩
  | segRet _ _ ih1 ih2 =>
    intro L h
    obtain ⟨L1, a, b, c, d⟩ := ih1 rfl L h
    obtain ⟨L2, a2, b2, c2, d2⟩ := ih2 (split_ret hf) L1 a
    exact ⟨L2, a2, b.trans b2, c2, .segRet d d2⟩
  | segGen _ _ _ _ => unfold splitAtGen at hf; cases hf
  | segSuspOut q _ ih => intro L h; obtain ⟨L', a, b, c, d⟩ := ih rfl L h; exact ⟨L', a, b, split_app c q, .segSuspOut q d⟩
  | segSuspGen q _ _ _ _ _ => rw [q] at hf; cases hf
end GX
namespace GX
open PySem
open Sem (wp)
open PyProof.Rows (AllBare)
theorem wakes_lift {M : Model} {Γ : Ctx} {p : Pos} {g : Nat} {r : Resume} {s s' : Shared} {res : GenResult} (h : Wakes M Γ p g r s res s') {L : Array GenState} (hL : Rl s.gens L) :
    ∃ L', Rl s'.gens L' ∧ Kept s.gens L s'.gens L' ∧ Wakes M Γ p g r { s with gens := L } res { s' with gens := L' } := by
  unfold Wakes at h
  split at h
  · exact h.elim
  · rename_i c hs
    obtain ⟨y, hy, py⟩ := hL.get hs
    cases py.fresh
    split at h
    · obtain ⟨e₁, s₁, h1, h2, rfl, rfl⟩ := h
      obtain ⟨L1, a, b, c1, d⟩ := runs_lift h1 rfl _ (hL.set _ (x := .running) trivial)
      refine ⟨_, a.set g c1.gen, Kept.set2 ((Kept.set hs nd_fresh).trans b) hs nd_fresh, ?_⟩
      unfold Wakes
      dsimp only
      rw [hy]
      exact ⟨e₁, { s₁ with gens := L1 }, d, h2, rfl, rfl⟩
    · rename_i v hv
      obtain ⟨rfl, rfl⟩ := h
      refine ⟨L, hL, .refl _ _, ?_⟩
      unfold Wakes
      dsimp only
      rw [hy]
      cases v with
      | none => exact (hv rfl).elim
      | _ => exact ⟨rfl, rfl⟩
    · obtain ⟨rfl, rfl⟩ := h
      refine ⟨_, hL.set g (x := .finished) trivial, Kept.set hs nd_fresh, ?_⟩
      unfold Wakes
      dsimp only
      rw [hy]
      exact ⟨rfl, rfl⟩
  · rename_i k₀ l₀ c₀ p₀ fs cl hs
    obtain ⟨y, hy, py⟩ := hL.get hs
    obtain ⟨e₁, s₁, h1, h2, rfl, rfl⟩ := h
    have nd : ¬ IsDead (.suspended k₀ l₀ c₀ p₀ fs cl) := fun ⟨_, _, _, _, _, z⟩ => by
      have z2 : k₀ = fun _ => .unsupported "dead" := by injection z
      rw [z2] at h1
      exact no_run h1
    cases py with
    | dead _ _ => exact (no_run h1).elim
    | same _ gk =>
      obtain ⟨L1, a, b, c1, d⟩ := runs_lift h1 gk _ (hL.set _ (x := .running) trivial)
      refine ⟨_, a.set g c1.gen, Kept.set2 ((Kept.set hs nd).trans b) hs nd, ?_⟩
      unfold Wakes
      dsimp only
      rw [hy]
      exact ⟨e₁, { s₁ with gens := L1 }, d, h2, rfl, rfl⟩
  · rename_i hs
    obtain ⟨y, hy, py⟩ := hL.get hs
    cases py.running
    obtain ⟨rfl, rfl⟩ := h
    refine ⟨L, hL, .refl _ _, ?_⟩
    unfold Wakes
    dsimp only
    rw [hy]
    exact ⟨rfl, rfl⟩
  · rename_i hs
    obtain ⟨y, hy, py⟩ := hL.get hs
    cases py.finished
    obtain ⟨rfl, rfl⟩ := h
    refine ⟨L, hL, .refl _ _, ?_⟩
    unfold Wakes
    dsimp only
    rw [hy]
    exact ⟨rfl, rfl⟩
def Post (D L : Array GenState) (Q : Shared → Prop) (s' : Shared) : Prop := ∃ D', Rl D' s'.gens ∧ Kept D L D' s'.gens ∧ Q { s' with gens := D' }
theorem Post.up {D L D1 L1 : Array GenState} (k : Kept D L D1 L1) {Q : Shared → Prop} {s' : Shared} (h : Post D1 L1 Q s') : Post D L Q s' := let ⟨D', a, b, c⟩ := h; ⟨D', a, k.trans b, c⟩
theorem wp_lift {α : Type} (M : Model) (Γ : Ctx) (t : Sem α) : ∀ (Q : α → Pos → Shared → Prop) (E : Value → Pos → Shared → Prop) (p : Pos) (s : Shared) (L : Array GenState), Rl s.gens L → wp M Γ t Q E p s →
    wp M Γ t (fun a p' s' => Post s.gens L (Q a p') s') (fun e p' s' => Post s.gens L (E e p') s') p { s with gens := L } := by
  induction t with
  | pure a => intro Q E p s L hL h; exact ⟨s.gens, hL, .refl _ _, h⟩
  | raise e => intro Q E p s L hL h; exact ⟨s.gens, hL, .refl _ _, h⟩
  | unsupported _ => intro Q E p s L _ h; exact h
  | finish _ => intro Q E p s L _ h; exact h
  | rule _ k ih => intro Q E p s L hL h; exact ih () Q E p s L hL h
  | «at» p' k ih => intro Q E p s L hL h; exact ih () Q E p' s L hL h
  | load a _ k ih => intro Q E p s L hL h; obtain ⟨o, ho, h⟩ := h; exact ⟨o, ho, ih o Q E p s L hL h⟩
  | update a _ f k ih => intro Q E p s L hL h; exact ⟨h.1, ih () Q E p { s with heap := s.heap.update a f } L hL h.2⟩
  | loadIfAlive a k ih => intro Q E p s L hL h; exact ih _ Q E p s L hL h
  | point _ k ih => intro Q E p s L hL h; exact ih () Q E p s L hL h
  | register _ _ => intro Q E p s L _ h; exact h
  | alloc o k ih => intro Q E p s L hL h; exact ih _ Q E p { s with heap := s.heap.push o } L hL h
  | fresh k ih => intro Q E p s L hL h; exact ih _ Q E p { s with toks := s.toks + 1 } L hL h
  | ask k ih => intro Q E p s L hL h; exact ih _ Q E p s L hL h
  | choose src m k ih => intro Q E p s L hL h; exact ⟨h.1, ih _ Q E p { s with drawn := s.drawn.bump src } L hL h.2⟩
  | os q _ k ih => intro Q E p s L hL h; exact ih _ Q E p { s with os := (Os.step s.os q).1 } L hL h
  | call c hd _ _ k ih =>
    intro Q E p s L hL h
    obtain ⟨r, s', hr, h⟩ := h
    obtain ⟨L', a, b, _, d⟩ := runs_lift hr rfl L hL
    refine ⟨r, { s' with gens := L' }, d, ?_⟩
    exact Sem.wp_mono M Γ _ (fun _ _ _ z => Post.up b z) (fun _ _ _ z => Post.up b z) _ _ (ih r Q E p s' L' a h)
  | handled own k ih => intro Q E p s L hL h; exact ih _ Q E p s L hL h
  | genState g k ih =>
    intro Q E p s L hL h
    obtain ⟨st, hs, h⟩ := h
    obtain ⟨y, hy, py⟩ := hL.get hs
    refine ⟨y, hy, ?_⟩
    rw [← py.seen]
    exact ih _ Q E p s L hL h
  | newGen c k ih =>
    intro Q E p s L hL h
    have := ih _ Q E p { s with gens := s.gens.push (.fresh c) } (L.push (.fresh c)) (hL.push c) h
    have h2 := Sem.wp_mono M Γ _ (fun _ _ _ z => Post.up Kept.push z) (fun _ _ _ z => Post.up Kept.push z) _ _ this
    show wp M Γ (k L.size) _ _ p _
    rw [← hL.sz]
    exact h2
  | resume g r _ k ih =>
    intro Q E p s L hL h
    obtain ⟨res, s', hw, h⟩ := h
    obtain ⟨L', a, b, d⟩ := wakes_lift hw hL
    refine ⟨res, { s' with gens := L' }, d, ?_⟩
    exact Sem.wp_mono M Γ _ (fun _ _ _ z => Post.up b z) (fun _ _ _ z => Post.up b z) _ _ (ih res Q E p s' L' a h)
  | yield _ _ _ _ => intro Q E p s L _ h; exact h
  | stack k ih => intro Q E p s L hL h; exact ih _ Q E p s L hL h
  | fork _ _ => intro Q E p s L _ h; exact h
  | thread k ih => intro Q E p s L hL h; exact ih _ Q E p s L hL h
  | await _ _ _ _ _ => intro Q E p s L _ h; exact h
/-! ### all that sleeps made dead -/
def clean (f : Frame) : Frame := .ret (fun _ => .unsupported "dead") none false [] f.where_.1 f.where_.2 []
def poison : GenState → GenState
  | .suspended _ l c p fs cl => .suspended (fun _ => .unsupported "dead") l c p (fs.map clean) cl
  | x => x
theorem clean_split : ∀ fs : List Frame, splitAtGen (fs.map clean) = none
  | [] => rfl
  | f :: fs => by
    show splitAtGen (.ret _ _ _ _ _ _ _ :: fs.map clean) = none
    unfold splitAtGen
    simp [clean_split fs]
theorem poison_pr (x : GenState) : Pr (poison x) x := by
  cases x with
  | suspended k l c p fs cl =>
    refine .dead (clean_split fs) ?_
    rw [List.map_map]
    exact List.map_congr_left fun f _ => by cases f <;> rfl
  | fresh c => exact .same _ trivial
  | running => exact .same _ trivial
  | finished => exact .same _ trivial
theorem Pr.bare {x y : GenState} (h : Pr x y) : x.bare = y.bare := by cases h <;> rfl
theorem poison_rl (G : Array GenState) : Rl (G.map poison) G := by
  refine ⟨by simp, fun i d y e1 e2 => ?_⟩
  rw [Array.getElem?_map, e2] at e1
  cases e1
  exact poison_pr y
def susp : GenState → Bool
  | .suspended .. => true
  | _ => false
/-- what slept sleeps on -/
def Still (G G' : Array GenState) : Prop := ∀ (i : Nat) (y : GenState), G[i]? = some y → susp y = true → G'[i]? = some y
def Lifted (G : Array GenState) (Q : Shared → Prop) (s' : Shared) : Prop := ∃ D', Rl D' s'.gens ∧ Q { s' with gens := D' } ∧ Still G s'.gens
theorem wpAny_lift {M : Model} {A : Around} {α : Type} {t : Sem α} {Q : α → Shared → Prop} {E : Value → Shared → Prop} {s : Shared} (h : wpAny M A t Q E { s with gens := s.gens.map poison }) :
    wpAny M A t (fun a s' => Lifted s.gens (Q a) s') (fun e s' => Lifted s.gens (E e) s') s := by
  have fin : ∀ (P : Shared → Prop) (s' : Shared), Post (s.gens.map poison) s.gens P s' → Lifted s.gens P s' := fun P s' ⟨D', a, b, c⟩ => by
    refine ⟨D', a, c, fun i y hy hs => ?_⟩
    cases y with
    | suspended k l c p fs cl => exact (b i (poison (.suspended k l c p fs cl)) _ (by rw [Array.getElem?_map, hy]; rfl) hy ⟨_, _, _, _, _, rfl⟩).2
    | _ => cases hs
  intro Γ p hΓ
  exact Sem.wp_mono M Γ _ (fun _ _ s' z => fin _ s' z) (fun _ _ s' z => fin _ s' z) _ _ (wp_lift M Γ t _ _ p { s with gens := s.gens.map poison } s.gens (poison_rl s.gens) (h Γ p hΓ))
end GX
namespace GX
open PySem PySem.Spec PyProof.Rows L2 Z
section
variable {X : Cx} {pins : List (Addr × Obj)} {σ : L2.St} {H : Hp} {s : Shared} {D : Array GenState}
end
/-- what is wanted of an exception hangs on no sleeper -/
def GFree (X : Cx) : Prop := ∀ (e : Value) (s' : Shared) (D : Array GenState), Rl D s'.gens → X.xe e { s' with gens := D } → X.xe e s'
/-- a generator that is walked: its objects (fp: those it has now), and how it sleeps -/
structure TurnG (P : Program) (w : World) (K : Frg) (mg : Str → Option Value) (A : Around) (tg : Expr) (J : It) (it : Addr) (g : Nat) (tn : Nat → List Addr → Heap → GenState → Prop) : Prop where
  obj : ∀ i fp h y, tn i fp h y → ∀ b ∈ fp, ∃ o, h.get? b = some o ∧ ∀ v, o.data ≠ .cell v
  keep : ∀ i fp h h' y, tn i fp h y → (∀ b ∈ fp, ∀ o, h.get? b = some o → h'.get? b = some o) → tn i fp h' y
  item : ∀ (X : Cx), X.prog = P → X.w = w → X.K = K → X.mg = mg → X.A = A → X.calm = true → ∀ (i : Nat) (pins : List (Addr × Obj)) (s : Shared) (σ : L2.St) (H : Hp) (E : Value → Shared → Prop) (y : GenState) (fp : List Addr), L2.Inv X pins σ H s → (∀ b ∈ fp, FpOk X pins H b) → s.gens[g]? = some y → tn i fp s.heap y → J.go i H →
    wpAny (model P w) X.A (pyNext (.ref it)) (fun r s1 => ∃ u, r = some u ∧
      wpAny (model P w) X.A (letOwnedTupleGo tg (.ref it) u) (fun _ s2 => ∃ x H' y' fp', L2.Inv X pins σ H' s2 ∧ RelV x u ∧ J.yld i H x H' ∧ s2.gens[g]? = some y' ∧ susp y' = true ∧ tn (i + 1) fp' s2.heap y' ∧ ∀ b ∈ fp', FpOk X pins H' b) E s1) E s
  done : ∀ (X : Cx), X.prog = P → X.w = w → X.K = K → X.mg = mg → X.A = A → X.calm = true → ∀ (i : Nat) (pins : List (Addr × Obj)) (s : Shared) (σ : L2.St) (H : Hp) (E : Value → Shared → Prop) (y : GenState) (fp : List Addr), L2.Inv X pins σ H s → (∀ b ∈ fp, FpOk X pins H b) → s.gens[g]? = some y → tn i fp s.heap y → J.stop i H →
    wpAny (model P w) X.A (pyNext (.ref it)) (fun r s1 => r = none ∧ L2.Inv X pins σ H s1) E s
  self : ∀ (A : Around) (i : Nat) (s : Shared) (y : GenState) (fp : List Addr) (Q : Value → Shared → Prop) (E : Value → Shared → Prop), tn i fp s.heap y → Q (.ref it) s → wpAny (model P w) A (pyIter (.ref it)) Q E s
def PGE (X : Cx) (pins : List (Addr × Obj)) (σ : L2.St) (tg : Expr) (R : It → Hp → Prop) (itv : Value) (s2 : Shared) : Prop :=
  ∃ (it : Addr) (fp : List Addr) (g : Nat) (tn : Nat → List Addr → Heap → GenState → Prop) (J : It) (H' : Hp) (y : GenState), itv = .ref it ∧ L2.Inv X pins σ H' s2 ∧ TurnG X.prog X.w X.K X.mg X.A tg J it g tn ∧ s2.gens[g]? = some y ∧ tn 0 fp s2.heap y ∧ (∀ b ∈ fp, FpOk X pins H' b) ∧ R J H'
/-- an expression that makes a generator -/
structure PIG (X : Cx) (tg iter : Expr) (wi : L2.TI) : Prop where
  run : ∀ (pins : List (Addr × Obj)) (s : Shared) (σ : L2.St) (H : Hp) (R : It → Hp → Prop), L2.Inv X pins σ H s → wi σ H R →
    wpAny (model X.prog X.w) X.A (eval iter X.env) (fun v s1 => wpAny (model X.prog X.w) X.A (pyIter v) (PGE X pins σ tg R) X.xe s1) X.xe s
/-- a step that knows nothing of the sleeper -/
theorem over {X : Cx} {α : Type} {t : Sem α} {Q : α → Shared → Prop} {R : α → Shared → Prop} {s : Shared} (hX : GFree X) (h : wpAny (model X.prog X.w) X.A t Q X.xe { s with gens := s.gens.map poison })
    (k : ∀ a (s' : Shared) D, Rl D s'.gens → Q a { s' with gens := D } → Still s.gens s'.gens → R a s') : wpAny (model X.prog X.w) X.A t R X.xe s :=
  wpAny_mono (wpAny_lift h) (fun a s' ⟨D, r, q, st⟩ => k a s' D r q st) fun e s' ⟨D, r, q, _⟩ => hX e s' D r q
section
variable {X : Cx} {tg : Expr}
end
end GX
namespace GX
open PySem PySem.Spec PyProof.Rows L2 Z
section
variable {X : Cx} {tg : Expr}
end
end GX
namespace GX
open PySem PySem.Spec PyProof.Rows L2 GenW
/-! ### one turn of a generator: runs to an end of which Φ holds -/
def Sg (M : Model) (A : Around) (Φ : End → Shared → Prop) (c : Code) (t : Sem PySem.Fin) (fs : List Frame) (s : Shared) : Prop :=
  ∀ Γ p, Γ.code = c → Γ.Woken A → ∃ e s', Runs M Γ p t fs s e s' ∧ Φ e s'
section
variable {M : Model} {A : Around} {Φ Ψ : End → Shared → Prop} {c : Code} {fs : List Frame} {s : Shared}
theorem Sg.mono {t : Sem PySem.Fin} (h : Sg M A Φ c t fs s) (k : ∀ e s', Φ e s' → Ψ e s') : Sg M A Ψ c t fs s := fun Γ p hc hΓ => let ⟨e, s', r, q⟩ := h Γ p hc hΓ; ⟨e, s', r, k e s' q⟩
theorem sg_wrap {α : Type} {m : Sem α} {K : α → Sem PySem.Fin} {H : Value → Sem PySem.Fin} {gd lv}
    (h : wpAny M (A.over c fs) m (fun a s' => Sg M A Φ c (K a) fs s') (fun x s' => Sg M A Φ c (H x) fs s') s) : Sg M A Φ c (m.wrap K H gd lv) fs s := by
  rintro Γ p rfl hΓ
  exact runs_wrap_of_wp K H gd lv m (h (Γ.over fs) p (hΓ.over fs)) (fun a p' s' h' => h' Γ p' rfl hΓ) (fun x p' s' h' => h' Γ p' rfl hΓ)
theorem sg_bw {α β : Type} {m : Sem α} {K : α → Sem β} {K' : β → Sem PySem.Fin} {H' : Value → Sem PySem.Fin} {gd lv}
    (h : wpAny M (A.over c fs) m (fun a s' => Sg M A Φ c ((K a).wrap K' H' gd lv) fs s') (fun x s' => Sg M A Φ c (H' x) fs s') s) : Sg M A Φ c ((m >>= K).wrap K' H' gd lv) fs s := by
  rw [Sem.bind_eq_wrap', Sem.wrap_wrap]; exact sg_wrap h
theorem sg_at {p' : Pos} {k : Unit → Sem PySem.Fin} (h : Sg M A Φ c (k ()) fs s) : Sg M A Φ c (.at p' k) fs s :=
  sg_wrap (m := standAt p') (K := k) (H := .raise) (gd := id) (lv := id) (wpAny_standAt h)
theorem sg_point {l : List Value} {k : Unit → Sem PySem.Fin} (h : Sg M A Φ c (k ()) fs s) : Sg M A Φ c (.point l k) fs s :=
  sg_wrap (m := point) (K := k) (H := .raise) (gd := id) (lv := fun _ => l) (wpAny_point h)
theorem sg_call {c' : Code} {h g l} {k : Result → Sem PySem.Fin} (hc : ∀ p, Sg M A Φ c' (M.den c') (.ret k h g l c p [] :: fs) s) : Sg M A Φ c (.call c' h g l k) fs s := by
  rintro Γ p rfl hΓ
  obtain ⟨e, s', hr, he⟩ := hc p (Γ.goto c') p rfl (hΓ.goto c')
  exact ⟨e, s', runs_call_seg hr, he⟩
theorem sg_leaf {k h g l c₁ p₁ kp} (r : Result) (hk : Sg M A Φ c₁ (k r) fs s) : Sg M A Φ c (leafOf r) (.ret k h g l c₁ p₁ kp :: fs) s := by
  rintro Γ p rfl hΓ
  obtain ⟨e, s', hr, he⟩ := hk (Γ.goto c₁) p₁ rfl (hΓ.goto c₁)
  exact ⟨e, s', Runs.pop r hr, he⟩
theorem sg_again {c' : Code} (hq : c'.quiet = true) (hc : Sg M A Φ c' (M.den c') fs s) : Sg M A Φ c (.pure (.again c')) fs s := by
  rintro Γ p rfl hΓ
  obtain ⟨e, s', hr, he⟩ := hc (Γ.goto c') p rfl (hΓ.goto c')
  exact ⟨e, s', Runs.head (c₁ := c') (fun _ _ x => .again hq x) hr, he⟩
theorem sg_end (r : Result) (h : Φ (.ret r) s) : Sg M A Φ c (leafOf r) [] s := by
  rintro Γ p rfl _
  exact ⟨.ret r, s, Runs.leaf r, h⟩
theorem sg_yield {v g l} {k : Resume → Sem PySem.Fin} (hfs : splitAtGen fs = none) (h : ∀ p, Φ (.susp v g l k c p fs) s) : Sg M A Φ c (.yield v g l k) fs s := by
  rintro Γ p rfl _
  exact ⟨_, s, Runs.yield' fs hfs, h p⟩
/-- a sleeper that is woken -/
def Wk (M : Model) (A : Around) (y : GenState) (s : Shared) (Φ : End → Shared → Prop) : Prop := match y with
  | .fresh c => Sg M A Φ c (M.den c) [] s
  | .suspended k _ c _ fs _ => Sg M A Φ c (k (.send .none)) fs s
  | _ => False
end
section
variable {P : Program} {w : World} {A : Around} {E : Value → Shared → Prop} {s : Shared} {Φ : End → Shared → Prop}
end
/-! ### for, in a generator -/
section
variable {M : Model} {A : Around} {Φ : End → Shared → Prop} {c : Code} {fs : List Frame} {s : Shared} {env : Env} {K : Flow → Sem PySem.Fin} {H : Value → Sem PySem.Fin} {gd : Bool → Bool} {lv : List Value → List Value}
theorem sg_cons {st : Stmt} {rest : List Stmt} (h : Sg M A Φ c ((exec st env).wrap (fun f => match f with | .next => (execs rest env).wrap K H gd lv | f => K f) H gd lv) fs s) :
    Sg M A Φ c ((execs (st :: rest) env).wrap K H gd lv) fs s := by rw [execs_cons_wrap]; exact h
theorem sg_nil (h : Sg M A Φ c (K .next) fs s) : Sg M A Φ c ((execs [] env).wrap K H gd lv) fs s := h
/-- what a loop's call does with what comes back -/
def backK (env : Env) (K : Flow → Sem PySem.Fin) (H : Value → Sem PySem.Fin) (gd : Bool → Bool) (lv : List Value → List Value) (r : Result) : Sem PySem.Fin :=
  ((match r with | .ok f => (.pure f : Sem Flow) | .error e => .raise e).onRaise fun (x : Value) => do
    if (← field x 1) == Value.none then unsupported "frame.own-activation:exception-without-traceback"
    setFlight x env.frame).wrap K H gd lv
theorem sg_For {tg iter : Expr} {body : List Stmt} {pos : Pos}
    (h : wpAny M (A.over c fs) (eval iter env) (fun x s1 => wpAny M (A.over c fs) (pyIter x) (fun it s2 => ∀ p, Sg M A Φ (.forLoop tg it body [] env) (M.den (.forLoop tg it body [] env)) (.ret (backK env K H gd lv) none (gd false) (lv []) c p [] :: fs) s2) (fun _ _ => False) s1) (fun _ _ => False) s)
    (hs : ∀ x, foldedSetIterable iter env x = pure x := by intro _; rfl) : Sg M A Φ c ((exec (.For tg iter body [] pos) env).wrap K H gd lv) fs s := by
  rw [exec_For]
  refine sg_bw (wpAny_standAt ?_)
  refine sg_bw (wpAny_mono h (fun x s1 h1 => ?_) fun _ _ e => e.elim)
  refine sg_bw (wpAny_of_eq (hs x) ?_)
  refine sg_bw (wpAny_standAt ?_)
  refine sg_bw (wpAny_holding (wpAny_mono h1 (fun it s2 h2 => ?_) fun _ _ e => e.elim))
  exact sg_call h2
/-- what is done with what leaves a loop's code as an exception -/
def loopH (env : Env) (e : Value) : Sem PySem.Fin := (do noteFrame e env; theTreesLotGoes e : Sem Unit).bind fun _ => .raise e
def loopK (c : Code) (f : Flow) : Sem PySem.Fin := match f with
  | .next | .cont => .pure (.again c)
  | .brk => .pure (.done .next)
  | .ret v => .pure (.done (.ret v))
end
section
variable {P : Program} {w : World} {A : Around} {Φ : End → Shared → Prop} {fs : List Frame} {s : Shared} {env : Env}
theorem sg_forLoop {tg : Expr} {it : Value} {body : List Stmt}
    (h : wpAny (model P w) (A.over (.forLoop tg it body [] env) fs) (pyNext it) (fun r s1 => match r with
      | none => Sg (model P w) A Φ (.block [] env) (leafOf (.ok .next)) fs s1
      | some v => wpAny (model P w) (A.over (.forLoop tg it body [] env) fs) (letOwnedTupleGo tg it v) (fun _ s2 => wpAny (model P w) (A.over (.forLoop tg it body [] env) fs) (assign tg env v)
          (fun _ s3 => Sg (model P w) A Φ (.forLoop tg it body [] env) ((execs body env).wrap (loopK (.forLoop tg it body [] env)) (loopH env) id id) fs s3) (fun _ _ => False) s2) (fun _ _ => False) s1) (fun _ _ => False) s) :
    Sg (model P w) A Φ (.forLoop tg it body [] env) ((model P w).den (.forLoop tg it body [] env)) fs s := by
  show Sg _ A Φ _ ((forTurn tg it body [] env).onRaise (fun x => do noteFrame x env; theTreesLotGoes x)) fs s
  unfold forTurn
  rw [Sem.onRaise_eq_wrap]
  refine sg_bw (wpAny_standAt ?_)
  refine sg_bw (wpAny_onRaise (wpAny_mono h (fun r s1 h1 => ?_) fun _ _ e => e.elim))
  cases r with
  | none => exact sg_again rfl h1
  | some v =>
    refine sg_bw (wpAny_mono h1 (fun _ s2 h2 => ?_) fun _ _ e => e.elim)
    refine sg_bw (wpAny_mono h2 (fun _ s3 h3 => ?_) fun _ _ e => e.elim)
    rw [Sem.bind_eq_wrap', Sem.wrap_wrap]
    refine Eq.mpr (congrArg (fun t => Sg (model P w) A Φ (.forLoop tg it body [] env) t fs s3) (Sem.wrap_congr (execs body env) (K' := loopK (.forLoop tg it body [] env)) (H' := loopH env) _ _ (fun f => ?_) fun e => ?_)) h3
    · cases f <;> rfl
    · rfl
end
end GX
namespace GX
open PySem PySem.Spec PyProof.Rows L2 GenW
/-! ### nothing that runs makes the heap smaller -/
theorem runs_hsz {M : Model} {Γ : PySem.Ctx} {p : Pos} {t : Sem PySem.Fin} {fs : List Frame} {s s' : Shared} {e : End} (h : Runs M Γ p t fs s e s') : s.heap.objs.size ≤ s'.heap.objs.size := by
  induction h <;> (try simp only [Shared.setGen, Heap.size_push, Heap.size_update] at *) <;> omega
theorem wakes_hsz {M : Model} {Γ : PySem.Ctx} {p : Pos} {g : Nat} {r : Resume} {s s' : Shared} {res : GenResult} (h : Wakes M Γ p g r s res s') : s.heap.objs.size ≤ s'.heap.objs.size := by
  unfold Wakes at h
  split at h
  · exact h.elim
  · split at h
    · obtain ⟨e₁, s₁, hr, _, _, rfl⟩ := h
      exact (runs_hsz hr : (s.setGen g .running).heap.objs.size ≤ s₁.heap.objs.size)
    · rw [h.2]; exact Nat.le_refl _
    · rw [h.2]; exact Nat.le_refl _
  · obtain ⟨e₁, s₁, hr, _, _, rfl⟩ := h
    exact (runs_hsz hr : (s.setGen g .running).heap.objs.size ≤ s₁.heap.objs.size)
  · rw [h.2]; exact Nat.le_refl _
  · rw [h.2]; exact Nat.le_refl _
theorem wp_hsz {α : Type} (M : Model) (Γ : PySem.Ctx) (n : Nat) (t : Sem α) : ∀ (Q : α → Pos → Shared → Prop) (E : Value → Pos → Shared → Prop) (p : Pos) (s : Shared), n ≤ s.heap.objs.size → Sem.wp M Γ t Q E p s →
    Sem.wp M Γ t (fun a p' s' => n ≤ s'.heap.objs.size ∧ Q a p' s') (fun e p' s' => n ≤ s'.heap.objs.size ∧ E e p' s') p s := by
  induction t with
  | pure a => intro Q E p s hn h; exact ⟨hn, h⟩
  | raise e => intro Q E p s hn h; exact ⟨hn, h⟩
  | unsupported _ => intro Q E p s _ h; exact h
  | finish _ => intro Q E p s _ h; exact h
  | rule _ k ih => intro Q E p s hn h; exact ih () Q E p s hn h
  | «at» p' k ih => intro Q E p s hn h; exact ih () Q E p' s hn h
  | load a _ k ih => intro Q E p s hn h; obtain ⟨o, ho, h⟩ := h; exact ⟨o, ho, ih o Q E p s hn h⟩
  | update a _ f k ih => intro Q E p s hn h; exact ⟨h.1, ih () Q E p _ (by show n ≤ (s.heap.update a f).objs.size; rw [Heap.size_update]; exact hn) h.2⟩
  | loadIfAlive a k ih => intro Q E p s hn h; exact ih _ Q E p s hn h
  | point _ k ih => intro Q E p s hn h; exact ih () Q E p s hn h
  | register _ _ => intro Q E p s _ h; exact h
  | alloc o k ih => intro Q E p s hn h; exact ih _ Q E p _ (by show n ≤ (s.heap.push o).objs.size; rw [Heap.size_push]; omega) h
  | fresh k ih => intro Q E p s hn h; exact ih _ Q E p _ hn h
  | ask k ih => intro Q E p s hn h; exact ih _ Q E p s hn h
  | choose src m k ih => intro Q E p s hn h; exact ⟨h.1, ih _ Q E p _ hn h.2⟩
  | os q _ k ih => intro Q E p s hn h; exact ih _ Q E p _ hn h
  | call c hd _ _ k ih => intro Q E p s hn h; obtain ⟨r, s', hr, h⟩ := h; exact ⟨r, s', hr, ih r Q E p s' (Nat.le_trans hn (runs_hsz hr)) h⟩
  | handled own k ih => intro Q E p s hn h; exact ih _ Q E p s hn h
  | genState g k ih => intro Q E p s hn h; obtain ⟨st, hs, h⟩ := h; exact ⟨st, hs, ih _ Q E p s hn h⟩
  | newGen c k ih => intro Q E p s hn h; exact ih _ Q E p _ hn h
  | resume g r _ k ih => intro Q E p s hn h; obtain ⟨res, s', hw, h⟩ := h; exact ⟨res, s', hw, ih res Q E p s' (Nat.le_trans hn (wakes_hsz hw)) h⟩
  | yield _ _ _ _ => intro Q E p s _ h; exact h
  | stack k ih => intro Q E p s hn h; exact ih _ Q E p s hn h
  | fork _ _ => intro Q E p s _ h; exact h
  | thread k ih => intro Q E p s hn h; exact ih _ Q E p s hn h
  | await _ _ _ _ _ => intro Q E p s _ h; exact h
theorem wpAny_hsz {α : Type} {M : Model} {A : Around} {s : Shared} {t : Sem α} {Q : α → Shared → Prop} {E : Value → Shared → Prop}
    (h : wpAny M A t (fun a s' => s.heap.objs.size ≤ s'.heap.objs.size → Q a s') E s) : wpAny M A t Q E s :=
  wpAny_mono (fun Γ p hΓ => wp_hsz M Γ _ t _ _ p s (Nat.le_refl _) (h Γ p hΓ) : wpAny M A t (fun a s' => s.heap.objs.size ≤ s'.heap.objs.size ∧ (s.heap.objs.size ≤ s'.heap.objs.size → Q a s')) (fun e s' => s.heap.objs.size ≤ s'.heap.objs.size ∧ E e s') s)
    (fun _ _ x => x.2 x.1) fun _ _ x => x.2
/-! ### yield -/
theorem sg_Expr_Yield {M : Model} {A : Around} {Φ : End → Shared → Prop} {c : Code} {fs : List Frame} {s : Shared} {env : Env} {K : Flow → Sem PySem.Fin} {H : Value → Sem PySem.Fin} {gd : Bool → Bool} {lv : List Value → List Value} {e : Expr} {ypos pos : Pos}
    (hfs : splitAtGen fs = none) (hgd : gd false = false)
    (h : wpAny M (A.over c fs) (eval e env) (fun v s' => ∀ g l k p, g = false → (∀ Ψ s'', Sg M A Ψ c (K .next) fs s'' → Sg M A Ψ c (k (.send .none)) fs s'') → Φ (.susp v g l k c p fs) s') (fun _ _ => False) s)
    (hco : env.scope.isCoroutine = false) (hi : interactive env = false) : Sg M A Φ c ((exec (.Expr (.Yield (some e) ypos) pos) env).wrap K H gd lv) fs s := by
  rw [exec_Expr env _ pos hi rfl]
  show Sg M A Φ c (.at pos fun _ => ((eval e env >>= fun v => (standAt ypos >>= fun _ => yieldOut env v)) >>= fun x => dropValue (.Yield (some e) ypos) pos x).wrap K H gd lv) fs s
  have hy : ∀ v, yieldOut env v = yieldValue v := fun v => by simp only [yieldOut, hco, Bool.false_eq_true, if_false]
  simp only [hy]
  refine sg_at ?_
  rw [Sem.bind_eq_wrap', Sem.bind_eq_wrap', Sem.wrap_wrap, Sem.wrap_wrap]
  refine sg_wrap (wpAny_mono h (fun v s' h' => ?_) fun _ _ x => x.elim)
  refine sg_at ?_
  refine sg_yield hfs fun p => ?_
  refine h' _ _ _ p hgd fun Ψ s'' hx => ?_
  exact hx
end GX
namespace GX
open PySem PySem.Spec PyProof.Rows L2 GenW
/-! ### for y in range(c): for x in range(a): yield (x, y) -/
/-- the names that the def's code asks the module for -/
def Good (s : Shared) : Prop := (∃ m, s.heap.Ns mainGlobals m ∧ m "range" = none) ∧ ∃ m, s.heap.Ns builtinsNs m ∧ m "range" = some (.type "range")
def Kp (fp : List Addr) (h h' : Heap) : Prop := ∀ b o, b ∉ fp → h.get? b = some o → h'.get? b = some o
theorem Kp.refl {fp : List Addr} {h : Heap} : Kp fp h h := fun _ _ _ e => e
theorem Kp.trans {fp : List Addr} {h h1 h2 : Heap} (a : Kp fp h h1) (b : Kp fp h1 h2) : Kp fp h h2 := fun c o n e => b c o n (a c o n e)
theorem Kp.of {fp : List Addr} {h h' : Heap} (a : ∀ b o, h.get? b = some o → h'.get? b = some o) : Kp fp h h' := fun b o _ e => a b o e
theorem Kp.one {fp : List Addr} {h h' : Heap} {x : Addr} (m : x ∈ fp) (a : Heap.ExtBut x h h') : Kp fp h h' := fun b o n e => a b o (fun z => n (z ▸ m)) e
/-- what is wanted of the def's environment -/
structure EnvOk (env : Env) : Prop where
  kind : env.scope.kind = .function
  glob : env.globals = mainGlobals
  blt : env.builtins = builtinsNs
  rng : env.kindOf "range" = some .globalImplicit
  ka : env.kindOf "a" = some .local
  kb : env.kindOf "b" = some .local
  kc : env.kindOf "c" = some .local
  kx : env.kindOf "x" = some .local
  ky : env.kindOf "y" = some .local
  ks : env.kindOf "self" = some .local
  co : env.scope.isCoroutine = false
  hi : interactive env = false
theorem EnvOk.hp {env : Env} (e : EnvOk env) : (env.scope.kind == .class || (env.scope.kind == .module && env.locals != env.globals)) = false := by rw [e.kind]; rfl
def FrA (h : Heap) (L : Addr) (a : Int) : Prop := ∃ m t, h.Ns L m ∧ m "a" = some (.int a t)
def FrY (h : Heap) (L : Addr) (a y : Int) : Prop := ∃ m t u, h.Ns L m ∧ m "a" = some (.int a t) ∧ m "y" = some (.int y u)
def tupO (v u : Value) : Obj := { cls := .type "tuple", data := .seq #[v, u] }
def Base (gobj : Addr) (gno : Nat) (fp : List Addr) (h : Heap) (y : GenState) : Prop := y.bare = true ∧ susp y = true ∧ gobj ∈ fp ∧ h.IsGen gobj gno ∧ (∀ b ∈ fp, b < h.objs.size) ∧ ∀ b ∈ fp, ∃ o, h.get? b = some o ∧ ∀ v, o.data ≠ .cell v
def DoneG (fp : List Addr) (s : Shared) (e : End) (s' : Shared) : Prop := (∃ f, e = .ret (.ok f) ∧ (f = .ret .none ∨ f = .next)) ∧ Kp fp s.heap s'.heap ∧ s.heap.objs.size ≤ s'.heap.objs.size ∧ s'.os = s.os ∧ s'.gens = s.gens
def ItemG (fp : List Addr) (s : Shared) (xy : Int × Int) (S : List Addr → Heap → GenState → Prop) (e : End) (s' : Shared) : Prop :=
  ∃ h1 tx ty l k c p fs fp', e = .susp (.ref h1.objs.size) false l k c p fs ∧ fs.any Frame.guarded = false ∧ s'.heap = h1.push (tupO (.int xy.1 tx) (.int xy.2 ty)) ∧ Kp fp s.heap h1 ∧ s.heap.objs.size ≤ h1.objs.size ∧ (∀ b ∈ fp', b ∈ fp ∨ s.heap.objs.size ≤ b) ∧ (∀ b ∈ fp', b < h1.objs.size) ∧
    S fp' s'.heap e.genState ∧ s'.os = s.os ∧ s'.gens = s.gens
section
variable (P : Program) (w : World) (A : Around) (gobj : Addr) (gno : Nat) (itm : Nat → Int × Int)
/-- asleep, with so many items to come -/
def Slp : Nat → List Addr → Heap → GenState → Prop
  | 0 => fun fp h y => Base gobj gno fp h y ∧ ∀ s, Good s → (∀ b ∈ fp, ∀ o, h.get? b = some o → s.heap.get? b = some o) → Wk (model P w) A y s (DoneG fp s)
  | r + 1 => fun fp h y => Base gobj gno fp h y ∧ ∀ s, Good s → (∀ b ∈ fp, ∀ o, h.get? b = some o → s.heap.get? b = some o) → Wk (model P w) A y s (ItemG fp s (itm r) (Slp r))
def TurnE (r : Nat) (fp : List Addr) (s : Shared) : End → Shared → Prop := match r with
  | 0 => DoneG fp s
  | r + 1 => ItemG fp s (itm r) (Slp P w A gobj gno itm r)
end
theorem slp_of {P : Program} {w : World} {A : Around} {gobj : Addr} {gno : Nat} {itm : Nat → Int × Int} {r : Nat} {fp : List Addr} {h : Heap} {y : GenState} (b : Base gobj gno fp h y)
    (k : ∀ s, Good s → (∀ b ∈ fp, ∀ o, h.get? b = some o → s.heap.get? b = some o) → Wk (model P w) A y s (TurnE P w A gobj gno itm r fp s)) : Slp P w A gobj gno itm r fp h y := by
  cases r with
  | zero => exact ⟨b, k⟩
  | succ r => exact ⟨b, k⟩
/-! ### the pieces, by the heap -/
section
variable {P : Program} {w : World} {A : Around} {env : Env} {s : Shared} {L : Addr}
/-- range(n), its iterator -/
theorem ev_range {v : Str} {n : Int} {p1 p2 p3 : Pos} {m : Str → Option Value} {t : Tok} {R : Value → Shared → Prop} {E : Value → Shared → Prop} (ok : EnvOk env) (g : Good s) (hk : env.kindOf v = some .local) (hn : s.heap.Ns env.locals m) (hv : m v = some (.int n t)) (h1 : 0 ≤ n) (h2 : n < 2 ^ 62)
    (hR : ∀ h' tk I, s.heap.objs.size ≤ I → I < h'.objs.size → (∀ b o, s.heap.get? b = some o → h'.get? b = some o) → IsRangeIter h' I 0 n 1 → s.heap.objs.size ≤ h'.objs.size → R (.ref I) { s with heap := h', toks := tk })
    (hd : (v == ("__debug__" : Str)) = false := by decide) :
    wpAny (model P w) A (eval (.Call (.Name "range" p1) [.Name v p2] [] p3) env) (fun x s1 => wpAny (model P w) A (pyIter x) R E s1) E s := by
  obtain ⟨⟨mg, g1, g2⟩, mb, b1, b2⟩ := g
  refine Call_ (Calls.Name_function_global ok.kind ok.rng (Calls.loadGlobal_builtin (mg := mg) (mb := mb) (by rw [ok.glob]; exact g1) g2 (by rw [ok.blt]; exact b1) b2 ?_))
  refine PyProof.Rows.callWith_type1 (args_cons ?_ rfl) rfl rfl
  refine wpAny_Name (wpAny_loadName_local ok.kind hk hn hv ?_) hd
  refine args_nil ?_
  refine call_range_1 ?_
  refine wpAny_pyIter_range (IsRange.new ..) (small_one (by omega) (by omega) (by omega) h2) ?_
  refine hR _ _ _ ?_ ?_ (fun b o e => Heap.get?_push_of_some _ (Heap.get?_push_of_some _ e)) ?_ ?_
  · show _ ≤ (s.heap.push _).objs.size
    rw [Heap.size_push]; omega
  · show (s.heap.push _).objs.size < ((s.heap.push _).push _).objs.size
    simp only [Heap.size_push]; omega
  · have e2 : Builtin.Range.rangeSize 0 n 1 = n := by rw [rangeSize_one]; split <;> omega
    rw [e2]
    exact Heap.get?_push_size _ rfl
  · show _ ≤ ((s.heap.push _).push _).objs.size
    rw [Heap.size_push, Heap.size_push]; omega
/-- a store -/
theorem ev_store {v : Str} {u : Value} {p : Pos} {m : Str → Option Value} {Q : Unit → Shared → Prop} {E : Value → Shared → Prop} (ok : EnvOk env) (hk : env.kindOf v = some .local) (hn : s.heap.Ns env.locals m)
    (h : ∀ h', h'.Ns env.locals (fun x => if x = v then some u else m x) → Heap.SameBut env.locals s.heap h' → Q () { s with heap := h', toks := s.toks + 1 }) : wpAny (model P w) A (assign (.Name v p) env u) Q E s :=
  wpAny_assign_Name (wpAny_storeName_local hk hn h ok.hp)
theorem nameGo {it v : Value} {x : Str} {p : Pos} {Q : Unit → Shared → Prop} {E : Value → Shared → Prop} (h : Q () s) : wpAny (model P w) A (letOwnedTupleGo (.Name x p) it v) Q E s := wpAny_pure h
end
/-! ### the loops -/
section
variable {P : Program} {w : World} {A A' : Around} {env : Env} {gobj : Addr} {gno : Nat} {itm : Nat → Int × Int} {a C : Nat} {q1 q2 q3 q5 q6 p1 p2 p3 p4 p5 q7 q8 q9 : Pos} {kt : Nat}
abbrev bodyI (p1 p2 p3 p4 p5 : Pos) (kt : Nat) : List Stmt := [.Expr (.Yield (some (.Tuple [.Name "x" p1, .Name "y" p2] kt p3)) p4) p5]
abbrev bodyO (q1 q2 q3 q5 q7 p1 p2 p3 p4 p5 : Pos) (kt : Nat) : List Stmt := [.For (.Name "x" q1) (.Call (.Name "range" q2) [.Name "a" q3] [] q5) (bodyI p1 p2 p3 p4 p5 kt) [] q7]
/-- where the things of this turn stand -/
structure At (env : Env) (gobj : Addr) (gno : Nat) (fp : List Addr) (s0 s : Shared) (a y : Int) (I1 I2 : Addr) (q j : Int) (x : Int) : Prop where
  fr : FrY s.heap env.locals a y
  i1 : IsRangeIter s.heap I1 (y + 1) q 1
  i2 : IsRangeIter s.heap I2 x j 1
  n1 : I1 ≠ env.locals
  n2 : I2 ≠ env.locals
  n3 : I1 ≠ I2
  gn : s.heap.IsGen gobj gno
  g1 : gobj ≠ env.locals
  g2 : gobj ≠ I1
  g3 : gobj ≠ I2
  mf : ∀ b, (b = gobj ∨ b = env.locals ∨ b = I1 ∨ b = I2) → b ∈ fp ∨ s0.heap.objs.size ≤ b
  kp : Kp fp s0.heap s.heap
  sz : s0.heap.objs.size ≤ s.heap.objs.size
  nl : ∀ b, b = mainGlobals ∨ b = builtinsNs → b ∉ fp ∧ b < s0.heap.objs.size
  os : s.os = s0.os
  gens : s.gens = s0.gens
theorem isgen_at {h h' : Heap} {a g} (x : h.IsGen a g) (e : ∀ o, h.get? a = some o → h'.get? a = some o) : h'.IsGen a g := let ⟨o, nm, qn, ho, r⟩ := x; ⟨o, nm, qn, e _ ho, r⟩
theorem nl_next {fp fq : List Addr} {s0 s1 : Shared} (nl : ∀ b, b = mainGlobals ∨ b = builtinsNs → b ∉ fp ∧ b < s0.heap.objs.size) (mf : ∀ b ∈ fq, b ∈ fp ∨ s0.heap.objs.size ≤ b) (g : Good s1) :
    ∀ b, b = mainGlobals ∨ b = builtinsNs → b ∉ fq ∧ b < s1.heap.objs.size := fun b hb => by
  refine ⟨fun m => ?_, ?_⟩
  · rcases mf b m with z | z
    · exact (nl b hb).1 z
    · exact absurd (Nat.lt_of_lt_of_le (nl b hb).2 z) (Nat.lt_irrefl _)
  · obtain ⟨⟨m1, e1, _⟩, m2, e2, _⟩ := g
    rcases hb with rfl | rfl
    · exact e1.lt
    · exact e2.lt
/-- x, y = .., yield (x, y): one item -/
theorem inner_item {r j q : Nat} {x y : Int} {fp : List Addr} {s0 s : Shared} {I1 I2 : Addr} {fs : List Frame} (ok : EnvOk env) (hA : A.over (.forLoop (.Name "x" q1) (.ref I2) (bodyI p1 p2 p3 p4 p5 kt) [] env) fs = A') (hh : A'.handled = none) (hsp : splitAtGen fs = none) (hgu : fs.any Frame.guarded = false)
    (z : At env gobj gno fp s0 s a y I1 I2 q ((j : Int) + 1) x) (hx : itm r = (x, y))
    (ih : ∀ (fp' : List Addr) (s1 : Shared), Good s1 → At env gobj gno fp' s1 s1 a y I1 I2 q j (x + 1) → Sg (model P w) A (TurnE P w A gobj gno itm r fp' s1) (.forLoop (.Name "x" q1) (.ref I2) (bodyI p1 p2 p3 p4 p5 kt) [] env) ((model P w).den (.forLoop (.Name "x" q1) (.ref I2) (bodyI p1 p2 p3 p4 p5 kt) [] env)) fs s1) :
    Sg (model P w) A (TurnE P w A gobj gno itm (r + 1) fp s0) (.forLoop (.Name "x" q1) (.ref I2) (bodyI p1 p2 p3 p4 p5 kt) [] env) ((model P w).den (.forLoop (.Name "x" q1) (.ref I2) (bodyI p1 p2 p3 p4 p5 kt) [] env)) fs s := by
  refine sg_forLoop ?_
  rw [hA]
  refine wpAny_pyNext_range_item z.i2 (by omega) fun h' it' sb => ?_
  have it' : IsRangeIter h' I2 (x + 1) j 1 := by
    have e : ((j : Int) + 1 - 1) = j := by omega
    rw [e] at it'; exact it'
  refine nameGo ?_
  obtain ⟨m, t, u, hn, ha, hy⟩ := z.fr
  have hn' : h'.Ns env.locals m := hn.sameBut sb (Ne.symm z.n2)
  refine ev_store ok ok.kx hn' fun h2 hn2 sb2 => ?_
  refine sg_cons (sg_Expr_Yield hsp rfl ?_ ok.co ok.hi)
  rw [hA]
  refine wpAny_Tuple_spliced (args_cons (wpAny_Name (wpAny_loadName_local ok.kind ok.kx hn2 (v := .int x s.toks) (if_pos rfl) ?_) (by decide)) rfl)
  refine args_cons (wpAny_Name (wpAny_loadName_local ok.kind ok.ky hn2 (v := .int y u) ((if_neg (by decide)).trans hy) ?_) (by decide)) rfl
  refine args_nil ⟨by show 2 ≤ sizeLine; decide, ?_⟩
  intro g l k p hg hk
  subst hg
  have lL : env.locals < h2.objs.size := hn2.lt
  have i2' : IsRangeIter h2 I2 (x + 1) j 1 := by rw [IsRangeIter, sb2.2 I2 z.n2]; exact it'
  have i1' : IsRangeIter h2 I1 (y + 1) q 1 := by rw [IsRangeIter, sb2.2 I1 z.n1, sb.2 I1 z.n3]; exact z.i1
  have gn' : h2.IsGen gobj gno := isgen_at z.gn fun o e => by rw [sb2.2 gobj z.g1, sb.2 gobj z.g3]; exact e
  have size : h2.objs.size = s.heap.objs.size := sb2.1.trans sb.1
  have kp2 : Kp fp s0.heap h2 := fun b o n e => by
    have ne : ∀ c, (c = gobj ∨ c = env.locals ∨ c = I1 ∨ c = I2) → b ≠ c := fun c hc z' => by
      rcases z.mf c hc with k1 | k1
      · exact n (z' ▸ k1)
      · exact absurd (Nat.lt_of_lt_of_le (Heap.lt_size e) (z' ▸ k1)) (Nat.lt_irrefl _)
    rw [sb2.2 b (ne _ (.inr (.inl rfl))), sb.2 b (ne _ (.inr (.inr (.inr rfl))))]
    exact z.kp b o n e
  have up : ∀ b o, h2.get? b = some o → (h2.push (tupO (.int x s.toks) (.int y u))).get? b = some o := fun b o e => Heap.get?_push_of_some _ e
  refine ⟨h2, s.toks, u, l, k, _, p, fs, [gobj, env.locals, I1, I2], rfl, hgu, by rw [hx]; rfl, kp2, by rw [size]; exact z.sz, fun b hb => ?_, fun b hb => ?_, ?_, z.os, z.gens⟩
  · simp only [List.mem_cons, List.not_mem_nil, or_false] at hb
    exact z.mf b hb
  · simp only [List.mem_cons, List.not_mem_nil, or_false] at hb
    rcases hb with rfl | rfl | rfl | rfl
    · obtain ⟨o, _, _, e, _⟩ := gn'; exact Heap.lt_size e
    · exact lL
    · exact Heap.lt_size i1'
    · exact Heap.lt_size i2'
  have lt : ∀ b ∈ [gobj, env.locals, I1, I2], ∃ o, h2.get? b = some o ∧ ∀ v, o.data ≠ .cell v := fun b hb => by
    simp only [List.mem_cons, List.not_mem_nil, or_false] at hb
    rcases hb with rfl | rfl | rfl | rfl
    · obtain ⟨o, _, _, e, _, d, _⟩ := gn'; exact ⟨o, e, fun v c => by rw [d] at c; cases c⟩
    · obtain ⟨o, _, _, e, d, _⟩ := hn2; exact ⟨o, e, fun v c => by rw [d] at c; cases c⟩
    · exact ⟨_, i1', fun v c => by
        have c' : Data.fields _ = Data.cell v := c
        cases c'⟩
    · exact ⟨_, i2', fun v c => by
        have c' : Data.fields _ = Data.cell v := c
        cases c'⟩
  refine slp_of ⟨?_, rfl, List.mem_cons_self, isgen_at gn' fun o e => up _ _ e, fun b hb => ?_, fun b hb => ?_⟩ fun s1 g1 ag => ?_
  · show (!(false || fs.any Frame.guarded)) = true
    rw [hgu]; rfl
  · obtain ⟨o, e, _⟩ := lt b hb
    exact Heap.lt_size (up b o e)
  · obtain ⟨o, e, d⟩ := lt b hb
    exact ⟨o, up b o e, d⟩
  have at1 : ∀ b ∈ [gobj, env.locals, I1, I2], ∀ o, h2.get? b = some o → s1.heap.get? b = some o := fun b hb o e => ag b hb o (up b o e)
  refine hk _ s1 (sg_nil (sg_again rfl (ih _ s1 g1 ⟨?_, at1 _ (by simp) _ i1', at1 _ (by simp) _ i2', z.n1, z.n2, z.n3, isgen_at gn' (at1 _ (by simp)), z.g1, z.g2, z.g3, fun b hb => .inl (by simpa using hb), .refl, Nat.le_refl _, ?_, rfl, rfl⟩)))
  · exact ⟨_, t, u, hn2.at' (at1 _ (by simp)), (if_neg (by decide)).trans ha, (if_neg (by decide)).trans hy⟩
  · exact nl_next z.nl (fun b hb => z.mf b (by simpa using hb)) g1
/-- the outer loop's frames, the inner loop's: what comes when they end -/
structure OutOk (P : Program) (w : World) (A A' : Around) (env : Env) (cO : Code) (fs : List Frame) : Prop where
  over : A.over cO fs = A'
  split : splitAtGen fs = none
  guard : fs.any Frame.guarded = false
  fin : ∀ Φ s, Φ (.ret (.ok (.ret .none))) s → Sg (model P w) A Φ (.block [] env) (leafOf (.ok .next)) fs s
structure InOk (P : Program) (w : World) (A A' : Around) (env : Env) (cO cI : Code) (fsO fs : List Frame) : Prop where
  over : A.over cI fs = A'
  split : splitAtGen fs = none
  guard : fs.any Frame.guarded = false
  fin : ∀ Φ s, Sg (model P w) A Φ cO ((model P w).den cO) fsO s → Sg (model P w) A Φ (.block [] env) (leafOf (.ok .next)) fs s
theorem in_of {env : Env} {cO cI : Code} {fsO : List Frame} {K : Flow → Sem PySem.Fin} {H : Value → Sem PySem.Fin} (o : OutOk P w A A' env cO fsO) (hw : cI.weight = 0) (hu : cI.cUnits = 0) (hK : K .next = .pure (.again cO)) (hq : cO.quiet = true) (p : Pos) :
    InOk P w A A' env cO cI fsO (.ret (backK env K H id id) none (id false) (id []) cO p [] :: fsO) where
  over := (over_loop hw hu).trans o.over
  split := by
    show (splitAtGen fsO).map _ = none
    rw [o.split]; rfl
  guard := by
    show (false || fsO.any Frame.guarded) = false
    rw [o.guard]; rfl
  fin := fun Φ s h => by
    refine sg_leaf (.ok .next) ?_
    show Sg _ _ _ _ (K .next) _ _
    rw [hK]
    exact sg_again hq h
/-- a row begins -/
theorem outer_row {r q : Nat} {y : Int} {fp : List Addr} {s0 s : Shared} {I1 : Addr} {fsO : List Frame} (ok : EnvOk env) (hh : A'.handled = none) (ha : 1 ≤ a) (ha2 : a < 2 ^ 62) (gs : Good s)
    (o : OutOk P w A A' env (.forLoop (.Name "y" q6) (.ref I1) (bodyO q1 q2 q3 q5 q7 p1 p2 p3 p4 p5 kt) [] env) fsO)
    (fr : FrA s.heap env.locals a) (i1 : IsRangeIter s.heap I1 y (q + 1) 1) (n1 : I1 ≠ env.locals) (gn : s.heap.IsGen gobj gno) (g1 : gobj ≠ env.locals) (g2 : gobj ≠ I1)
    (mf : ∀ b, (b = gobj ∨ b = env.locals ∨ b = I1) → b ∈ fp ∨ s0.heap.objs.size ≤ b) (kp : Kp fp s0.heap s.heap) (sz : s0.heap.objs.size ≤ s.heap.objs.size) (nl : ∀ b, b = mainGlobals ∨ b = builtinsNs → b ∉ fp ∧ b < s0.heap.objs.size) (os : s.os = s0.os) (gens : s.gens = s0.gens)
    (k : ∀ (s1 : Shared) (I2 : Addr) (fs : List Frame), Good s1 → InOk P w A A' env (.forLoop (.Name "y" q6) (.ref I1) (bodyO q1 q2 q3 q5 q7 p1 p2 p3 p4 p5 kt) [] env) (.forLoop (.Name "x" q1) (.ref I2) (bodyI p1 p2 p3 p4 p5 kt) [] env) fsO fs → At env gobj gno fp s0 s1 a y I1 I2 q a 0 →
      Sg (model P w) A (TurnE P w A gobj gno itm r fp s0) (.forLoop (.Name "x" q1) (.ref I2) (bodyI p1 p2 p3 p4 p5 kt) [] env) ((model P w).den (.forLoop (.Name "x" q1) (.ref I2) (bodyI p1 p2 p3 p4 p5 kt) [] env)) fs s1) :
    Sg (model P w) A (TurnE P w A gobj gno itm r fp s0) (.forLoop (.Name "y" q6) (.ref I1) (bodyO q1 q2 q3 q5 q7 p1 p2 p3 p4 p5 kt) [] env) ((model P w).den (.forLoop (.Name "y" q6) (.ref I1) (bodyO q1 q2 q3 q5 q7 p1 p2 p3 p4 p5 kt) [] env)) fsO s := by
  refine sg_forLoop ?_
  rw [o.over]
  refine wpAny_pyNext_range_item i1 (by omega) fun h' it' sb => ?_
  have it' : IsRangeIter h' I1 (y + 1) q 1 := by
    have e : ((q : Int) + 1 - 1) = q := by omega
    rw [e] at it'; exact it'
  refine nameGo ?_
  obtain ⟨m, t, hn, hm⟩ := fr
  have hn' : h'.Ns env.locals m := hn.sameBut sb (Ne.symm n1)
  refine ev_store ok ok.ky hn' fun h2 hn2 sb2 => ?_
  refine sg_cons (sg_For ?_)
  rw [o.over]
  have kp1 : Kp [env.locals, I1] s.heap h2 := fun b o n e => by
    rw [sb2.2 b (fun z => n (z ▸ by simp)), sb.2 b (fun z => n (z ▸ by simp))]
    exact e
  have ownMF : ∀ b, b ∈ [env.locals, I1] → b ∈ fp ∨ s0.heap.objs.size ≤ b := fun b hb => mf b (by simp at hb; rcases hb with h | h <;> simp [h])
  have gnl : ∀ b, b = mainGlobals ∨ b = builtinsNs → b ∉ [env.locals, I1] := fun b hb m => by
    rcases ownMF b m with z | z
    · exact (nl b hb).1 z
    · exact absurd (Nat.lt_of_lt_of_le (nl b hb).2 z) (Nat.lt_irrefl _)
  have g2' : Good { s with heap := h2, toks := s.toks + 1 + 1 } := by
    obtain ⟨⟨m1, e1, e2⟩, m2, e3, e4⟩ := gs
    exact ⟨⟨m1, e1.at' fun o e => kp1 _ o (gnl _ (.inl rfl)) e, e2⟩, m2, e3.at' fun o e => kp1 _ o (gnl _ (.inr rfl)) e, e4⟩
  refine ev_range (v := "a") (n := a) (t := t) ok g2' ok.ka hn2 ((if_neg (by decide)).trans hm) (by omega) (by omega) fun h3 tk I2 l1 l2 k3 r3 s3 p => ?_
  have size : h2.objs.size = s.heap.objs.size := sb2.1.trans sb.1
  have l1 : h2.objs.size ≤ I2 := l1
  have k3 : ∀ b o, h2.get? b = some o → h3.get? b = some o := k3
  have s3 : h2.objs.size ≤ h3.objs.size := s3
  have i1' : IsRangeIter h2 I1 (y + 1) q 1 := by rw [IsRangeIter, sb2.2 I1 n1]; exact it'
  have gn' : h2.IsGen gobj gno := isgen_at gn fun o e => by rw [sb2.2 gobj g1, sb.2 gobj g2]; exact e
  have lg : gobj < h2.objs.size := by obtain ⟨o, _, _, e, _⟩ := gn'; exact Heap.lt_size e
  refine k _ I2 _ (by obtain ⟨⟨m1, e1, e2⟩, m2, e3, e4⟩ := g2'; exact ⟨⟨m1, e1.at' (k3 _), e2⟩, m2, e3.at' (k3 _), e4⟩) (in_of o rfl rfl rfl rfl p) ⟨⟨_, t, _, hn2.at' (k3 _), (if_neg (by decide)).trans hm, if_pos rfl⟩, k3 _ _ i1', r3, n1, Nat.ne_of_gt (Nat.lt_of_lt_of_le hn2.lt l1), Nat.ne_of_lt (Nat.lt_of_lt_of_le (Heap.lt_size i1') l1), isgen_at gn' (k3 _), g1, g2, Nat.ne_of_lt (Nat.lt_of_lt_of_le lg l1), fun b hb => ?_, ?_, ?_, nl, os, gens⟩
  · rcases hb with h | h | h | h
    · exact mf b (.inl h)
    · exact mf b (.inr (.inl h))
    · exact mf b (.inr (.inr h))
    · exact .inr (by rw [h]; omega)
  · refine fun b o n e => k3 b o (kp1 b o (fun hb => ?_) (kp b o n e))
    rcases ownMF b hb with z | z
    · exact n z
    · exact absurd (Nat.lt_of_lt_of_le (Heap.lt_size e) z) (Nat.lt_irrefl _)
  · show s0.heap.objs.size ≤ h3.objs.size
    omega
/-- THE LOOPS: what a turn does from any place -/
theorem loops {I1 : Addr} {fsO : List Frame} (ok : EnvOk env) (hh : A'.handled = none) (ha : 1 ≤ a) (ha2 : a < 2 ^ 62) (hitm : ∀ r j q x y : Nat, r = j + q * a → x + (j + 1) = a → y + 1 + q = C → itm r = ((x : Int), (y : Int)))
    (o : OutOk P w A A' env (.forLoop (.Name "y" q6) (.ref I1) (bodyO q1 q2 q3 q5 q7 p1 p2 p3 p4 p5 kt) [] env) fsO) :
    ∀ (r j q : Nat) (x y : Nat) (fp : List Addr) (s0 s : Shared) (I2 : Addr) (fs : List Frame), r = j + q * a → x + j = a → y + 1 + q = C → Good s →
      InOk P w A A' env (.forLoop (.Name "y" q6) (.ref I1) (bodyO q1 q2 q3 q5 q7 p1 p2 p3 p4 p5 kt) [] env) (.forLoop (.Name "x" q1) (.ref I2) (bodyI p1 p2 p3 p4 p5 kt) [] env) fsO fs → At env gobj gno fp s0 s a y I1 I2 q j x →
      Sg (model P w) A (TurnE P w A gobj gno itm r fp s0) (.forLoop (.Name "x" q1) (.ref I2) (bodyI p1 p2 p3 p4 p5 kt) [] env) ((model P w).den (.forLoop (.Name "x" q1) (.ref I2) (bodyI p1 p2 p3 p4 p5 kt) [] env)) fs s := by
  have fin0 : ∀ (fp : List Addr) (s0 s : Shared) (fs : List Frame) (I2 : Addr) (y x : Int) (q : Nat) (Φ : End → Shared → Prop), Good s → InOk P w A A' env (.forLoop (.Name "y" q6) (.ref I1) (bodyO q1 q2 q3 q5 q7 p1 p2 p3 p4 p5 kt) [] env) (.forLoop (.Name "x" q1) (.ref I2) (bodyI p1 p2 p3 p4 p5 kt) [] env) fsO fs → At env gobj gno fp s0 s a y I1 I2 q (0 : Nat) x →
      (∀ s1, Good s1 → FrA s1.heap env.locals a → IsRangeIter s1.heap I1 (y + 1) q 1 → s1.heap.IsGen gobj gno → Kp fp s0.heap s1.heap → s0.heap.objs.size ≤ s1.heap.objs.size → s1.os = s0.os → s1.gens = s0.gens →
        Sg (model P w) A Φ (.forLoop (.Name "y" q6) (.ref I1) (bodyO q1 q2 q3 q5 q7 p1 p2 p3 p4 p5 kt) [] env) ((model P w).den (.forLoop (.Name "y" q6) (.ref I1) (bodyO q1 q2 q3 q5 q7 p1 p2 p3 p4 p5 kt) [] env)) fsO s1) →
      Sg (model P w) A Φ (.forLoop (.Name "x" q1) (.ref I2) (bodyI p1 p2 p3 p4 p5 kt) [] env) ((model P w).den (.forLoop (.Name "x" q1) (.ref I2) (bodyI p1 p2 p3 p4 p5 kt) [] env)) fs s := by
    intro fp s0 s fs I2 y x q Φ gs io z k
    refine sg_forLoop ?_
    rw [io.over]
    refine wpAny_hsz (wpAny_pyNext_range_end hh z.i2 (by simp) fun h' eb sz => io.fin _ _ (k _ ?_ ?_ ?_ ?_ ?_ ?_ z.os z.gens))
    · have nI : ∀ b, b = mainGlobals ∨ b = builtinsNs → b ≠ I2 := fun b hb e => by
        rcases z.mf I2 (.inr (.inr (.inr rfl))) with m | m
        · exact (z.nl b hb).1 (e ▸ m)
        · exact absurd (Nat.lt_of_lt_of_le (z.nl b hb).2 (e ▸ m)) (Nat.lt_irrefl _)
      obtain ⟨⟨m1, e1, e2⟩, m2, e3, e4⟩ := gs
      exact ⟨⟨m1, e1.at' fun o e => eb _ o (nI _ (.inl rfl)) e, e2⟩, m2, e3.at' fun o e => eb _ o (nI _ (.inr rfl)) e, e4⟩
    · obtain ⟨m, t, u, hn, ha, hy⟩ := z.fr
      exact ⟨m, t, hn.at' fun o e => eb _ o (Ne.symm z.n2) e, ha⟩
    · exact eb _ _ z.n3 z.i1
    · exact isgen_at z.gn fun o e => eb _ o z.g3 e
    · refine fun b o n e => eb b o (fun hb => ?_) (z.kp b o n e)
      rcases z.mf I2 (.inr (.inr (.inr rfl))) with m | m
      · exact n (hb ▸ m)
      · exact absurd (Nat.lt_of_lt_of_le (Heap.lt_size e) (hb ▸ m)) (Nat.lt_irrefl _)
    · exact Nat.le_trans z.sz sz
  intro r
  induction r with
  | zero =>
    intro j q x y fp s0 s I2 fs hr hx hy gs io z
    have hj : j = 0 := by omega
    have hq : q = 0 := by
      rcases Nat.eq_zero_or_pos q with e | e
      · exact e
      · have := Nat.mul_le_mul e ha
        omega
    subst hj hq
    refine fin0 fp s0 s fs I2 y x 0 _ gs io z fun s1 gs1 fr1 i1 gn1 kp1 sz1 os1 ge1 => ?_
    refine sg_forLoop ?_
    rw [o.over]
    refine wpAny_hsz (wpAny_pyNext_range_end hh i1 (by simp) fun h' eb sz => o.fin _ _ ⟨⟨_, rfl, .inl rfl⟩, ?_, Nat.le_trans sz1 sz, os1, ge1⟩)
    refine fun b o n e => eb b o (fun hb => ?_) (kp1 b o n e)
    rcases z.mf I1 (.inr (.inr (.inl rfl))) with m | m
    · exact n (hb ▸ m)
    · exact absurd (Nat.lt_of_lt_of_le (Heap.lt_size e) (hb ▸ m)) (Nat.lt_irrefl _)
  | succ r ih =>
    intro j q x y fp s0 s I2 fs hr hx hy gs io z
    rcases Nat.eq_zero_or_pos j with hj | hj
    · subst hj
      obtain ⟨q', rfl⟩ : ∃ q', q = q' + 1 := ⟨q - 1, by
        rcases Nat.eq_zero_or_pos q with e | e
        · subst e; omega
        · omega⟩
      have hr' : r = (a - 1) + q' * a := by rw [Nat.add_mul] at hr; omega
      refine fin0 fp s0 s fs I2 y x (q' + 1) _ gs io z fun s1 gs1 fr1 i1 gn1 kp1 sz1 os1 ge1 => ?_
      refine outer_row (y := (y : Int) + 1) (q := q') ok hh ha ha2 gs1 o fr1 (by push_cast at i1; exact i1) z.n1 gn1 z.g1 z.g2 (fun b hb => z.mf b (by rcases hb with h | h | h <;> simp [h])) kp1 sz1 z.nl os1 ge1 fun s2 I2' fs' _ io' z' => ?_
      have e1 : ((a - 1 : Nat) : Int) + 1 = a := by omega
      refine inner_item (j := a - 1) (q := q') (x := 0) (y := (y : Int) + 1) ok io'.over hh io'.split io'.guard (by rw [e1]; exact z') ?_ fun fp' s3 gs3 z3 => ?_
      · have := hitm r (a - 1) q' 0 (y + 1) hr' (by omega) (by omega)
        rw [this]; push_cast; rfl
      · refine ih (a - 1) q' 1 (y + 1) fp' s3 s3 I2' fs' hr' (by omega) (by omega) gs3 io' ?_
        push_cast
        rw [Int.zero_add] at z3
        exact z3
    · obtain ⟨j', rfl⟩ : ∃ j', j = j' + 1 := ⟨j - 1, by omega⟩
      refine inner_item (j := j') ok io.over hh io.split io.guard (by push_cast at z; exact z) (hitm r j' q x y (by omega) (by omega) hy) fun fp' s3 gs3 z3 => ?_
      refine ih j' q (x + 1) y fp' s3 s3 I2 fs (by omega) (by omega) hy gs3 io ?_
      push_cast
      exact z3
end
end GX
namespace GX
open PySem PySem.Spec PyProof.Rows L2 GenW Z
section
variable {P : Program} {w : World} {A : Around} {Φ : End → Shared → Prop} {s : Shared} {env : Env}
def funcK (f : Flow) : Sem PySem.Fin := .pure (.done (.ret (match f with | .ret v => v | _ => .none)))
def funcH (env : Env) (e : Value) : Sem PySem.Fin := (leaving env e).bind fun _ => .raise e
theorem sg_func {body : List Stmt} {fs : List Frame} (h : Sg (model P w) A Φ (.func body env) ((execs body env).wrap funcK (funcH env) id id) fs s) : Sg (model P w) A Φ (.func body env) ((model P w).den (.func body env)) fs s := by
  show Sg _ A Φ _ (.point [] fun _ => ((execs body env).onRaise (leaving env)) >>= _) fs s
  refine sg_point ?_
  rw [Sem.onRaise_eq_wrap, Sem.bind_eq_wrap', Sem.wrap_wrap]
  refine Eq.mpr (congrArg (fun t => Sg (model P w) A Φ (.func body env) t fs s) (Sem.wrap_congr (execs body env) (K' := funcK) (H' := funcH env) _ _ (fun f => ?_) fun e => ?_)) h
  · cases f <;> rfl
  · rw [Sem.bind_eq_wrap, Sem.wrap_wrap]
    show _ = (leaving env e).bind _
    rw [Sem.bind_eq_wrap]
    rfl
end
abbrev cellBody (t1 t2 t3 t4 t5 t6 t7 u1 u2 u3 u4 q1 q2 q3 q5 q6 q7 p1 p2 p3 p4 p5 : Pos) (tt kt : Nat) : List Stmt :=
  [.Assign [.Tuple [.Name "a" t1, .Name "b" t2, .Name "c" t3] tt t4] (.Attribute (.Name "self" t5) "own_numbers" t6) t7,
   .For (.Name "y" q6) (.Call (.Name "range" u1) [.Name "c" u2] [] u3) (bodyO q1 q2 q3 q5 q7 p1 p2 p3 p4 p5 kt) [] u4]
section
variable {X : Cx} {pins : List (Addr × Obj)} {σ : L2.St} {H : Hp} {s : Shared} {A : Around} {env : Env} {gobj selfa C0 dx : Addr} {gno : Nat} {itm : Nat → Int × Int} {a b C : Nat} {fs0 : List (Str × V)} {tp : Addr} {tt kt : Nat} {t1 t2 t3 t4 t5 t6 t7 u1 u2 u3 u4 q1 q2 q3 q5 q6 q7 p1 p2 p3 p4 p5 : Pos}
theorem good_of (I : L2.Inv X pins σ H s) (hm : X.mg "range" = none) : Good s := by
  obtain ⟨mb, h1, h2⟩ := I.mod.blt
  exact ⟨⟨_, I.mod.glob.keeps I.bk, hm⟩, mb, h1.keeps I.bk, (h2 _ (by decide)).trans boot_range⟩
/-- the first turn -/
theorem first (ok : EnvOk env) (hA : A.handled = none) (ha : 1 ≤ a) (ha2 : a < 2 ^ 62) (hC : 1 ≤ C) (hC2 : C < 2 ^ 62) (hitm : ∀ r j q x y : Nat, r = j + q * a → x + (j + 1) = a → y + 1 + q = C → itm r = ((x : Int), (y : Int)))
    (I : L2.Inv X pins σ H s) (hm : X.mg "range" = none) (hs : H selfa = some (.ins C0 dx fs0)) (c1 : Cls X.K C0) (c2 : NoAttr X.K C0 "own_numbers") (hl : fs0.lookup ("own_numbers" : Str) = some (V.ref tp)) (hq : SqT X.K H tp [.int a, .int b, .int C])
    (pg : ∃ o, (gobj, o) ∈ pins) (pL : ∃ o, (env.locals, o) ∈ pins) (gn : s.heap.IsGen gobj gno) (gL : gobj ≠ env.locals) {m : Str → Option Value} (hn : s.heap.Ns env.locals m) (hself : m "self" = some (.ref selfa)) (nL : ∀ b, b = mainGlobals ∨ b = builtinsNs → b ≠ env.locals) :
    Sg (model X.prog X.w) A (fun e s' => ∃ s2, L2.Inv X pins σ H s2 ∧ s.gens.size ≤ s2.gens.size ∧ TurnE X.prog X.w A gobj gno itm (C * a) [gobj, env.locals] s2 e s')
      (.func (cellBody t1 t2 t3 t4 t5 t6 t7 u1 u2 u3 u4 q1 q2 q3 q5 q6 q7 p1 p2 p3 p4 p5 tt kt) env) ((model X.prog X.w).den (.func (cellBody t1 t2 t3 t4 t5 t6 t7 u1 u2 u3 u4 q1 q2 q3 q5 q6 q7 p1 p2 p3 p4 p5 tt kt) env)) [] s := by
  refine sg_func ?_
  refine sg_cons (sg_wrap ?_)
  rw [over_func]
  refine wpAny_Assign_stores (attr_of (by rfl) (wpAny_Name (wpAny_loadName_local ok.kind ok.ks hn hself ?_) (by decide))) (by rfl) (by rfl)
  refine wpAny_gsz (n := s.gens.size) (Nat.le_refl _) (getattr_ok I hs c1 c2 hl fun u s2 I2 ru sz2 => ?_)
  obtain rfl : u = Value.ref tp := ru
  have pin := fun (x : Addr) (o : Obj) (hx : (x, o) ∈ pins) (o' : Obj) (e : s.heap.get? x = some o') => show s2.heap.get? x = some o' by
    have h1 := (I.pin (x, o) (List.mem_append_right _ hx)).1
    have h2 := (I2.pin (x, o) (List.mem_append_right _ hx)).1
    rw [e] at h1
    cases h1
    exact h2
  obtain ⟨og, hpg⟩ := pg
  obtain ⟨oL, hpL⟩ := pL
  have hn2 : s2.heap.Ns env.locals m := hn.at' (pin _ _ hpL)
  have gn2 : s2.heap.IsGen gobj gno := isgen_at gn (pin _ _ hpg)
  obtain ⟨its, rv, ht, hz⟩ := I2.tuple hq
  cases rv with
  | cons r1 rv =>
  cases rv with
  | cons r2 rv =>
  cases rv with
  | cons r3 rv =>
  cases rv
  obtain ⟨ta, rfl⟩ := r1
  obtain ⟨tb, rfl⟩ := r2
  obtain ⟨tc, rfl⟩ := r3
  have hA' : (A.deeper env).handled = none := hA
  show wpAny _ _ (assign (.Tuple [.Name "a" t1, .Name "b" t2, .Name "c" t3] tt t4) env (.ref tp)) _ _ _
  refine wpAny_hsz (assign_Tuple_tuple hA' ht (by rfl) (by rfl) fun h3 x3 => ?_)
  have k3 : ∀ b o, s2.heap.get? b = some o → h3.get? b = some o := fun b o e => x3 b o (Nat.ne_of_lt (Heap.lt_size e)) e
  refine assignInOrder_cons (ev_store (s := { s2 with heap := h3 }) ok ok.ka (hn2.at' (k3 _)) fun h4 hn4 sb4 => ?_)
  refine assignInOrder_cons (ev_store (s := { s2 with heap := h4, toks := s2.toks + 1 }) ok ok.kb hn4 fun h5 hn5 sb5 => ?_)
  refine assignInOrder_cons (ev_store (s := { s2 with heap := h5, toks := s2.toks + 1 + 1 }) ok ok.kc hn5 fun h6 hn6 sb6 => ?_)
  refine assignInOrder_nil fun sz6 => ?_
  have sz6 : s2.heap.objs.size ≤ h6.objs.size := sz6
  have kp6 : Kp [gobj, env.locals] s2.heap h6 := fun b o n e => by
    have nL : b ≠ env.locals := fun z => n (z ▸ by simp)
    rw [sb6.2 b nL]
    show h5.get? b = some o
    rw [sb5.2 b nL]
    show h4.get? b = some o
    rw [sb4.2 b nL]
    exact k3 b o e
  have gn6 : h6.IsGen gobj gno := isgen_at gn2 fun o e => by
    rw [sb6.2 gobj gL]
    show h5.get? gobj = some o
    rw [sb5.2 gobj gL]
    show h4.get? gobj = some o
    rw [sb4.2 gobj gL]
    exact k3 _ o e
  have nl : ∀ b, b = mainGlobals ∨ b = builtinsNs → b ∉ [gobj, env.locals] ∧ b < s2.heap.objs.size := fun b hb => by
    obtain ⟨⟨m1, e1, _⟩, m2, e2, _⟩ := good_of I2 hm
    have gd : ∀ mm, s2.heap.Ns b mm → b ≠ gobj := fun mm hmm e => by
      obtain ⟨o, _, _, e3, d, _⟩ := hmm
      obtain ⟨o', _, _, e4, _, d', _⟩ := gn2
      rw [e, e4] at e3
      cases e3
      rw [d] at d'
      cases d'
    refine ⟨fun mm => ?_, ?_⟩
    · simp only [List.mem_cons, List.not_mem_nil, or_false] at mm
      rcases mm with z | z
      · rcases hb with rfl | rfl
        · exact gd _ e1 z
        · exact gd _ e2 z
      · exact nL b hb z
    · rcases hb with rfl | rfl
      · exact e1.lt
      · exact e2.lt
  have g2 := good_of I2 hm
  have g6 : Good { s2 with heap := h6, toks := s2.toks + 1 + 1 + 1 } := by
    obtain ⟨⟨m1, e1, e2⟩, m2, e3, e4⟩ := g2
    exact ⟨⟨m1, e1.at' fun o e => kp6 _ o (nl _ (.inl rfl)).1 e, e2⟩, m2, e3.at' fun o e => kp6 _ o (nl _ (.inr rfl)).1 e, e4⟩
  refine sg_cons (sg_For ?_)
  rw [over_func]
  refine ev_range (v := "c") (n := C) (t := tc) ok g6 ok.kc hn6 (if_pos rfl) (by omega) (by omega) fun h7 tk I1 l1 l2 k7 r7 s7 p => ?_
  have l1 : h6.objs.size ≤ I1 := l1
  have s7 : h6.objs.size ≤ h7.objs.size := s7
  have k7 : ∀ b o, h6.get? b = some o → h7.get? b = some o := k7
  have hn7 := hn6.at' (k7 env.locals)
  obtain ⟨C', rfl⟩ : ∃ C', C = C' + 1 := ⟨C - 1, by omega⟩
  have lg : gobj < h6.objs.size := by obtain ⟨o, _, _, e, _⟩ := gn6; exact Heap.lt_size e
  have oo : OutOk X.prog X.w A (A.deeper env) env (.forLoop (.Name "y" q6) (.ref I1) (bodyO q1 q2 q3 q5 q7 p1 p2 p3 p4 p5 kt) [] env) (.ret (backK env (fun f => match f with | .next => (execs [] env).wrap funcK (funcH env) id id | f => funcK f) (funcH env) id id) none (id false) (id []) (.func (cellBody t1 t2 t3 t4 t5 t6 t7 u1 u2 u3 u4 q1 q2 q3 q5 q6 q7 p1 p2 p3 p4 p5 tt kt) env) p [] :: []) :=
    ⟨(over_loop rfl rfl).trans over_func, rfl, rfl, fun Φ s h => sg_leaf (.ok .next) (sg_nil (env := env) (sg_end (.ok (.ret .none)) h))⟩
  refine Sg.mono (Ψ := fun e s' => ∃ s2, L2.Inv X pins σ H s2 ∧ s.gens.size ≤ s2.gens.size ∧ TurnE X.prog X.w A gobj gno itm ((C' + 1) * a) [gobj, env.locals] s2 e s') (outer_row (r := (C' + 1) * a) (y := 0) (q := C') (s0 := s2) (fp := [gobj, env.locals]) ok hA' ha ha2 ?_ oo ?_ (by push_cast at r7; exact r7) (Nat.ne_of_gt (Nat.lt_of_lt_of_le hn6.lt l1)) (isgen_at gn6 (k7 _)) gL (Nat.ne_of_lt (Nat.lt_of_lt_of_le lg l1)) (fun b hb => ?_) ?_ ?_ nl rfl rfl fun s8 I2' fs' gs8 io z => ?_) fun e s' q => ⟨s2, I2, sz2, q⟩
  · obtain ⟨⟨m1, e1, e2⟩, m2, e3, e4⟩ := g6
    exact ⟨⟨m1, e1.at' (k7 _), e2⟩, m2, e3.at' (k7 _), e4⟩
  · exact ⟨_, ta, hn7, (if_neg (by decide)).trans ((if_neg (by decide)).trans (if_pos rfl))⟩
  · rcases hb with h | h | h
    · exact .inl (by simp [h])
    · exact .inl (by simp [h])
    · exact .inr (by rw [h]; exact Nat.le_trans sz6 l1)
  · exact kp6.trans (Kp.of k7)
  · show s2.heap.objs.size ≤ h7.objs.size
    omega
  · have hr : (C' + 1) * a = a + C' * a := by rw [Nat.add_mul, Nat.one_mul, Nat.add_comm]
    exact loops ok hA' ha ha2 hitm oo _ a C' 0 0 _ s2 s8 I2' fs' hr (by omega) (by omega) gs8 io z
end
end GX
namespace GX
open PySem PySem.Spec PyProof.Rows L2 GenW Z
section
variable {X : Cx} {pins : List (Addr × Obj)} {σ : L2.St} {H : Hp} {s s1 : Shared} {fp : List Addr}
end
structure ScOk (sc : Scope) : Prop where
  rng : sc.names.lookup ("range" : Str) = some .globalImplicit
  ka : sc.names.lookup ("a" : Str) = some .local
  kb : sc.names.lookup ("b" : Str) = some .local
  kc : sc.names.lookup ("c" : Str) = some .local
  kx : sc.names.lookup ("x" : Str) = some .local
  ky : sc.names.lookup ("y" : Str) = some .local
  ks : sc.names.lookup ("self" : Str) = some .local
section
variable {P : Program} {w : World} {K : Frg} {mg : Str → Option Value} {A : Around} {env : Env} {gobj selfa C0 dx : Addr} {gno : Nat} {itm : Nat → Int × Int} {a b C : Nat} {fs0 : List (Str × V)} {tp : Addr} {tt kt : Nat} {t1 t2 t3 t4 t5 t6 t7 u1 u2 u3 u4 q1 q2 q3 q5 q6 q7 p1 p2 p3 p4 p5 : Pos}
end
end GX
namespace Y
open PySem PySem.Spec PyProof.Rows L2 Z
section
variable {X : Cx} {B : Bs} {pos : Pos}
end
end Y
namespace Y
open PySem PySem.Spec PyProof.Rows L2 Z
open PySem.W PySem.Calls PySem.HandSPX
/-! ### C(..), C an own class of errors with an own __init__ -/
def OwnCall (newId : String) (bmB : List Value) : Prop := ∀ {prog : Program} {w : World} {A : Around} {R : Result → Shared → Prop} {h : Heap} {g : Array GenState} {d : Drawn} {t : Tok} {os : OsState} {nm q : Str} {C N fI : Addr} {bs bm : List Value} {sn : List Str} {sub : List Value} {ab : Bool} {col : Option Bool} {dd : Option Addr} {k0 k1 k2 k3 k5 : Option Value} {rest : List Value},
  (∀ X : String, bm.contains (.type X) = bmB.contains (.type X)) → h.get? C = some (excClassObj nm q C N bs bm true sn sub ab col dd k0 k1 k2 k3 k5 newId) →
  W.Looks (model prog w) h (typeLookup (.ref C) "__init__") (some (.ref fI)) → (∀ self, W.Looks (model prog w) h (bindSpecial (.ref fI) self) (.ref fI, [self])) → rest.length ≤ sizeLine →
  codeAny (model prog w) (A.under (.builtin "type.__call__" ⟨.ref C :: rest, []⟩)) (.call (.ref fI) ⟨.ref (h.objs.size + 1) :: rest, []⟩) (W.InitBack (h.objs.size + 1) R) ⟨(h.push (W.kdv_tup rest)).push (excO C h.objs.size), g, d, t, os⟩ →
  codeAny (model prog w) A (.call (.ref C) ⟨rest, []⟩) R ⟨h, g, d, t, os⟩
theorem own_base {B newId initId : String} {bmB : List Value} (F : ExcBaseFacts B newId initId bmB) : OwnCall newId bmB := fun hT hC hi hb hr hq => call_own F hT hC hi hb hr hq
/-! ### .. over KeyError, which has no __new__ of its own -/
def bsKey : List Value := [.type "KeyError", .type "LookupError", .type "Exception", .type "BaseException", .type "object"]
abbrev lkNew : String := "LookupError.__new__"
section
variable {prog : Program} {w : World} {A : Around} {E : Value → Shared → Prop} {R : Result → Shared → Prop} {hp : Heap} {gs : Array GenState} {dr : Drawn} {tk : Tok} {os : OsState} {nm q : Str} {C N fI : Addr} {bs bm : List Value} {sn : List Str} {sub : List Value} {ab : Bool} {col : Option Bool} {dd : Option Addr} {k0 k1 k2 k3 k5 : Option Value} {rs : List Value}
theorem key_check {M : Model} {Q : Unit → Shared → Prop} (hB : (Value.ref C :: bm).contains (.type "LookupError") = true) (hK : hp.get? C = some (excClassObj nm q C N bs bm true sn sub ab col dd k0 k1 k2 k3 k5 lkNew)) (hq : Q () ⟨hp, gs, dr, tk, os⟩) : wpAny M A (checkBuiltinCall lkNew ⟨.ref C :: rs, []⟩) Q E ⟨hp, gs, dr, tk, os⟩ := by
  have e1 := PySem.F.excBase_LookupError.noStar
  simp only [checkBuiltinCall, PySem.F.excBase_LookupError.newKind, PySem.F.excBase_LookupError.newSplit, PySem.F.excBase_LookupError.newRow]
  repeat (first | refine wpAny_loadPart_at hK ?_ | (refine wpAny_isSubtype_exc hK ?_; rw [hB]) | refine wpAny_staticBase_exc hK ?_ | refine wpAny_madeBy_exc hK ?_ | simp only [bne_self_eq_false, Bool.false_eq_true, if_false] | wp_step)
  exact hq
theorem key_new (hB : (Value.ref C :: bm).contains (.type "LookupError") = true) (hA : (Value.ref C :: bm).contains (.type "AttributeError") = false) (hN : (Value.ref C :: bm).contains (.type "NameError") = false) (hK : hp.get? C = some (excClassObj nm q C N bs bm true sn sub ab col dd k0 k1 k2 k3 k5 lkNew))
    (hq : R (.ok (.ret (.ref (hp.objs.size + 1)))) ⟨(hp.push (W.kdv_tup rs)).push (excO C hp.objs.size), gs, dr, tk, os⟩) (hl : rs.length ≤ sizeLine) : codeAny (model prog w) A (.builtin lkNew ⟨.ref C :: rs, []⟩) R ⟨hp, gs, dr, tk, os⟩ := by
  have e0 := PySem.F.excBase_LookupError.ends
  refine PySem.codeAny_builtinAt PySem.F.excBase_LookupError.entry (?_ : _)
  unfold Builtin.«BaseException.__new__»
  refine PySem.wpAt_bind ?_
  show PySem.wpAt _ _ _ (stack >>= _) _ _ _
  refine PySem.wpAt_bind (PySem.wpAt_stack fun p0 b0 => PySem.wpAt_of_wpAny ?_)
  wp_walk
  refine PySem.wpAt_of_wpAny ?_
  rw [PySem.F.excBase_LookupError.owner]
  repeat (first | with_reducible refine wpAny_madeHere_exc PySem.F.excBase_LookupError.canon hK ?_ | with_reducible refine wpAny_loadPart_at hK ?_ | (with_reducible refine wpAny_isSubtype_exc hK ?_; first | rw [hB] | rw [hA] | rw [hN]) | wp_step)
  show R _ _
  rw [Heap.size_push]
  exact hq
theorem key_type {Q : Fin → Shared → Prop} (hB : (Value.ref C :: bm).contains (.type "LookupError") = true) (hA : (Value.ref C :: bm).contains (.type "AttributeError") = false) (hN : (Value.ref C :: bm).contains (.type "NameError") = false) (hK : hp.get? C = some (excClassObj nm q C N bs bm true sn sub ab col dd k0 k1 k2 k3 k5 lkNew))
    (hi : W.Looks (model prog w) hp (typeLookup (.ref C) "__init__") (some (.ref fI))) (hb : ∀ self, W.Looks (model prog w) hp (bindSpecial (.ref fI) self) (.ref fI, [self])) (hl : rs.length ≤ sizeLine)
    (hq : codeAny (model prog w) A (.call (.ref fI) ⟨.ref (hp.objs.size + 1) :: rs, []⟩) (fun r s' => match r with | .ok (.ret v) => v = .none ∧ Q (.done (.ret (.ref (hp.objs.size + 1)))) s' | .ok _ => False | .error e => E e s') ⟨(hp.push (W.kdv_tup rs)).push (excO C hp.objs.size), gs, dr, tk, os⟩) :
    wpAny (model prog w) A (Builtin.«type.__call__» ⟨.ref C :: rs, []⟩) Q E ⟨hp, gs, dr, tk, os⟩ := by
  repeat (first | with_reducible refine wpAny_loadPart_at hK ?_ | with_reducible refine wpAny_madeBy_exc hK ?_ | wp_step)
  refine codeAny_call_builtin_code (Code.quiet_builtin _ PySem.F.excBase_LookupError.quiet) (key_check hB hK ?_)
  refine key_new hB hA hN hK ?_ hl
  show wpAny _ _ _ _ _ _
  have kp : ∀ b o, hp.get? b = some o → ((hp.push (W.kdv_tup rs)).push (excO C hp.objs.size)).get? b = some o := fun b o e => Heap.get?_push_of_some _ (Heap.get?_push_of_some _ e)
  have hK1 := kp _ _ hK
  have hg : ((hp.push (W.kdv_tup rs)).push (excO C hp.objs.size)).get? (hp.objs.size + 1) = some (excO C hp.objs.size) := by heap_get
  have cc : (Value.ref C :: bm).contains (.ref C) = true := by simp
  have j1 := hi.keeps kp
  have j2 := (hb (.ref (hp.objs.size + 1))).keeps kp
  unfold isInstance
  repeat (first | with_reducible refine wpAny_loadPart_at hg ?_ | (with_reducible refine wpAny_isSubtype_exc hK1 ?_; rw [cc]) | wp_step)
  show wpAny _ _ (typeLookup (.ref C) _) _ _ _
  refine j1.at (wpAny_holding (wpAny_bind (j2.at (wpAny_bind (wpAny_call (codeAny_mono hq fun r s' z => ?_))))))
  rcases r with e | (v | _ | _ | _) <;> first | exact z | exact z.elim | skip
  obtain ⟨rfl, z⟩ := z
  first
    | exact wpAny_pure (wpAny_pure z)
    | (wp_walk; exact z)
theorem own_key : OwnCall lkNew bsKey := by
  intro prog w A R hp gs dr tk os nm q C N fI bs bm sn sub ab col dd k0 k1 k2 k3 k5 rs hT hK hi hb hl hq
  have hB : (Value.ref C :: bm).contains (.type "LookupError") = true := by rw [List.contains_cons, hT]; rfl
  have hA : (Value.ref C :: bm).contains (.type "AttributeError") = false := by rw [List.contains_cons, hT]; rfl
  have hN : (Value.ref C :: bm).contains (.type "NameError") = false := by rw [List.contains_cons, hT]; rfl
  have z1 := tc_lookup
  have z2 := tc_bind (.ref C)
  have z3 : (⟨hp, gs, dr, tk, os⟩ : Shared).TypeIs (.ref C) "type" := ⟨_, hK, rfl⟩
  refine codeAny_of_tree ?_
  show wpAny _ _ (callAny (.ref C) _) _ _ _
  repeat (any_goals (first | assumption | with_reducible refine wpAny_loadPart_at hK ?_ | wp_step))
  refine ⟨rfl, ?_⟩
  refine codeAny_call_builtin_at (Code.quiet_builtin _ (by decide +kernel)) entry_typeCall (wpAny_check_type_call_sub hK (key_type hB hA hN hK hi hb hl ?_))
  refine codeAny_mono hq fun r s' z => ?_
  rcases r with e | (v | _ | _ | _) <;> exact z
end
end Y
namespace Y
open PySem PySem.Spec PyProof.Rows L2 Z
open PySem.W PySem.Calls PySem.HandSPX
/-! ### an own class of errors whose __init__ keeps its argument in one field -/
def iA (f : Str) (p1 p2 : Pos) : Arguments := { posonlyargs := [], args := [{ arg := "self", annotation := none, pos := p1 }, { arg := f, annotation := none, pos := p2 }], vararg := none, kwonlyargs := [], kw_defaults := [], kwarg := none, defaults := [] }
def iB (f : Str) (q1 q2 q3 q4 : Pos) : List Stmt := [.Assign [.Attribute (.Name "self" q1) f q2] (.Name f q3) q4]
def iS (f : Str) : Scope := { kind := .function, names := [(PySem.Str.ofString "self", .local), (f, .local)], isGenerator := false, isCoroutine := false, more := [] }
/-- a built-in base of own errors -/
structure ExB (bmB : List Value) (newId : String) : Prop where
  call : OwnCall newId bmB
  ps : ∀ self, refuseLoop self "__setattr__" bmB = pure ()
  ob : bmB.contains (.type "object") = true
  ne : bmB.isEmpty = false
def bsValue : List Value := [.type "ValueError", .type "Exception", .type "BaseException", .type "object"]
def bsOver : List Value := [.type "OverflowError", .type "ArithmeticError", .type "Exception", .type "BaseException", .type "object"]
def bsArith : List Value := [.type "ArithmeticError", .type "Exception", .type "BaseException", .type "object"]
def bsRun : List Value := [.type "RuntimeError", .type "Exception", .type "BaseException", .type "object"]
theorem exB_Value : ExB bsValue "ValueError.__new__" := ⟨own_base F.excBase_ValueError, F.store_ValueError.passes, by decide +kernel, rfl⟩
theorem exB_Over : ExB bsOver "OverflowError.__new__" := ⟨own_base F.excBase_OverflowError, F.store_OverflowError.passes, by decide +kernel, rfl⟩
theorem exB_Arith : ExB bsArith "ArithmeticError.__new__" := ⟨own_base F.excBase_ArithmeticError, F.store_ArithmeticError.passes, by decide +kernel, rfl⟩
theorem exB_Key : ExB bsKey lkNew := ⟨own_key, fun self => by kernel_rfl, by decide +kernel, rfl⟩
section
variable {prog : Program} {w : World} {A : Around} {E : Value → Shared → Prop} {R : Result → Shared → Prop} {hp : Heap} {g : Array GenState} {d : Drawn} {t : Tok} {os : OsState}
open Builtin Builtin.ObjectAttr in
theorem exc_osaG {K : W.Frag} {name : Str} {tk : Tok} {v : Value} {x C : Addr} {fv : Array Value} {cd : ClassData} {bmB : List Value} {newId : String} (EB : ExB bmB newId)
    (X : K.In hp) (hx : hp.get? x = some { cls := .ref C, data := .fields fv }) (hcd : W.clsIn K C = some cd) (hm : excTail bmB cd.mro = true) (hh : cd.hasDict = true) (ha : W.findIn K (.ref C) name = some none)
    (hq : ∀ h' tk' dx, (∀ b o, b ≠ x → hp.get? b = some o → h'.get? b = some o) → hp.objs.size ≤ dx → dx ≠ x → h'.get? x = some { cls := .ref C, dict := some dx, data := .fields fv } →
      h'.Ns1 dx (fun y => if y = name then some v else none) → R (.ok (.ret .none)) ⟨h', g, d, tk', os⟩) :
    codeAny (model prog w) A (.call (.builtin "object.__setattr__") ⟨[.ref x, .str name tk, v], []⟩) R ⟨hp, g, d, t, os⟩ := by
  have I : W.InstAt hp x { cls := .ref C, data := .fields fv } C none := ⟨hx, rfl, rfl, trivial⟩
  have SF := F.store_object
  have hob : cd.mro.contains (.type "object") = true := (excTail_contains "object" _ hm).trans EB.ob
  have ne : cd.mro.isEmpty = false := by
    cases e : cd.mro with
    | nil => rw [e] at hob; simp at hob
    | cons _ _ => rfl
  have hxs : x ≠ hp.objs.size := Nat.ne_of_lt (Heap.lt_size hx)
  have sub : W.Looks (model prog w) hp (isInstance (.ref x) (.type "object")) true := I.type.andThen (W.looks_mroIn X (by unfold W.mroIn; rw [hcd, Option.bind_some, if_neg (by rw [ne]; decide), hob]))
  refine codeAny_call_builtin SF.slot.plain SF.entry (@W.check_slot (model prog w) _ _ ⟨hp, g, d, t, os⟩ "object.__setattr__" "object" "__setattr__" (.ref x) [.str name tk, v] [] _ SF.kind SF.split sub (SF.args (.ref x) (.str name tk) v) ?_)
  have hmr : W.Looks (model prog w) hp (mroOf (.ref C)) cd.mro := (W.looks_clsIn X hcd).andThen .now
  have L3 : W.Looks (model prog w) hp (storeTaker? none) none := .now
  have hcls : W.Looks (model prog w) hp (classData C) cd := W.looks_clsIn X hcd
  rw [W.osa_eq, refuse_eq]
  refine wpAny_bind (wpAny_bind (I.type.at (wpAny_bind (hmr.at ?_))))
  rw [excTail_pass _ (EB.ps _) _ hm]
  refine wpAny_pure (wpAny_bind (I.type.at (wpAny_bind ((W.looks_findIn X ha).at (wpAny_bind (L3.at ?_))))))
  show wpAny _ _ (storeInOwnDict (.ref x) (.ref C) (.str name tk) name v false) _ _ _
  obtain ⟨nm, bs, mro, ns, qn, hd, sn, sb, ab, col, del⟩ := cd
  dsimp only at hh
  subst hh
  unfold storeInOwnDict ownDictForStores
  repeat (first | with_reducible refine store_in_new ?_ ?_ | with_reducible refine wpAny_loadPart_at hx ?_ | with_reducible refine hcls.at ?_ | wp_step)
  · exact ⟨_, #[], _, (Heap.get?_update_ne _ _ _ _ hxs.symm).trans (Heap.get?_push_at rfl rfl), rfl, fun e he => absurd he (by simp), fun _ => rfl⟩
  · intro h' tk' hn' hs
    have hx₁ : (hp.push { cls := .type "dict", data := .dict #[] }).get? x = some { cls := .ref C, data := .fields fv } := Heap.get?_push_of_some _ hx
    refine hq h' tk' hp.objs.size (fun b o hb ho => ?_) (Nat.le_refl _) hxs.symm ?_ hn'
    · exact (hs.2 b (Nat.ne_of_lt (Heap.lt_size ho))).trans ((Heap.get?_update_ne _ _ _ _ hb).trans (Heap.get?_push_of_some _ ho))
    · exact (hs.2 x hxs).trans (Heap.get?_update_self _ hx₁ rfl)
end
structure XcT (K : Frg) (C fI : Addr) (f qual : Str) (st : Stmt) : Prop where
  cls : ∃ nm q N bs bm sn sub ab col dd k0 k1 k2 k3 k5 bmB newId, K.lookup C = some (excClassObj nm q C N bs bm true sn sub ab col dd k0 k1 k2 k3 k5 newId) ∧ excTail bmB bm = true ∧ ExB bmB newId
  sa : findIn K (.ref C) "__setattr__" = some (some (.builtin "object.__setattr__"))
  xf : L2.XfC K C
  noN : findIn K (.ref C) f = some none
  iC : findIn K (.ref C) "__init__" = some (some (.ref fI))
  tC : typeIn K (.ref fI) = some (.type "function")
  kC : keepIn K (.ref C) = true
  exC : subIn K (.ref C) (.type "BaseException") = some true
  tyC : typeIn K (.ref C) = some (.type "type")
  df : DefAt K "__init__" qual st fI
  arg : ∃ p1 p2, defArgs st = iA f p1 p2
  body : ∃ q1 q2 q3 q4, defBody st = iB f q1 q2 q3 q4
  sc : defScope st = iS f
def Fld (f : Str) : Prop := f = "value" ∨ f = "index" ∨ f = "limit" ∨ f = "name"
theorem one_size (v : Value) : [v].length ≤ sizeLine := by
  rw [sizeLine_eq]
  exact (by decide : 1 ≤ 16777216)
theorem ldC {M : Model} {s : Shared} {name : Str} {scope : Scope} {L a : Addr} {cd : Value} {m : Str → Option Value} {x : Str} {pos : Pos} {v : Value} {Q : Value → Shared → Prop} {A : Around} {E : Value → Shared → Prop} (hn : s.heap.Ns L m) (hv : m x = some v) (h : Q v s)
    (hk : scope.kind = .function := by rfl) (hl : (envOfC name scope L a cd).kindOf x = some .local := by rfl) (hd : (x == ("__debug__" : Str)) = false := by decide) :
    wpAny M A (eval (.Name x pos) (envOfC name scope L a cd)) Q E s := wpAny_Name (wpAny_loadName_local hk hl hn hv h) hd
structure InitEnd (h h' : Heap) (x C dx t1 : Addr) (f : Str) (v : Value) : Prop where
  keep : ∀ b o, b ≠ x → h.get? b = some o → h'.get? b = some o
  obj : h'.get? x = some { cls := .ref C, dict := some dx, data := .fields #[.ref t1, .none, .none, .none, .bool false, .none] }
  dbig : h.objs.size ≤ dx
  dne : dx ≠ x
  ns : h'.Ns1 dx (fun y => if y = f then some v else none)
structure OwnMade (h h' : Heap) (e C d : Addr) (f : Str) (v : Value) : Prop where
  keep : ∀ b o, h.get? b = some o → h'.get? b = some o
  new : h.objs.size ≤ e
  obj : ∃ oe t1, h'.get? e = some oe ∧ oe.cls = .ref C ∧ oe.dict = some d ∧ oe.data = .fields #[.ref t1, .none, .none, .none, .bool false, .none]
  dbig : h.objs.size ≤ d
  dne : d ≠ e
  ns : h'.Ns1 d (fun y => if y = f then some v else none)
section
variable {prog : Program} {w : World} {A : Around} {E : Value → Shared → Prop} {R : Result → Shared → Prop} {s : Shared} {K : Frg} {mg : Str → Option Value} {C fI : Addr} {f qual : Str} {st : Stmt}
theorem xc_init (T : XcT K C fI f qual st) (hf : Fld f) {x t0 : Addr} {v : Value} (X : K.In s.heap) (hlim : s.heap.NoLimit) (hx : s.heap.get? x = some (excO C t0)) (hnx : K.lookup x = none) (hroom : A.depth < recursionLimit)
    (hq : ∀ h' tk dx, InitEnd s.heap h' x C dx t0 f v → R (.ok (.ret .none)) { s with heap := h', toks := tk }) :
    codeAny (model prog w) A (.call (.ref fI) ⟨[.ref x, v], []⟩) R s := by
  obtain ⟨fd, F⟩ := T.df
  obtain ⟨oc, od, dV, kV, doc, pm, an, cdv, ct, osl, rfl, ho, hcd, hD, hK⟩ := F.ex
  have hD' : dV = .none := by
    rcases hD with ⟨_, z⟩ | ⟨z, _⟩
    · exact z
    · exact absurd rfl z
  subst hD'
  obtain ⟨p1, p2, eA⟩ := T.arg
  obtain ⟨q1, q2, q3, q4, eB⟩ := T.body
  rw [eA, eB, T.sc] at ho
  obtain ⟨nm, q, N, bs, bm, sn, sub, ab, col, dd, k0, k1, k2, k3, k5, bmB, newId, hC, hbm, EB⟩ := T.cls
  have hcl : clsIn K C = some { name := nm, bases := bs, mro := .ref C :: bm, ns := N, qualname := q, hasDict := true, slotNames := sn, subclasses := sub, abstract := ab, collection := col, hasDel := false } := by unfold clsIn; rw [hC] <;> rfl
  have hsa := T.sa
  have hno := T.noN
  clear T eA eB F hK hD
  rcases hf with rfl | rfl | rfl | rfl
  all_goals
    refine Att.call_fn (binds := [("self", .ref x), (_, v)]) X hlim ho hcd hroom (BindsTo.of_eq (by first | rfl | with_unfolding_all rfl)) (by first | rfl | decide | with_unfolding_all rfl) (fun s₁ IC => ?_) rfl rfl rfl
    obtain ⟨h₁, tk₁, rfl⟩ := IC.toInCall.same
    have k : ∀ b o, s.heap.get? b = some o → h₁.get? b = some o := IC.toInCall.keep
    have hn := IC.toInCall.ns
    have hxL : s.heap.objs.size ≠ x := Nat.ne_of_gt (Heap.lt_size hx)
    have X₁ : K.In h₁ := X.keeps k
    have hx₁ := k _ _ hx
    show wpAny _ _ (execs _ _) _ _ _
    refine wpAny_execs_cons (plainObj_wpAny_Assign_Attribute ?_)
    refine ldC (v := v) hn (by first | rfl | with_unfolding_all rfl | kernel_rfl) (ldC (v := .ref x) hn (by first | rfl | with_unfolding_all rfl | kernel_rfl) ?_)
    refine set_plain X₁ (ox := excO C t0) (od := none) ⟨hx₁, rfl, rfl, trivial⟩ hsa ?_
    refine exc_osaG EB X₁ hx₁ hcl (show excTail bmB (.ref C :: bm) = true from hbm) rfl hno (fun h₃ tk₃ dx k₃ dn dne hx₃ hn₃ => ?_)
    show wpAny _ _ (execs _ _) _ _ _
    have z : s.heap.objs.size < h₁.objs.size := hn.lt
    exact wpAny_execs_nil (hq h₃ tk₃ dx ⟨fun b o hb e => k₃ b o hb (k b o e), hx₃, Nat.le_of_lt (Nat.lt_of_lt_of_le z dn), dne, hn₃⟩)
theorem xc_made (T : XcT K C fI f qual st) (hf : Fld f) {v : Value} (X : K.In s.heap) (hlim : s.heap.NoLimit) (hroom : A.depth + 1 < recursionLimit)
    (hq : ∀ h' tk e d, OwnMade s.heap h' e C d f v → R (.ok (.ret (.ref e))) { s with heap := h', toks := tk }) :
    codeAny (model prog w) A (.call (.ref C) ⟨[v], []⟩) R s := by
  obtain ⟨nm, q, N, bs, bm, sn, sub, ab, col, dd, k0, k1, k2, k3, k5, bmB, newId, hC, hbm, EB⟩ := T.cls
  obtain ⟨hp, g, dr, tk, os⟩ := s
  have k : ∀ b o, hp.get? b = some o → ((hp.push (kdv_tup [v])).push (excO C hp.objs.size)).get? b = some o := fun b o e => Heap.get?_push_of_some _ (Heap.get?_push_of_some _ e)
  have hget : ((hp.push (kdv_tup [v])).push (excO C hp.objs.size)).get? (hp.objs.size + 1) = some (excO C hp.objs.size) := by heap_get
  have hnx : K.lookup (hp.objs.size + 1) = none := by
    cases e : K.lookup (hp.objs.size + 1) with
    | none => rfl
    | some o =>
      have z : hp.get? (hp.objs.size + 1) = some o := X _ _ e
      exact absurd (Nat.lt_of_succ_lt (Heap.lt_size z)) (Nat.lt_irrefl _)
  refine EB.call (fun X => excTail_contains X bm hbm) (X _ _ hC) (looks_findIn X T.iC) (fun self => bind_fn X self T.tC) (one_size v) ?_
  refine xc_init (s := ⟨(hp.push (kdv_tup [v])).push (excO C hp.objs.size), g, dr, tk, os⟩) T hf (X.keeps k) (hlim.keeps k) hget hnx ?_ fun h' tk' dx ⟨k', hx, dn, dne, hns⟩ => ?_
  · show A.depth + 1 < recursionLimit
    exact hroom
  · have old : ∀ b o, hp.get? b = some o → h'.get? b = some o := fun b o e => k' b o (Nat.ne_of_lt (Nat.lt_succ_of_lt (Heap.lt_size e))) (k b o e)
    have z : hp.objs.size + 1 + 1 ≤ dx := by
      first
        | (simpa only [Heap.size_push] using dn)
        | exact dn
        | (have q := dn; rw [Heap.size_push, Heap.size_push] at q; exact q)
    exact ⟨rfl, hq h' tk' (hp.objs.size + 1) dx ⟨old, Nat.le_succ _, ⟨_, _, hx, rfl, rfl, rfl⟩, Nat.le_trans (Nat.le_trans (Nat.le_succ _) (Nat.le_succ _)) z, dne, hns⟩⟩
end
end Y
namespace Y
open PySem PySem.Spec PyProof.Rows L2 Z
/-! ### try: body, except C as n: suite, ..; the caught error is a thing of the heap -/
section
variable {X : Cx} {pins : List (Addr × Obj)} {σ : L2.St} {H : Hp} {s : Shared}
theorem xo_ok {P : Program} {w : World} {H : Hp} {h : Heap} {a : Addr} {cls : Value} {d : Option Addr} {oe : Obj} {vs : Array Value} (e : h.get? a = some oe) (z : Zc cls d oe) (hd : oe.data = .fields vs) : ObjOk P w H h a (XO cls d a) :=
  ⟨⟨oe, vs, e, z, hd⟩, ⟨oe, e⟩, fun _ _ ⟨o, v, q, r⟩ k => ⟨o, v, k o q, r⟩⟩
end
inductive HdsN (X : Cx) : List ExceptHandler → List (Value × Nat × TS) → Prop
  | nil : HdsN X [] []
  | cons {x n : Str} {c : Value} {i : Nat} {ts : TS} {b₀ : Stmt} {suite : List Stmt} {np pos' : Pos} {hds : List ExceptHandler} {l : List (Value × Nat × TS)} (hc : Names X x c) (hi : X.N[i]? = some n) (hln : X.env.kindOf n = some .local)
      (hsu : ∀ (a : Addr) (pn : List (Addr × Obj)), PSs (X.suite a pn) (b₀ :: suite) ts) (r : HdsN X hds l) :
      HdsN X (.ExceptHandler (some (.Name x np)) (some n) (b₀ :: suite) pos' :: hds) ((c, i, ts) :: l)
section
variable {X : Cx} {body : List Stmt} {h₀ : ExceptHandler} {hds : List ExceptHandler} {l : List (Value × Nat × TS)} {pos : Pos} {tb : WX → TS} {Wout : WX}
end
end Y
namespace Y
open PySem PySem.Spec PyProof.Rows L2 Z
/-! ### raise -/
abbrev Tk (X : Cx) (B : Bs) : Prop := Takes X (fun cls d _ H => EE X.K B cls d H)
theorem relO_x {f : Str} {v : V} {v' : Value} (r : RelV v v') (g : Str) : RelO (List.lookup g [(f, v)]) (if g = f then some v' else none) := by
  by_cases hw : g = f
  · subst hw
    rw [if_pos rfl]
    have q : List.lookup g [(g, v)] = some v := by simp [List.lookup]
    rw [q]
    exact r
  · rw [if_neg hw]
    have qw : (g == f) = false := by simpa using hw
    have q2 : List.lookup g [(f, v)] = none := by simp [List.lookup, qw]
    rw [q2]
    trivial
section
variable {X : Cx} {B : Bs} {a b c e : Expr} {es : List Expr} {ra rb rc r : Rd} {rt ru : RdT} {rl : RdA} {pos p p0 p1 pos2 : Pos} {st : Stmt} {C fI f : Addr} {x fn qual : Str} {sti : Stmt} {k : Nat} {R : RdF}
/-! ### what may raise, in the body of a try -/
/-! ### try -/
inductive HdsP (X : Cx) (B : Bs) : List ExceptHandler → List (Str × Nat × RdS) → Prop
  | nil : HdsP X B [] []
  | cons {x n : Str} {i : Nat} {rs : RdS} {b₀ : Stmt} {suite : List Stmt} {np pos' : Pos} {hds : List ExceptHandler} {l : List (Str × Nat × RdS)} (hc : Names X x (.ref (He.ga X.K x))) (hi : X.N[i]? = some n) (hln : X.env.kindOf n = some .local)
      (hsu : ∀ (a : Addr) (pn : List (Addr × Obj)), PSsp (X.suite a pn) B.nox (b₀ :: suite) rs) (r : HdsP X B hds l) :
      HdsP X B (.ExceptHandler (some (.Name x np)) (some n) (b₀ :: suite) pos' :: hds) ((x, i, rs) :: l)
def hdV (K : Frg) (B : Bs) (q : Str × Nat × RdS) : Value × Nat × TS := (.ref (He.ga K q.1), q.2.1, tS K B.nox q.2.2)
theorem HdsP.n {hds : List ExceptHandler} {l : List (Str × Nat × RdS)} (h : HdsP X B hds l) : HdsN X hds (l.map (hdV X.K B)) := by
  induction h with
  | nil => exact .nil
  | cons hc hi hln hsu _ ih => exact .cons hc hi hln hsu ih
/-! ### the field of a caught error -/
end
end Y
namespace Y
open PySem PySem.Spec PyProof.Rows L2 Z
/-! ### what the heap tells of an error class -/
def bsOf : Nat → List Value × String
  | 0 => (bsValue, "ValueError.__new__")
  | 1 => (bsOver, "OverflowError.__new__")
  | 3 => (bsKey, lkNew)
  | _ => (bsArith, "ArithmeticError.__new__")
theorem exB_of : ∀ b : Nat, ExB (bsOf b).1 (bsOf b).2
  | 0 => exB_Value
  | 1 => exB_Over
  | 2 => exB_Arith
  | 3 => exB_Key
  | _ + 4 => exB_Arith
def xclB (K : Frg) (C : Addr) (b : Nat) : Bool := match K.lookup C with
  | some ⟨.type "type", _, .cls cd, sl⟩ => (match cd.mro, sl.toList with
    | .ref C' :: bm, [_, _, _, _, some (.builtin n), _] => C' == C && n == (bsOf b).2 && !cd.hasDel && cd.hasDict && PySem.W.excTail (bsOf b).1 bm
    | _, _ => false)
  | _ => false
theorem xcl_of {K : Frg} {C : Addr} {b : Nat} (q : xclB K C b = true) : ∃ nm q N bs bm sn sub ab col dd k0 k1 k2 k3 k5 bmB newId, K.lookup C = some (excClassObj nm q C N bs bm true sn sub ab col dd k0 k1 k2 k3 k5 newId) ∧ PySem.W.excTail bmB bm = true ∧ ExB bmB newId := by
  unfold xclB at q
  split at q
  · rename_i dd cd sl ho
    split at q
    · rename_i C' bm k0 k1 k2 k3 n k5 hm hs
      simp only [Bool.and_eq_true, beq_iff_eq, Bool.not_eq_true'] at q
      obtain ⟨⟨⟨⟨rfl, rfl⟩, hdel⟩, hdi⟩, ht⟩ := q
      obtain ⟨nm, bs, mro, ns, qn, hd, sn, sub, ab, col, del⟩ := cd
      dsimp only at hm hdel hdi
      subst hm hdel hdi
      have hsl : sl = #[k0, k1, k2, k3, some (.builtin (bsOf b).2), k5] := by
        obtain ⟨l⟩ := sl
        simp only at hs
        rw [hs]
      subst hsl
      exact ⟨nm, qn, ns, bs, bm, sn, sub, ab, col, dd, k0, k1, k2, k3, k5, _, _, ho, ht, exB_of b⟩
    · cases q
  · cases q
def bXc (x f : Str) (b : Nat) : Frg → Bool := fun K => xclB K (He.ga K x) b && (He.eqO (PySem.W.findIn K (.ref (He.ga K x)) "__setattr__") (some (some (.builtin "object.__setattr__"))) && (L2.xfB K (He.ga K x) && (He.eqO (PySem.W.findIn K (.ref (He.ga K x)) f) (some none) &&
  (He.eqO (PySem.W.findIn K (.ref (He.ga K x)) "__init__") (some (some (.ref (He.ma K (He.ga K x) "__init__")))) && (decide (PySem.W.typeIn K (.ref (He.ma K (He.ga K x) "__init__")) = some (.type "function")) && (PySem.W.keepIn K (.ref (He.ga K x)) &&
  (decide (PySem.W.subIn K (.ref (He.ga K x)) (.type "BaseException") = some true) && decide (PySem.W.typeIn K (.ref (He.ga K x)) = some (.type "type")))))))))
structure XcB (K : Frg) (C fI : Addr) (f : Str) : Prop where
  cls : ∃ nm q N bs bm sn sub ab col dd k0 k1 k2 k3 k5 bmB newId, K.lookup C = some (excClassObj nm q C N bs bm true sn sub ab col dd k0 k1 k2 k3 k5 newId) ∧ PySem.W.excTail bmB bm = true ∧ ExB bmB newId
  sa : PySem.W.findIn K (.ref C) "__setattr__" = some (some (.builtin "object.__setattr__"))
  xf : L2.XfC K C
  noN : PySem.W.findIn K (.ref C) f = some none
  iC : PySem.W.findIn K (.ref C) "__init__" = some (some (.ref fI))
  tC : PySem.W.typeIn K (.ref fI) = some (.type "function")
  kC : PySem.W.keepIn K (.ref C) = true
  exC : PySem.W.subIn K (.ref C) (.type "BaseException") = some true
  tyC : PySem.W.typeIn K (.ref C) = some (.type "type")
theorem xcb_of {K : Frg} {x f : Str} {b : Nat} (h : bXc x f b K = true) : XcB K (He.ga K x) (He.ma K (He.ga K x) "__init__") f := by
  obtain ⟨h1, h⟩ := He.ba h
  obtain ⟨h2, h⟩ := He.ba h
  obtain ⟨h3, h⟩ := He.ba h
  obtain ⟨h4, h⟩ := He.ba h
  obtain ⟨h5, h⟩ := He.ba h
  obtain ⟨h6, h⟩ := He.ba h
  obtain ⟨h7, h⟩ := He.ba h
  obtain ⟨h8, h9⟩ := He.ba h
  exact ⟨xcl_of h1, He.eqO_ok h2, L2.xfB_ok h3, He.eqO_ok h4, He.eqO_ok h5, of_decide_eq_true h6, h7, of_decide_eq_true h8, of_decide_eq_true h9⟩
theorem XcB.t {K : Frg} {C fI : Addr} {f qual : Str} {st : Stmt} (h : XcB K C fI f) (df : DefAt K "__init__" qual st fI) (arg : ∃ p1 p2, defArgs st = iA f p1 p2) (body : ∃ q1 q2 q3 q4, defBody st = iB f q1 q2 q3 q4) (sc : defScope st = iS f) : XcT K C fI f qual st :=
  ⟨h.cls, h.sa, h.xf, h.noN, h.iC, h.tC, h.kC, h.exC, h.tyC, df, arg, body, sc⟩
/-! ### defs that may raise -/
section
variable {P : Program} {w : World} {K : Frg} {mg : Str → Option Value} {base : Heap}
end
/-! ### repr in an except suite -/
section
variable {X : Cx}
end
end Y
namespace Y
open PySem PySem.Spec PyProof.Rows L2 Z
/-! ### enumerate(text) -/
section
variable {X : Cx} {B : Bs} {e : Expr} {rl : RdA} {pos : Pos}
end
end Y
namespace Y
open PySem PySem.Spec PyProof.Rows L2 Z
/-! ### constructors and defs with *args that may raise -/
section
variable {P : Program} {w : World} {K : Frg} {mg : Str → Option Value} {base : Heap}
end
end Y
namespace Y
open PySem PySem.Spec PyProof.Rows L2 Z
/-! ### more calls that may raise, in the body of a try -/
section
variable {X : Cx} {B : Bs} {a b c e o : Expr} {es : List Expr} {ra rb rc r ro : Rd} {rt ru : RdT} {rl : RdA} {pos p0 apos : Pos} {R : RdF} {k : Nat} {f g p : Addr} {x m : Str}
end
end Y
namespace PySem.W
open PySem PySem.Spec PySem.Calls PyProof.Rows
section
variable {prog : Program} {w : World} {A : Around} {E : Value → Shared → Prop} {s : Shared} {K : Frag} {x D : Addr} {ox : Obj} {od : Option Obj}
theorem findObj_dataG {C : Addr} {name : Str} {a g : Value} (hc : (clsIn K C).isSome = true) (ha : findIn K (.ref C) name = some (some a)) (hg : specialIn K a "__get__" = some (some g)) (ht : takesIn K a = some true) : findObj K C od name = some (.bind g a) := by
  obtain ⟨cd, hc⟩ := Option.isSome_iff_exists.mp hc
  unfold findObj
  rw [hc, Option.bind_some, ha, Option.bind_some]
  cases od <;> simp [hg, ht]
theorem kin_classG {Q : Option Value → Shared → Prop} (hga : findIn K (.ref D) "__getattribute__" = some (some (.builtin "BaseException.__getattribute__"))) (hgt : findIn K (.ref D) "__getattr__" = some none) (hsub : subIn K (.ref D) (.type "BaseException") = some true)
    (hdct : hasDictIn K D = true) (ha : findIn K (.ref D) "__class__" = some (some (.builtin "object.__class__")))
    (hn : specialIn K (.builtin "object.__class__") "__get__" = some (some (.builtin "getset_descriptor.__get__"))) (htk : takesIn K (.builtin "object.__class__") = some true) (hm : mroIn K D (.type "object") = some true)
    (X : K.In s.heap) (I : InstAt s.heap x ox D od) (h : Q (some (.ref D)) { s with toks := s.toks + 1 }) : wpAny (model prog w) A (getAttr? (.ref x) "__class__") Q E s := by
  have hf : findObj K D od "__class__" = some (.bind (.builtin "getset_descriptor.__get__") (.builtin "object.__class__")) := findObj_dataG (by obtain ⟨cd, hc, _⟩ := any_some hdct; rw [hc]; rfl) ha hn htk
  obtain ⟨hp, g, d, t, os⟩ := s
  have L0 := I.type (M := model prog w)
  have L1 := looks_findIn (M := model prog w) X hga
  have L2 := looks_findIn (M := model prog w) X hgt
  have L3 := looks_find (M := model prog w) X I hf
  have sub : Looks (model prog w) hp (isInstance (.ref x) (.type "BaseException")) true := L0.andThen (looks_subIn X hsub)
  have hx0 : (false && onTheHeap (Value.builtin "BaseException.__getattribute__")) = false := rfl
  have hx2 : (Value.builtin "BaseException.__getattribute__" == Value.builtin "object.__getattribute__") = false := by decide +kernel
  have hx1 : (onTheHeap (Value.ref D) && Value.builtin "BaseException.__getattribute__" == Value.builtin "object.__getattribute__") = false := by rw [hx2]; rfl
  unfold getAttr? getAttrBy? getAttrBy
  refine wpAny_bind (wpAny_mkText (wpAny_bind (wpAny_attempt (wpAny_holding (wpAny_bind (L0.at (wpAny_bind (L1.at ?_))))))))
  show wpAny _ _ (if (onTheHeap (Value.ref D) && Value.builtin "BaseException.__getattribute__" == Value.builtin "object.__getattribute__") = true then _ else _) _ _ _
  rw [hx1, if_neg Bool.false_ne_true]
  unfold getAttrByItsOwn hookBefore
  refine wpAny_bind ?_
  rw [if_pos (show onTheHeap (Value.ref D) = true from rfl)]
  refine L2.at ?_
  refine wpAny_bind (wpAny_attempt (wpAny_holding ?_))
  unfold callGetattribute
  rw [hx0, if_neg Bool.false_ne_true]
  unfold boundAndCalled
  rw [PySem.F.excAttr_ValueError.ga.bind (.ref x)]
  refine wpAny_bind (wpAny_pure ?_)
  show wpAny _ _ (call (.builtin "BaseException.__getattribute__") [.ref x, .str "__class__" t]) _ _ _
  refine wpAny_call (codeAny_call_builtin PySem.F.excAttr_ValueError.ga.plain PySem.F.entry_bexc_ga ?_)
  refine @check_slot (model prog w) _ _ ⟨hp, g, d, t + 1, os⟩ "BaseException.__getattribute__" "BaseException" "__getattribute__" (.ref x) [.str "__class__" t] [] _ (by decide +kernel) (by decide +kernel) sub (PySem.F.args_bexc_ga (.ref x) (.str "__class__" t)) ?_
  unfold Builtin.«object.__getattribute__»
  refine wpAny_bind (wpAny_of_eq (a := ((Value.ref x : Value), [Value.str "__class__" t])) (by first | rfl | (simp only [slotArgs]; rfl)) ?_)
  refine wpAny_bind (wpAny_pure (wpAny_bind (L0.at (wpAny_bind (L3.at ?_)))))
  show wpAny _ _ (holding [Value.builtin "object.__class__"] (call (.builtin "getset_descriptor.__get__") [.builtin "object.__class__", .ref x, .ref D]) >>= ret) _ _ _
  refine wpAny_bind (wpAny_holding (wpAny_call (PySem.W.class_get (s := ⟨hp, g, d, t + 1, os⟩) (ox := ox) (od := od) X I hm ?_)))
  refine wpAny_pure ?_
  show wpAny _ _ (handedOut (.ref D)) _ _ _
  rw [handedOut_of (v := .ref D) rfl]
  first
    | exact wpAny_pure (wpAny_pure h)
    | exact wpAny_pure h
    | exact wpAny_pure (wpAny_bind (wpAny_pure (wpAny_pure h)))
theorem kitx_excG (hga : findIn K (.ref D) "__getattribute__" = some (some (.builtin "BaseException.__getattribute__"))) (hgt : findIn K (.ref D) "__getattr__" = some none) (hsub : subIn K (.ref D) (.type "BaseException") = some true) (hdct : hasDictIn K D = true) (ha : findIn K (.ref D) "__class__" = some (some (.builtin "object.__class__")))
    (hn : specialIn K (.builtin "object.__class__") "__get__" = some (some (.builtin "getset_descriptor.__get__"))) (htk : takesIn K (.builtin "object.__class__") = some true) (hm : mroIn K D (.type "object") = some true) :
    KitX K (.ref x) (.ref D) (fun h => InstAt h x ox D od) where
  ty := fun _ _ _ I => I.type
  it := fun _ _ X _ => by
    obtain ⟨cdD, hcD, _⟩ := any_some hdct
    unfold clsIn at hcD
    split at hcD
    · rename_i c' d' cd' sl' ho
      intro A' Q' E' s' k q
      unfold isType loadHead
      exact wpAny_bind (wpAny_loadPart (k _ _ (X _ _ ho)) (wpAny_pure q))
    · cases hcD
  ne := fun h tp dd its n sl X htp => by
    obtain ⟨cdD, hcD, _⟩ := any_some hdct
    refine Bool.eq_false_iff.mpr fun q => ?_
    have e : D = tp := Value.ref.inj (beq_iff_eq.mp q)
    subst e
    unfold clsIn at hcD
    split at hcD
    · rename_i c' d' cd' sl' ho
      have z := (X _ _ ho).symm.trans htp
      cases z
    · cases hcD
  ca := fun X I k => kin_classG hga hgt hsub hdct ha hn htk hm X I k
end
end PySem.W
namespace Y
open PySem PySem.Spec PyProof.Rows L2 Z
/-! ### isinstance(e, C), e a caught error -/
def rIsX (K : Frg) : List V → Hp → VK → Prop := fun xs H Q => ∃ (a D : Addr) (d : Option Addr) (c : V) (cv : Value) (b : Bool), xs = [.ref a, c] ∧ H a = some (XO (.ref D) d a) ∧ (∀ dd, d = some dd → ∃ fs, H dd = some (.xd fs)) ∧ ExcC K D ∧
  (∀ u, RelV c u → u = cv) ∧ PySem.W.kitOne K (.ref D) cv = some b ∧ Q (.bl b) H
section
variable {X : Cx} {B : Bs}
theorem call_isX : CallR X (.builtin "isinstance") (rIsX X.K) := by
  intro pins s σ H xs us Q I r h
  obtain ⟨a, D, d, c, cv, b, rfl, hH, hdd, C, hcv, e, q⟩ := h
  cases r with
  | cons rx rr =>
    cases rr with
    | cons rt rr =>
      cases rr
      cases rx
      have ec := hcv _ rt
      subst ec
      obtain ⟨⟨oe, vs, hget, hz, hv⟩, _⟩ := I.hok a _ hH
      have J : ∃ od, PySem.W.InstAt s.heap a oe D od := by
        cases d with
        | none => exact ⟨none, hget, hz.1, by unfold PySem.W.notCls; rw [hv] <;> rfl, by rw [hz.2]; trivial⟩
        | some dd =>
          obtain ⟨fs, hx⟩ := hdd dd rfl
          have hx2 : ObjOk X.prog X.w H s.heap dd (.xd fs) := I.hok dd _ hx
          obtain ⟨mA, hns, hr⟩ := hx2
          obtain ⟨od, ho, hl⟩ := lookIn_ns hns
          exact ⟨some od, hget, hz.1, by unfold PySem.W.notCls; rw [hv] <;> rfl, by rw [hz.2]; exact ho⟩
      obtain ⟨od, J⟩ := J
      exact PySem.W.kia_one (PySem.W.kitx_excG C.hg C.hk C.hs C.hd C.ha C.hn C.ht C.hm) I.kIn J e (fun z => nomatch z) fun tk => ⟨.bl b, H, I.kept (t' := tk) fun _ _ z => z, rfl, q⟩
end
def bExC (x : Str) : Frg → Bool := fun K => He.eqO (PySem.W.findIn K (.ref (He.ga K x)) "__getattribute__") (some (some (.builtin "BaseException.__getattribute__"))) && (He.eqO (PySem.W.findIn K (.ref (He.ga K x)) "__getattr__") (some none) && (decide (PySem.W.subIn K (.ref (He.ga K x)) (.type "BaseException") = some true) && (PySem.W.hasDictIn K (He.ga K x) &&
  (He.eqO (PySem.W.findIn K (.ref (He.ga K x)) "__class__") (some (some (.builtin "object.__class__"))) && (He.eqO (PySem.W.specialIn K (.builtin "object.__class__") "__get__") (some (some (.builtin "getset_descriptor.__get__"))) && (decide (PySem.W.takesIn K (.builtin "object.__class__") = some true) && decide (PySem.W.mroIn K (He.ga K x) (.type "object") = some true)))))))
theorem exc_of {K : Frg} {x : Str} (h : bExC x K = true) : ExcC K (He.ga K x) := by
  obtain ⟨h1, h⟩ := He.ba h
  obtain ⟨h2, h⟩ := He.ba h
  obtain ⟨h3, h⟩ := He.ba h
  obtain ⟨h4, h⟩ := He.ba h
  obtain ⟨h5, h⟩ := He.ba h
  obtain ⟨h6, h⟩ := He.ba h
  obtain ⟨h7, h8⟩ := He.ba h
  exact ⟨He.eqO_ok h1, He.eqO_ok h2, of_decide_eq_true h3, h4, He.eqO_ok h5, He.eqO_ok h6, of_decide_eq_true h7, of_decide_eq_true h8⟩
end Y
namespace Z
open PySem PySem.Spec PyProof.Rows L2
section
variable {P : Program} {w : World} {K : Frg} {mg : Str → Option Value} {base : Heap}
end
end Z
namespace Y
open PySem PySem.Spec PyProof.Rows L2 Z
section
variable {P : Program} {w : World} {K : Frg} {mg : Str → Option Value} {base : Heap}
end
section
variable {X : Cx} {B : Bs} {e e2 : Expr} {es : List Expr} {r2 : Rd} {rl : RdA} {pos p0 kpos : Pos} {R : RdF} {k : Nat} {f : Addr} {x kn : Str}
end
end Y
namespace Y
open PySem PySem.Spec PyProof.Rows L2 Z
/-! ### lambdas: making -/
/-- what K tells of a def that makes lambdas -/
structure LamF (K : Frg) (mg : Str → Option Value) (x : Str) : Prop where
  mem : (tabN K x, lamQ x) ∈ tabsOf K
  nd : (tabA K).Nodup
  hd : PySem.W.codeHdIn K (cdAt K (He.ga K x)) (tabN K x) = true
  bm : ∃ bm ob, mg "__builtins__" = some (.ref bm) ∧ bm ≠ builtinsNs ∧ bm ≠ mainGlobals ∧ bm ≠ tabN K x ∧ K.lookup bm = some ob ∧ ob.cls = .type "module" ∧ ob.dict = some builtinsNs ∧ ob.data = .plain
  gP : mainGlobals ≠ tabN K x
theorem LamF.tb {K : Frg} {mg : Str → Option Value} {x : Str} {base : Heap} (L : LamF K mg x) (M : L2.Mod K mg base) : LamX.TabB base mg (cdAt K (He.ga K x)) (tabN K x) := by
  obtain ⟨bm, ob, b1, b2, b3, b4, b5, b6⟩ := L.bm
  exact ⟨PySem.W.codeHd_of_K M.kin L.hd, ⟨bm, ob, b1, b2, b3, b4, M.kin _ _ b5, b6⟩, L.gP⟩
section
variable {X : Cx} {pins : List (Addr × Obj)} {σ : L2.St} {H F : Hp} {s : Shared}
end
/-! ### a larger base -/
end Y
namespace Y
open PySem PySem.Spec PyProof.Rows L2 Z
/-! ### contracts over a known frozen heap; closures -/
def spX (K : Frg) (ms : List Addr) (Fm : Hp) (R : RdF) : Sp := fun vs H Q E => ∃ F ds Qd Ed, Same Fm F ∧ Tp K ms F H ∧ Rps K ms F vs ds ∧ R ds Qd Ed ∧ (∀ v F' H' d, Go ms F H F' H' → Tp K ms F' H' → Rp K ms F' v d → Qd d → Q v H') ∧
  (∀ cls d F' H' x, Go ms F H F' H' → Tp K ms F' H' → XR K ms F' cls d x → Ed x → E cls d H')
/-- a function at fa that keeps the promise R -/
structure CloAt (P : Program) (w : World) (K : Frg) (mg : Str → Option Value) (base : Heap) (k : Nat) (fa : Addr) (ms : List Addr) (Fm : Hp) (R : RdF) : Prop where
  fo : PySem.W.FnAt fa base
  fn : FnG P w K mg base (L2.CX P w) k fa (spX K ms Fm R)
/-- the cells that a function captured, in a base -/
structure CellsB (cl : List (Str × Addr)) (fr : List Str) (ws : List (Option V)) (b2 : Heap) : Prop where
  len : ws.length = fr.length
  all : ∀ y c, cl.lookup y = some c → ∃ v, b2.IsCell c v
  inj : ∀ x y c, cl.lookup x = some c → cl.lookup y = some c → x = y
  has : ∀ (i : Nat) (y : Str), fr[i]? = some y → ∃ c, cl.lookup y = some c ∧ ∀ v, ws[i]? = some (some v) → ∃ u, L2.RelV v u ∧ b2.IsCell c (some u)
section
variable {P : Program} {w : World} {K : Frg} {mg : Str → Option Value} {b2 : Heap}
theorem CellsB.at {cl : List (Str × Addr)} {fr : List Str} {ws : List (Option V)} {A : Around} {outer : List Env} {s : Shared} {H : Hp} (C : CellsB cl fr ws b2) (e0 : Env0 P w K mg b2 A outer s H) : NdefX.CellsAt cl fr ws s.heap H :=
  ⟨C.len, fun y c e => let ⟨v, o, h1, h2⟩ := C.all y c e; ⟨(e0.bs _ _ h1).2, v, o, (e0.bs _ _ h1).1, h2⟩, C.inj, fun i y e => let ⟨c, h1, h2⟩ := C.has i y e; ⟨c, h1, fun v hv => let ⟨u, r, o, q1, q2⟩ := h2 v hv; ⟨u, r, o, (e0.bs _ _ q1).1, q2⟩⟩⟩
end
/-- what a lambda's text tells -/
structure LamT (X : Cx) (N ps fr : List Str) (js : List Nat) (q : Str) (params : Arguments) (body : Expr) (scope : Scope) : Prop where
  sc : NdefX.NScope N ps fr scope
  nn : N = ps ++ fr
  bd : ∀ (cl : List (Str × Addr)) (pm cv ctv : Value) (us : List Value), us.length = ps.length → bindArgs (PySem.W.kla_fn "<lambda>" q params body scope cl pm cv ctv) ⟨us, []⟩ = pure (ps.zip us)
  df : defaultsOf params X.env = ([], [])
  free : ∀ y ∈ scope.names, y.2 = .free → X.env.scope.names.lookup y.1 = some .cell ∨ X.env.scope.names.lookup y.1 = some .free
  frm : ∀ y ∈ fr, (y, NameKind.free) ∈ scope.names
  ix : js.map (fun j => X.N[j]?) = fr.map some
  own : ∀ y, X.fn y = true
section
variable {X : Cx} {B : Bs} {pins : List (Addr × Obj)} {σ : L2.St} {H F : Hp} {s : Shared} {ρ : Ev}
end
end Y
namespace Y
open PySem PySem.Spec PyProof.Rows L2 Z
/-! ### calls with a lambda, calls of a function that was handed in -/
section
variable {X : Cx} {B : Bs} {a e : Expr} {es : List Expr} {ra : Rd} {rl : RdA} {pos p0 lp : Pos} {k kc : Nat} {f fa : Addr} {y x q : Str} {N ps fr : List Str} {js : List Nat} {params : Arguments} {body : Expr} {scope : Scope} {r : Bs → Rd} {R2 : Addr → RdF → RdF} {ms : List Addr} {Fm : Hp} {R : RdF} {i : Nat}
/-! ### x(..), where x was handed in -/
end
/-! ### defs that are handed a function; defs that make lambdas -/
/-- the code objects of the defs that make lambdas, with their tables -/
def csOf (K : Frg) : List (Addr × Addr) := (lamNames.filter fun x => isFnB (K.lookup (He.ga K x))).map fun x => (cdAt K (He.ga K x), tabN K x)
/-- all tables that are asked for, whichever defs there are -/
def tfAll : List (Frg → Addr) := lamNames.map fun x K => if isFnB (K.lookup (He.ga K x)) then He.ga K x else He.ga K "law"
theorem cs_tf {K : Frg} {p : Addr × Addr} (h : p ∈ csOf K) : ∃ f ∈ tfAll, p = (cdAt K (f K), He.tabOf K (cdAt K (f K))) := by
  obtain ⟨x, hx, rfl⟩ := List.mem_map.mp h
  obtain ⟨h1, h2⟩ := List.mem_filter.mp hx
  refine ⟨_, List.mem_map.mpr ⟨x, h1, rfl⟩, ?_⟩
  show _ = (cdAt K (if _ then _ else _), He.tabOf K (cdAt K (if _ then _ else _)))
  rw [if_pos h2]
  rfl
theorem cs_says {q : Ask} {w : World} {h : Heap} {K : Frg} (X : K.In h) (c : Says q w h K) (e : q.tf = tfAll) : (∀ p ∈ csOf K, h.get? p.2 = some { cls := .none, data := .fields #[] }) ∧ (∀ p ∈ csOf K, K.lookup p.2 = none) ∧ ∀ p ∈ csOf K, PySem.W.CodeHd h p.1 p.2 := by
  refine ⟨fun p hp => ?_, fun p hp => ?_, fun p hp => ?_⟩ <;> obtain ⟨f, hf, rfl⟩ := cs_tf hp
  · exact c.empty f (e ▸ hf)
  · exact c.out f (e ▸ hf)
  · exact PySem.W.codeHd_of_K X (c.hd f (e ▸ hf))
theorem cs_tabs {K : Frg} {H : Hp} (h : ∀ p ∈ csOf K, H p.2 = some (.tbl #[])) : ∀ p ∈ tabsOf K, H p.1 = some (.tbl #[]) := fun p hp => by
  obtain ⟨x, hx, rfl⟩ := List.mem_map.mp hp
  exact h _ (List.mem_map.mpr ⟨x, hx, rfl⟩)
section
variable {P : Program} {w : World} {K : Frg} {mg : Str → Option Value} {base : Heap}
end
end Y
namespace Y
open PySem PySem.Spec PyProof.Rows L2 Z
/-! ### shown texts are texts of real signs -/
def okU (s : Str) : Prop := ∀ c ∈ s.cps.toList, c < 0x110000
theorem okU_iff {s : Str} : okU s ↔ PyData.strOk s = true := by
  unfold okU PyData.strOk
  rw [Array.all_eq_true']
  simp [Array.mem_toList_iff]
/-! ### s.upper() -/
/-! ### weaker promises -/
section
variable {P : Program} {w : World} {K : Frg} {mg : Str → Option Value} {base : Heap} {k : Nat} {f : Addr} {R R' : RdF} {C : Str}
end
/-! ### small data, by a check -/
mutual
def shb : D → Bool
  | .non | .bl _ => true
  | .int i => decide (i.natAbs < 18446744073709551616)
  | .str s => PyData.strOk s
  | .lst ds => shbs ds
  | .tup ds => shbs ds
  | _ => false
def shbs : List D → Bool
  | [] => true
  | d :: ds => shb d && shbs ds
end
mutual
theorem shb_ok : ∀ d : D, shb d = true → shP 0 d
  | .non, _ => trivial
  | .bl _, _ => trivial
  | .int i, h => by
    have h := of_decide_eq_true (show decide (i.natAbs < 18446744073709551616) = true from h)
    show i.natAbs < 2 ^ 1900
    exact Nat.lt_of_lt_of_le h (Nat.le_trans (show (18446744073709551616 : Nat) ≤ 2 ^ 64 by decide) (Nat.pow_le_pow_right (by decide) (by decide)))
  | .str s, h => fun c hc => Nat.lt_trans (okU_iff.mpr h c hc) (by decide)
  | .lst ds, h => shbs_ok ds h
  | .tup ds, h => shbs_ok ds h
  | .obj _ _ _, h => nomatch h
  | .ty _, h => nomatch h
  | .glob _, h => nomatch h
  | .tape, h => nomatch h
  | .fn _, h => nomatch h
  | .dic _ _, h => nomatch h
  | .dpl _ _, h => nomatch h
theorem shbs_ok : ∀ ds : List D, shbs ds = true → shPs 0 ds
  | [], _ => trivial
  | d :: ds, h => by
    obtain ⟨h1, h2⟩ := He.ba (show (shb d && shbs ds) = true from h)
    exact ⟨shb_ok d h1, shbs_ok ds h2⟩
end
end Y
namespace Y
open PySem PySem.Spec PyProof.Rows L2 Z
/-! ### s * n -/
/-! ### C.m(..), a class method -/
section
variable {X : Cx} {B : Bs} {e : Expr} {es : List Expr} {rl : RdA} {pos apos : Pos} {R : RdF} {k : Nat} {g p : Addr} {m : Str}
end
/-! ### defs with a last parameter by name alone that make lambdas -/
section
variable {P : Program} {w : World} {K : Frg} {mg : Str → Option Value} {base : Heap}
end
end Y
namespace Y
open PySem PySem.Spec PyProof.Rows L2 Z
/-! ### rows that are never reached -/
/-! ### a last parameter by name alone, whose default is an object -/
section
variable {P : Program} {w : World} {K : Frg} {mg : Str → Option Value} {base : Heap}
end
end Y
namespace Y
open PySem PySem.Spec PyProof.Rows L2 Z
/-! ### own lists that are handed out -/
section
variable {K : Frg} {B : Bs} {F H F' H' : Hp} {σ : L2.St} {ρ : Ev}
end
section
variable {X : Cx} {B : Bs} {b e : Expr} {es : List Expr} {rb r : Rd} {rl : RdA} {pos p0 : Pos} {R : RdF} {k : Nat} {f : Addr} {x : Str} {st : Stmt} {rest : List Stmt} {s1 s2 : RdS}
end
section
variable {P : Program} {w : World} {K : Frg} {mg : Str → Option Value} {base : Heap}
end
/-! ### an own list in a comparison -/
section
variable {X : Cx} {B : Bs} {b : Expr} {rb : Rd} {pos : Pos} {x : Str}
end
end Y
namespace Y
open PySem PySem.Spec PyProof.Rows L2 Z
/-! ### a comprehension whose list stays its maker's own -/
section
variable {X : Cx} {B : Bs} {a b c e o : Expr} {es : List Expr} {ra rb rc r ro : Rd} {rt ru : RdT} {rl : RdA} {pos p0 apos : Pos} {R : RdF} {k : Nat} {f C g p : Addr} {x m : Str}
end
/-! ### max and min of a list of ints -/
section
variable {K : Frg} {ms : List Addr}
end
/-! ### count of a list of texts -/
section
variable {X : Cx} {B : Bs} {o e : Expr} {ro r : Rd} {pos apos cpos : Pos}
end
end Y
namespace Y
open PySem PySem.Spec PyProof.Rows L2 Z
section
variable {X : Cx} {B : Bs} {b : Expr} {rb : Rd} {pos : Pos} {x : Str}
end
end Y
namespace Y
open PySem PySem.Spec PyProof.Rows L2 Z
/-! ### an own dict becomes plain data -/
section
variable {K : Frg} {ms : List Addr} {B : Bs} {F H : Hp} {σ : L2.St} {ρ : Ev}
theorem DRl.keys {kvs : List (List Int × D)} {xs : List (List Int × Addr × Value)} (h : DRl K ms F kvs xs) : ∃ vs, DKs K F (kvs.map (·.1)) xs vs ∧ Rps K ms F vs (kvs.map (·.2)) := by
  induction h with
  | nil => exact ⟨[], .nil, .nil⟩
  | cons h1 h2 h3 _ ih =>
    obtain ⟨vs, a, b⟩ := ih
    exact ⟨_ :: vs, .cons h1 h2 a, .cons h3 b⟩
theorem DKs.dr {ks : List (List Int)} {xs : List (List Int × Addr × Value)} {vs : List V} (h : DKs K F ks xs vs) : ∀ {ds : List D}, Rps K ms F vs ds → DRl K ms F (ks.zip ds) xs := by
  induction h with
  | nil => intro ds r; cases r; exact .nil
  | cons h1 h2 _ ih =>
    intro ds r
    cases r with
    | cons r1 r2 => exact .cons h1 h2 r1 (ih r2)
end
section
variable {X : Cx} {B : Bs} {a b c e f o : Expr} {es : List Expr} {ra rb rc r rf ro : Rd} {rt ru : RdT} {rl : RdA} {pos p0 p2 pv apos cpos : Pos} {k i : Nat} {x : Str} {s1 s2 : RdS}
/-! ### tests that change an own thing -/
/-! ### such a dict as plain data -/
end
section
variable {K : Frg} {ms : List Addr}
end
section
variable {X : Cx} {B : Bs} {e f o : Expr} {r rf ro : Rd} {pos apos cpos : Pos} {k : Nat}
end
/-! ### an own list that is lent to a test -/
section
variable {K : Frg} {ms : List Addr} {B : Bs} {F H : Hp} {σ : L2.St} {ρ : Ev}
end
section
variable {X : Cx} {B : Bs} {e : Expr} {r : Rd} {rt : RdT}
end
end Y
namespace Y
open PySem PySem.Spec PyProof.Rows L2 Z
section
variable {X : Cx} {B : Bs} {e : Expr} {r : Rd} {rl : RdA} {pos pv pos' : Pos} {x y : Str} {i j k : Nat} {s1 s2 : RdS}
/-! ### x += e -/
/-! ### expressions and iterables that change an own thing -/
end
/-! ### the keys of a dict, one by one -/
theorem DKs.sq {K : Frg} {F : Hp} {ks : List (List Int)} {xs : List (List Int × Addr × Value)} {vs : List V} (h : DKs K F ks xs vs) : (∀ x ∈ xs, SqT K F x.2.1 (x.1.map V.int)) ∧ ks = xs.map (·.1) := by
  induction h with
  | nil => exact ⟨fun x hx => (nomatch hx), rfl⟩
  | cons h1 _ _ ih =>
    refine ⟨fun x hx => ?_, by rw [List.map_cons, ih.2]⟩
    rcases List.mem_cons.mp hx with rfl | hx
    · exact h1
    · exact ih.1 x hx
section
variable {X : Cx} {B : Bs} {e o : Expr} {r ro : Rd} {rl : RdA} {pos pv pos' p0 : Pos} {x : Str} {i j k : Nat}
/-! ### len(d) -/
end
section
variable {K : Frg} {ms : List Addr}
end
/-! ### displays that make own things -/
section
variable {X : Cx} {B : Bs} {e ek ev e1 e2 e3 e4 : Expr} {es : List Expr} {r rk rv r4 : Rd} {rl : RdA} {pos pv pos' p0 : Pos} {x : Str} {i j k l : Nat}
end
end Y
namespace Y
open PySem PySem.Spec PyProof.Rows L2 Z
section
variable {X : Cx} {B : Bs} {rl : RdA} {pos pv : Pos} {x : Str} {i : Nat}
end
end Y
namespace Y
open PySem PySem.Spec PyProof.Rows L2 Z
section
variable {X : Cx} {B : Bs} {e1 e2 : Expr} {r2 : Rd} {pos p0 : Pos} {i j : Nat}
end
end Y
namespace Y
open PySem PySem.Spec PyProof.Rows L2 Z
/-! ### a place as the index of a told dict -/
section
variable {X : Cx} {B : Bs} {a b : Expr} {ra rb : Rd} {pos : Pos} {k : Nat}
end
end Y
namespace Y
open PySem PySem.Spec PyProof.Rows L2 Z
/-! ### lambdas of one parameter that a comprehension in their text reads -/
abbrev cellO : Obj := { cls := .type "cell", data := .cell none }
section
variable {M : Model} {A : Around} {E : Value → Shared → Prop} {s : Shared}
end
/-- names of a lambda of one parameter, which a comprehension reads -/
structure NScopeP (N : List Str) (p : Str) (fr : List Str) (sc : Scope) : Prop where
  kind : sc.kind = .function
  co : sc.isCoroutine = false
  gen : sc.isGenerator = false
  pre : N.take (1 + fr.length) = p :: fr
  par : sc.names.lookup p = some .cell
  one : ∀ y, sc.names.lookup y = some .cell → y = p
  free : ∀ y ∈ sc.names, y.2 = .free → y.1 ∈ fr
  frk : ∀ x ∈ fr, sc.names.lookup x = some .free
  cf : ∀ n acc, cellsFrom n sc.names acc = (p, n) :: acc
  pc : ∀ h : Heap, pushCells h sc.names = h.push cellO
section
variable {P : Program} {w : World} {K : Frg} {mg : Str → Option Value} {b2 : Heap} {N fr : List Str} {p : Str} {q : Str} {params : Arguments} {scope : Scope} {cl : List (Str × Addr)} {c' f : Addr} {A : Around} {outer : List Env} {s : Shared} {H : Hp} {E : XK} {u : Value} {v0 : V} {ws : List (Option V)}
end
section
variable {P : Program} {w : World} {K : Frg} {mg : Str → Option Value} {b2 : Heap}
end
/-- what a lambda's text tells -/
structure LamTP (X : Cx) (N : List Str) (p : Str) (fr : List Str) (js : List Nat) (q : Str) (params : Arguments) (body : Expr) (scope : Scope) : Prop where
  sc : NScopeP N p fr scope
  bd : ∀ (cl : List (Str × Addr)) (pm cv ctv : Value) (us : List Value), us.length = 1 → bindArgs (PySem.W.kla_fn "<lambda>" q params body scope cl pm cv ctv) ⟨us, []⟩ = pure ([p].zip us)
  df : defaultsOf params X.env = ([], [])
  free : ∀ y ∈ scope.names, y.2 = .free → X.env.scope.names.lookup y.1 = some .cell ∨ X.env.scope.names.lookup y.1 = some .free
  frm : ∀ y ∈ fr, (y, NameKind.free) ∈ scope.names
  ix : js.map (fun j => X.N[j]?) = fr.map some
  own : ∀ y, X.fn y = true
section
variable {X : Cx} {B : Bs} {pins : List (Addr × Obj)} {σ : L2.St} {H F : Hp} {s : Shared} {ρ : Ev}
end
section
variable {X : Cx} {B : Bs} {a e : Expr} {es : List Expr} {ra : Rd} {rl : RdA} {pos p0 lp : Pos} {k kc : Nat} {f fa : Addr} {y x q : Str} {N fr : List Str} {p : Str} {js : List Nat} {params : Arguments} {body : Expr} {scope : Scope} {r : Bs → Rd} {R2 : Addr → RdF → RdF} {ms : List Addr} {Fm : Hp} {R : RdF} {i : Nat}
end
end Y
namespace Y
open PySem PySem.Spec PyProof.Rows L2 Z
/-! ### def x(*pv, kn); def x(.., *, k1, k2); x(kn = c); x(.., k1 = a, k2 = b); x(*e) -/
section
variable {P : Program} {w : World} {K : Frg} {mg : Str → Option Value} {base : Heap}
end
section
variable {X : Cx} {B : Bs} {e e2 e3 : Expr} {es : List Expr} {r r2 r3 : Rd} {rl : RdA} {pos p0 kpos kp1 kp2 sp_ : Pos} {R : RdF} {k : Nat} {f : Addr} {x kn k1 k2 : Str}
end
end Y
namespace Y
open PySem PySem.Spec PyProof.Rows L2 Z
/-! ### an own list that a whole statement reads -/
section
variable {K : Frg} {ms : List Addr} {F H : Hp} {B : Bs}
end
section
variable {X : Cx} {B : Bs} {e : Expr} {r : Rd}
end
end Y
namespace Y
open PySem PySem.Spec PyProof.Rows L2 Z
/-! ### sorted lists of shown data -/
section
variable {K : Frg} {ms : List Addr} {F : Hp}
end
section
variable {X : Cx}
end
/-! ### the keys of a told dict, sorted -/
section
variable {X : Cx}
end
end Y
namespace Y
open PySem PySem.Spec PyProof.Rows L2 Z
/-! ### the keys of a told dict, as a list -/
section
variable {X : Cx}
end
end Y
namespace Y
open PySem PySem.Spec PyProof.Rows L2 Z
end Y
namespace Y
open PySem PySem.Spec PyProof.Rows L2 Z
/-! ### dicts with keys that are numbers or texts -/
def keyK : Key → D
  | .inl i => .int i
  | .inr s => .str s
def dicD (kds : List (Key × D)) : D := .dic (kds.map (·.1)) (kds.map (·.2))
/-- readings of pairs, in order -/
def rPairs : List (Rd × Rd) → Ev → (List (D × D) → Prop) → Prop
  | [], _, Q => Q []
  | (rk, rv) :: r, ρ, Q => rk ρ fun x => rv ρ fun y => rPairs r ρ fun ps => Q ((x, y) :: ps)
section
variable {K : Frg} {ms : List Addr} {F H : Hp}
theorem rp_key {v : V} {k : Key} (r : Rp K ms F v (keyK k)) : v = kV k := by
  cases k <;> cases r <;> rfl
theorem merge_new : ∀ (more kvs : List (Key × V)), ((kvs ++ more).map (·.1)).Nodup → mergeK kvs more = kvs ++ more
  | [], kvs, _ => by rw [List.append_nil]; rfl
  | p :: more, kvs, nd => by
    have e : putK kvs p.1 p.2 = kvs ++ [p] := by
      have np : p.1 ∉ kvs.map (·.1) := fun hm => by
        rw [List.map_append, List.nodup_append] at nd
        exact nd.2.2 _ hm _ (by simp) rfl
      unfold putK
      rw [if_neg fun e => ?_]
      obtain ⟨q, hq, e⟩ := List.any_eq_true.mp e
      exact np (by rw [← of_decide_eq_true e]; exact List.mem_map.mpr ⟨q, hq, rfl⟩)
    show mergeK (putK kvs p.1 p.2) more = _
    rw [e, merge_new more (kvs ++ [p]) (by rw [List.append_assoc]; exact nd), List.append_assoc]
    rfl
end
section
variable {X : Cx} {B : Bs} {pos cpos apos : Pos} {a e o f : Expr} {ra ro r rf : Rd}
/-- the pairs of a display -/
def PDp (X : Cx) (B : Bs) (keys : List (Option Expr)) (values : List Expr) (rs : List (Rd × Rd)) : Prop := ∀ pos, ∃ trs : List (TE × TE), PPs X pos keys values trs ∧ ∀ F ρ σ H (Qd : List (D × D) → Prop) (Q : List (V × V) → Hp → Prop), Iv X.K B F H σ ρ → rPairs rs ρ Qd →
  (∀ ps F' H' ds, Go B.ms F H F' H' → Tp X.K B.ms F' H' → Rps X.K B.ms F' (ps.map (·.1)) (ds.map (·.1)) → Rps X.K B.ms F' (ps.map (·.2)) (ds.map (·.2)) → Qd ds → Q ps H') → tPairs trs σ H Q
theorem pd_nil : PDp X B [] [] [] := fun pos => ⟨[], pps_nil, fun F ρ σ H Qd Q J z k => k [] F H [] (Go.refl J.same) J.tp .nil .nil z⟩
theorem pd_cons {k v : Expr} {ks : List (Option Expr)} {vs : List Expr} {rk rv : Rd} {rs : List (Rd × Rd)} (hk : PEp X B k rk) (hv : PEp X B v rv) (hr : PDp X B ks vs rs) : PDp X B (some k :: ks) (v :: vs) ((rk, rv) :: rs) := fun pos => by
  obtain ⟨trs, h1, h2⟩ := hr pos
  refine ⟨_, pps_cons hk hv h1, fun F ρ σ H Qd Q J z kk => ?_⟩
  refine ⟨F, ρ, _, J, z, fun x F1 H1 d g1 t1 r1 z1 => ?_⟩
  refine ⟨F1, ρ, _, J.step g1 t1, z1, fun y F2 H2 d2 g2 t2 r2 z2 => ?_⟩
  exact h2 F2 ρ σ H2 _ _ ((J.step g1 t1).step g2 t2) z2 fun ps F3 H3 ds g3 t3 r3 r4 z3 => kk ((x, y) :: ps) F3 H3 ((d, d2) :: ds) ((g1.trans g2).trans g3) t3 (.cons (r1.up (g2.trans g3).ff) r3) (.cons (r2.up g3.ff) r4) z3
theorem rps_keys {K : Frg} {ms : List Addr} {F : Hp} : ∀ {kds : List (Key × D)} {vs : List V}, Rps K ms F vs (kds.map fun q => keyK q.1) → vs = kds.map fun q => kV q.1
  | [], vs, r => by
    cases r
    rfl
  | q :: kds, vs, r => by
    cases r with
    | cons h t => rw [rp_key h, rps_keys t]; rfl
theorem zip_pairs : ∀ (kds : List (Key × D)) (ps : List (V × V)), ps.map (·.1) = kds.map (fun q => kV q.1) → ps = ((kds.map (·.1)).zip (ps.map (·.2))).map fun kv => (kV kv.1, kv.2)
  | [], [], _ => rfl
  | [], _ :: _, h => nomatch h
  | _ :: _, [], h => nomatch h
  | q :: kds, p :: ps, h => by
    obtain ⟨h1, h2⟩ := List.cons.inj h
    rw [List.map_cons, List.map_cons, List.zip_cons_cons, List.map_cons, ← zip_pairs kds ps h2]
    show p :: ps = (kV q.1, p.2) :: ps
    rw [← (show p.1 = kV q.1 from h1)]
/-- {k: v, ..} -/
theorem y_disp {keys : List (Option Expr)} {values : List Expr} {rs : List (Rd × Rd)} (h : PDp X B keys values rs) (hall : keys.all (·.isSome) = true := by rfl) (hl : keys.length = values.length := by rfl) (h0 : keys ≠ [] := by simp) (h15 : keys.length ≤ 15 := by decide) :
    PEp X B (.Dict keys values pos) (fun ρ Q => rPairs rs ρ fun ps => ∃ kds : List (Key × D), ps = kds.map (fun q => (keyK q.1, q.2)) ∧ ((kds.map (·.1)).Nodup ∧ kds.length ≤ 15) ∧ Q (dicD kds)) := by
  obtain ⟨trs, h1, h2⟩ := h pos
  refine ⟨fun pins s σ H Q I ⟨F, ρ, Qd, J, z, k⟩ => ?_⟩
  refine thn ((pe_disp h1 hall hl h0 h15).run pins s σ H (fun v H1 => ∃ (p : Addr) (F2 H2 : Hp) (vs : List V) (kds : List (Key × D)), v = .ref p ∧ H p = none ∧ p ∉ B.ms ∧ H1 = upd H2 p (.dK ((kds.map (·.1)).zip vs)) ∧ F2 p = none ∧ Go B.ms F H F2 H1 ∧ Tp X.K B.ms F2 H1 ∧ Rps X.K B.ms F2 vs (kds.map (·.2)) ∧ Qd (dicD kds)) I fun p hp => ?_) fun u s1 ⟨v, H1, I1, rv, p, F2, H2, vs, kds, ev, hp, pm, eH, fp, g, t, r1, q⟩ => ?_
  · have pm : p ∉ B.ms := fun m => J.tp.ne m hp
    obtain ⟨gm, fp, _⟩ := newM (o := HO.dK []) J.same hp rfl
    refine h2 F ρ σ _ _ _ (J.step gm.nil (J.tp.go0 gm)) z fun ps F2 H2 ds g2 t2 r1 r2 ⟨kds, ed, ⟨nd, l15⟩, z2⟩ => ?_
    subst ed
    rw [List.map_map] at r1 r2
    obtain ⟨f2, hp2⟩ := g2.mu p _ pm fp upd_same
    have ek : ps.map (·.1) = kds.map fun q => kV q.1 := rps_keys r1
    have ln : ps.length = kds.length := by
      have := congrArg List.length ek
      simpa using this
    have l2 : (kds.map (·.1)).length = (ps.map (·.2)).length := by simp [ln]
    have ef : ((kds.map (·.1)).zip (ps.map (·.2))).map (·.1) = kds.map (·.1) := by
      rw [List.map_fst_zip (by omega)]
    refine ⟨hp2, (kds.map (·.1)).zip (ps.map (·.2)), ?_, by rw [List.length_zip]; simp; omega, p, F2, H2, ps.map (·.2), kds, rfl, hp, pm, ?_, f2, ?_, ?_, r2, z2⟩
    · exact zip_pairs kds ps ek
    · rw [merge_new _ [] (by rw [List.nil_append, ef]; exact nd)]
      rfl
    · have gg := gm.nil.trans g2
      refine ⟨gg.ff, fun b u e => ?_, fun b u nm e1 e2 => ?_⟩
      · rw [upd_ne (fun z => by rw [z, f2] at e; cases e)]
        exact gg.fh b u e
      · obtain ⟨q1, q2⟩ := gg.mu b u nm e1 e2
        exact ⟨q1, by rw [upd_ne (fun z => by rw [z, hp] at e2; cases e2)]; exact q2⟩
    · exact t2.gox (Z.putM t2.1 f2 rfl).1 pm
  subst ev eH
  obtain ⟨od, I2⟩ := I1.lock upd_same trivial
  rw [upd_upd] at I2
  have sF : ∀ b u, F2 b = some u → b ≠ p := fun b u e z => by rw [z, fp] at e; cases e
  refine ⟨.ref p, _, I2, rv, k _ (upd F2 p (.frz od (.dK ((kds.map (·.1)).zip vs)))) _ (dicD kds) ⟨fun b u e => ?_, fun b u e => ?_, fun b u nm e1 e2 => ?_⟩ ?_ (.dic upd_same (by rw [List.length_map, r1.len, List.length_map]) (r1.up fun b u e => ?_)) q⟩
  · rw [upd_ne (sF b u (g.ff b u e))]
    exact g.ff b u e
  · by_cases z : b = p
    · subst z
      rw [upd_same] at e ⊢
      exact e
    · rw [upd_ne z] at e ⊢
      have := g.fh b u e
      rw [upd_ne z] at this
      exact this
  · have z : b ≠ p := fun z => by rw [z, hp] at e2; cases e2
    obtain ⟨q1, q2⟩ := g.mu b u nm e1 e2
    rw [upd_ne z] at q2
    exact ⟨by rw [upd_ne z]; exact q1, by rw [upd_ne z]; exact q2⟩
  · have gp : Go [p] F2 (upd H2 p (.dK ((kds.map (·.1)).zip vs))) (upd F2 p (.frz od (.dK ((kds.map (·.1)).zip vs)))) (upd H2 p (.frz od (.dK ((kds.map (·.1)).zip vs)))) := by
      refine ⟨fun b u e => ?_, fun b u e => ?_, fun b u nm e1 e2 => ?_⟩
      · rw [upd_ne (sF b u e)]
        exact e
      · by_cases z : b = p
        · subst z
          rw [upd_same] at e ⊢
          exact e
        · rw [upd_ne z] at e ⊢
          have := g.fh b u e
          rw [upd_ne z] at this
          exact this
      · have z : b ≠ p := fun z => nm (by simp [z])
        rw [upd_ne z] at e2
        exact ⟨by rw [upd_ne z]; exact e1, by rw [upd_ne z]; exact e2⟩
    exact t.gox gp pm
  · rw [upd_ne (sF b u e)]
    exact e
/-- the value that a key finds -/
def lookK (kds : List (Key × D)) (k : Key) : Option D := (kds.find? fun q => decide (q.1 = k)).map (·.2)
end
end Y
namespace Y
open PySem PySem.Spec PyProof.Rows L2 Z
/-! ### own dicts whose keys are numbers or texts -/
/-- in its place, or at the end -/
def putP (kds : List (Key × D)) (k : Key) (d : D) : List (Key × D) := if (kds.any fun q => decide (q.1 = k)) = true then kds.map (fun q => if q.1 = k then (q.1, d) else q) else kds ++ [(k, d)]
section
variable {K : Frg} {ms : List Addr} {F : Hp} {kvs : List (Key × V)} {kds : List (Key × D)}
theorem Rkd.any (h : Rkd K ms F kvs kds) (k : Key) : (kvs.any fun q => decide (q.1 = k)) = kds.any fun q => decide (q.1 = k) := by
  induction h with
  | nil => rfl
  | cons _ _ ih => rw [List.any_cons, List.any_cons, ih]
theorem Rkd.app {kvs' : List (Key × V)} {kds' : List (Key × D)} (h : Rkd K ms F kvs kds) (h' : Rkd K ms F kvs' kds') : Rkd K ms F (kvs ++ kvs') (kds ++ kds') := by
  induction h with
  | nil => exact h'
  | cons h1 _ ih => exact .cons h1 ih
theorem Rkd.mapPut {k : Key} {v : V} {d : D} (h : Rkd K ms F kvs kds) (r : Rp K ms F v d) : Rkd K ms F (kvs.map fun q => if q.1 = k then (q.1, v) else q) (kds.map fun q => if q.1 = k then (q.1, d) else q) := by
  induction h with
  | nil => exact .nil
  | @cons j w e _ _ h1 _ ih =>
    rw [List.map_cons, List.map_cons]
    by_cases z : j = k
    · rw [if_pos z, if_pos z]
      exact .cons r ih
    · rw [if_neg z, if_neg z]
      exact .cons h1 ih
theorem Rkd.put {k : Key} {v : V} {d : D} (h : Rkd K ms F kvs kds) (r : Rp K ms F v d) : Rkd K ms F (putK kvs k v) (putP kds k d) := by
  unfold putK putP
  rw [← h.any k]
  by_cases z : (kvs.any fun q => decide (q.1 = k)) = true
  · rw [if_pos z, if_pos z]
    exact h.mapPut r
  · rw [if_neg z, if_neg z]
    exact h.app (.cons r .nil)
theorem Rkd.get (h : Rkd K ms F kvs kds) (k : Key) : (∃ v d, valV kvs k = some v ∧ lookK kds k = some d ∧ Rp K ms F v d) ∨ (valV kvs k = none ∧ lookK kds k = none) := by
  induction h with
  | nil => exact .inr ⟨rfl, rfl⟩
  | @cons j w e kvs kds h1 _ ih =>
    by_cases z : j = k
    · refine .inl ⟨w, e, valV_pos z, ?_, h1⟩
      unfold lookK
      rw [List.find?_cons]
      simp [z]
    · rw [valV_neg (p := (j, w)) z]
      have : lookK ((j, e) :: kds) k = lookK kds k := by
        unfold lookK
        rw [List.find?_cons]
        simp [z]
      rw [this]
      exact ih
theorem Rkd.len (h : Rkd K ms F kvs kds) : kvs.length = kds.length := by
  induction h with
  | nil => rfl
  | cons _ _ ih => rw [List.length_cons, List.length_cons, ih]
theorem Rkd.zip (h : Rkd K ms F kvs kds) : ∃ vs, kvs = (kds.map (·.1)).zip vs ∧ (kds.map (·.1)).length = vs.length ∧ Rps K ms F vs (kds.map (·.2)) := by
  induction h with
  | nil => exact ⟨[], rfl, rfl, .nil⟩
  | @cons j w e kvs kds h1 _ ih =>
    obtain ⟨vs, e1, e2, e3⟩ := ih
    exact ⟨w :: vs, by rw [e1]; rfl, by rw [List.map_cons, List.length_cons, e2]; rfl, .cons h1 e3⟩
end
/-! ### a dict comprehension -/
section
variable {X : Cx} {B : Bs} {e o : Expr} {es : List Expr} {r : Rd} {rt : RdT} {rl : RdA} {pos p0 pv pos' apos cpos : Pos} {R : RdF} {k i : Nat} {f : Addr} {x : Str} {st : Stmt} {rest : List Stmt} {s1 s2 : RdS}
end
end Y
namespace Y
open PySem PySem.Spec PyProof.Rows L2 Z
/-! ### own things that are handed out -/
section
variable {ms : List Addr} {F H F2 H1 : Hp} {p : Addr} {u : HO}
theorem Rkd.told {K : Frg} {kvs : List (Key × V)} {kds : List (Key × D)} {o : Obj} (h : Rkd K ms F kvs kds) (e : F p = some (.frz o (.dK kvs))) : Rp K ms F (.ref p) (dicD kds) := by
  obtain ⟨vs, e1, e2, e3⟩ := h.zip
  rw [e1] at e
  exact .dic e e2 e3
end
section
variable {X : Cx} {B : Bs} {b e o : Expr} {es : List Expr} {rb r : Rd} {rm : Ev → (Mo → Prop) → Prop} {rl : RdA} {pos p0 pv pos' apos cpos : Pos} {R : RdF} {k i : Nat} {f : Addr} {x : Str} {st : Stmt} {rest : List Stmt} {s1 s2 : RdS}
end
end Y
namespace Y
open PySem PySem.Spec PyProof.Rows L2 Z
/-! ### a def that hands out an own thing -/
section
variable {P : Program} {w : World} {K : Frg} {mg : Str → Option Value} {base : Heap}
end
/-! ### list(d.items()) of an own dict -/
section
variable {X : Cx} {B : Bs} {b e o : Expr} {es : List Expr} {rb r : Rd} {rl : RdA} {pos p0 pv apos cpos : Pos} {R : RdF} {k i : Nat} {f : Addr} {x : Str}
end
/-! ### dict(..) of a list of pairs, told -/
/-! ### repr of a dict -/
def shK : Key → PyData
  | .inl i => .int i
  | .inr s => .str s
def flD : D → Prop
  | .non => True
  | .bl _ => True
  | .int i => Sz 1900 i
  | .str s => ∀ c ∈ s.cps.toList, c < 16 ^ 8
  | _ => False
theorem flD.sh {d : D} {n : Nat} (h : flD d) : shP n d := by cases d <;> first | exact h | exact h.elim
def flK : Key → Prop
  | .inl i => Sz 1900 i
  | .inr s => ∀ c ∈ s.cps.toList, c < 16 ^ 8
def kvPy (ks : List Key) (ds : List D) : PyData := .dict ((ks.zip ds).map fun q => (shK q.1, toP q.2))
section
variable {X : Cx} {pins : List (Addr × Obj)} {σ : L2.St} {H F : Hp} {s : Shared} {ms : List Addr}
theorem keys_read {P : Program} {w : World} {h : Heap} : ∀ {es : List DictEntry} {vs : List (Key × Value)}, Pairs (mixKind P w) es vs → ReadsAll h (es.map (·.key)) (vs.map fun q => shK q.1) []
  | _, _, .nil => .nil
  | _, _, @Pairs.cons _ _ _ _ _ e kv es kvs h1 h2 h3 => by
    have ih := keys_read (h := h) h3
    have rk : RelV (kV kv.1) e.key := relV_key (show keyIs kv.1 e.key = true from h1)
    rw [List.map_cons, List.map_cons]
    refine ReadsAll.cons (as := []) (bs := []) ?_ ih
    revert rk
    cases kv.1 with
    | inl i => intro rk; obtain ⟨t, e⟩ := (show ∃ t, _ = Value.int i t from rk); rw [e]; exact .int i t
    | inr x => intro rk; obtain ⟨t, e⟩ := (show ∃ t, _ = Value.str x t from rk); rw [e]; exact .str x t
theorem fl_read {h : Heap} {v : V} {d : D} {u : Value} (f : flD d) (r : Rp X.K ms F v d) (e : RelV v u) : Reads h u (toP d) [] := by
  cases d with
  | non =>
    cases r
    obtain rfl : u = Value.none := e
    exact .none
  | bl b =>
    cases r
    obtain rfl : u = Value.bool b := e
    exact .bool b
  | int i =>
    cases r
    obtain ⟨t, rfl⟩ := (show ∃ t, u = Value.int i t from e)
    exact .int i t
  | str x =>
    cases r
    obtain ⟨t, rfl⟩ := (show ∃ t, u = Value.str x t from e)
    exact .str x t
  | _ => exact f.elim
theorem vals_read {P : Program} {w : World} {h : Heap} {ks : List Key} : ∀ {es : List DictEntry} {vs : List (Key × Value)} {kvs : List (Key × V)} {ds : List D}, Pairs (mixKind P w) es vs → KV kvs vs → Rps X.K ms F (kvs.map (·.2)) ds → (∀ x ∈ ds, flD x) → ReadsAll h (es.map (·.val)) (ds.map toP) []
  | _, _, _, _, .nil, kv, r, f => by
    cases kv
    cases r
    exact .nil
  | _, _, _, _, @Pairs.cons _ _ _ _ _ e q es qs h1 h2 h3, kv, r, f => by
    cases kv with
    | cons k1 k2 =>
      cases r with
      | cons r1 r2 =>
        have ih := vals_read (h := h) (ks := ks) h3 k2 r2 fun x hx => f x (List.mem_cons_of_mem _ hx)
        rw [List.map_cons, List.map_cons]
        refine ReadsAll.cons (as := []) (bs := []) ?_ ih
        rw [h2]
        exact fl_read (f _ List.mem_cons_self) r1 k1.2
theorem kv_fst {kvs : List (Key × V)} {vs : List (Key × Value)} (h : KV kvs vs) : vs.map (·.1) = kvs.map (·.1) := by
  induction h with
  | nil => rfl
  | cons h _ ih => rw [List.map_cons, List.map_cons, ih, h.1]
theorem kv_short {ks : List Key} : ∀ {ds : List D}, (∀ k ∈ ks, flK k) → (∀ x ∈ ds, flD x) → PyData.leavesShort 1921 (kvPy ks ds) = true ∧ PyData.showable (kvPy ks ds) = true := by
  induction ks with
  | nil => intro ds _ _; exact ⟨rfl, rfl⟩
  | cons k ks ih =>
    intro ds hk hd
    cases ds with
    | nil => exact ⟨rfl, rfl⟩
    | cons d ds =>
      obtain ⟨a, b⟩ := ih (fun k' h => hk k' (List.mem_cons_of_mem _ h)) (fun x h => hd x (List.mem_cons_of_mem _ h))
      have f := hd d List.mem_cons_self
      have fk := hk k List.mem_cons_self
      have k1 : (shK k).leavesShort 1921 = true ∧ (shK k).showable = true := by
        cases k with
        | inl i => exact ⟨decide_eq_true (int_text_len_1921 (sz1900 fk)), decide_eq_true (sz1900 fk)⟩
        | inr s => exact ⟨List.all_eq_true.mpr fun c hc => decide_eq_true (fk c hc), rfl⟩
      have d1 := sh_short (n := 0) d f.sh
      have d2 := sh_able (n := 0) d f.sh
      refine ⟨?_, ?_⟩
      · show ((shK k).leavesShort 1921 && (toP d).leavesShort 1921 && PyData.leavesShortKv 1921 ((ks.zip ds).map fun q => (shK q.1, toP q.2))) = true
        rw [k1.1, d1]
        exact a
      · show ((shK k).showable && (toP d).showable && PyData.showableKv ((ks.zip ds).map fun q => (shK q.1, toP q.2))) = true
        rw [k1.2, d2]
        exact b
end
/-! ### == of two told dicts that are equal -/
section
variable {X : Cx} {pins : List (Addr × Obj)} {σ : L2.St} {H : Hp} {s : Shared}
end
/-! ### len of a told dict -/
end Y
namespace Y
open PySem PySem.Spec PyProof.Rows L2 Z
/-! ### own dicts whose keys are tuples of numbers and texts -/
def lookZ (kvs : List (List Key × D)) (k : List Key) : Option D := (kvs.find? fun kv => decide (kv.1 = k)).map (·.2)
def putZ (kvs : List (List Key × D)) (k : List Key) (d : D) : List (List Key × D) := if (lookZ kvs k).isSome then kvs.map (fun kv => if kv.1 = k then (kv.1, d) else kv) else kvs ++ [(k, d)]
section
variable {K : Frg} {ms : List Addr} {F : Hp}
theorem DRk.len {kvs : List (List Key × D)} {xs : List (List Key × Addr × Value)} (h : DRk K ms F kvs xs) : kvs.length = xs.length := by
  induction h with
  | nil => rfl
  | cons _ _ _ _ ih => rw [List.length_cons, List.length_cons, ih]
theorem DRk.look {kvs : List (List Key × D)} {xs : List (List Key × Addr × Value)} (h : DRk K ms F kvs xs) (k : List Key) : (lookZ kvs k = none ∧ atKey xs k = none) ∨ ∃ d p v, lookZ kvs k = some d ∧ atKey xs k = some p ∧ RelV v p.2 ∧ Rp K ms F v d := by
  induction h with
  | nil => exact .inl ⟨rfl, rfl⟩
  | @cons k' b u v d kvs xs h1 h2 h3 _ ih =>
    by_cases e : k' = k
    · refine .inr ⟨d, (b, u), v, ?_, ?_, h2, h3⟩
      · unfold lookZ; rw [List.find?_cons_of_pos (by exact decide_eq_true e)]; rfl
      · unfold atKey; rw [List.find?_cons_of_pos (by exact decide_eq_true e)]; rfl
    · have e1 : lookZ ((k', d) :: kvs) k = lookZ kvs k := by unfold lookZ; rw [List.find?_cons_of_neg (by simpa using e)]
      have e2 : atKey ((k', b, u) :: xs) k = atKey xs k := by unfold atKey; rw [List.find?_cons_of_neg (by simpa using e)]
      rw [e1, e2]
      exact ih
theorem DRk.some {kvs : List (List Key × D)} {xs : List (List Key × Addr × Value)} (h : DRk K ms F kvs xs) (k : List Key) : (lookZ kvs k).isSome = (atKey xs k).isSome := by
  rcases h.look k with ⟨e1, e2⟩ | ⟨d, x, v, e1, e2, _⟩
  · rw [e1, e2]; rfl
  · rw [e1, e2]; rfl
theorem DRk.app {kvs kvs' : List (List Key × D)} {xs xs' : List (List Key × Addr × Value)} (h : DRk K ms F kvs xs) (h' : DRk K ms F kvs' xs') : DRk K ms F (kvs ++ kvs') (xs ++ xs') := by
  induction h with
  | nil => exact h'
  | cons a b c _ ih => exact .cons a b c ih
theorem DRk.mapPut {kvs : List (List Key × D)} {xs : List (List Key × Addr × Value)} {k : List Key} {u : Value} {v : V} {d : D} (h : DRk K ms F kvs xs) (hu : RelV v u) (hd : Rp K ms F v d) : DRk K ms F (kvs.map fun kv => if kv.1 = k then (kv.1, d) else kv) (xs.map (putAt k u)) := by
  induction h with
  | nil => exact .nil
  | @cons k' b' u' v' d' kvs xs h1 h2 h3 _ ih =>
    rw [List.map_cons, List.map_cons]
    unfold putAt
    by_cases e : k' = k
    · rw [if_pos e, if_pos e]
      exact .cons h1 hu hd ih
    · rw [if_neg e, if_neg e]
      exact .cons h1 h2 h3 ih
theorem DRk.put {kvs : List (List Key × D)} {xs : List (List Key × Addr × Value)} (h : DRk K ms F kvs xs) {k : List Key} {b : Addr} {u : Value} {v : V} {d : D} (hb : SqT K F b (k.map kV)) (hu : RelV v u) (hd : Rp K ms F v d) : DRk K ms F (putZ kvs k d) (storedH xs k b u) := by
  unfold putZ storedH
  rw [h.some k]
  split
  · exact h.mapPut hu hd
  · exact h.app (.cons hb hu hd .nil)
end
section
variable {X : Cx} {B : Bs} {pins : List (Addr × Obj)} {σ : L2.St} {H F : Hp} {s : Shared}
end
/-! ### the rules -/
section
variable {X : Cx} {B : Bs} {e ev : Expr} {r rv : Rd} {pos p0 pv pos' tpos : Pos} {x : Str} {i k : Nat}
end
section
variable {X : Cx} {B : Bs} {b e f : Expr} {rb r rf : Rd} {pos p0 pv pos' tpos apos cpos p2 : Pos} {x : Str} {i k : Nat}
end
end Y
namespace MN
/-- what a list of shifts spans -/
inductive Sp (S : List (Int × Int)) : Int → Int → Prop
  | zero : Sp S 0 0
  | add {u v x y : Int} (k : Int) : (u, v) ∈ S → Sp S x y → Sp S (x + k * u) (y + k * v)
theorem Sp.cast {S : List (Int × Int)} {x y x' y' : Int} (h : Sp S x y) (e1 : x' = x) (e2 : y' = y) : Sp S x' y' := by rw [e1, e2]; exact h
theorem Sp.gen {S : List (Int × Int)} {u v : Int} (h : (u, v) ∈ S) : Sp S u v := (Sp.add 1 h .zero).cast (by omega) (by omega)
theorem Sp.sum {S : List (Int × Int)} {x y x' y' : Int} (h : Sp S x y) (h' : Sp S x' y') : Sp S (x + x') (y + y') := by
  induction h with
  | zero => exact h'.cast (by omega) (by omega)
  | add k m _ ih => exact (Sp.add k m ih).cast (by omega) (by omega)
theorem Sp.smul {S : List (Int × Int)} {x y : Int} (n : Int) (h : Sp S x y) : Sp S (n * x) (n * y) := by
  induction h with
  | zero => exact Sp.zero.cast (by omega) (by omega)
  | add k m _ ih => exact (Sp.add (n * k) m ih).cast (by grind) (by grind)
theorem Sp.sub {S : List (Int × Int)} {x y x' y' : Int} (h : Sp S x y) (h' : Sp S x' y') : Sp S (x - x') (y - y') := (h.sum (h'.smul (-1))).cast (by omega) (by omega)
theorem Sp.le {S S' : List (Int × Int)} (g : ∀ u v, (u, v) ∈ S → Sp S' u v) {x y : Int} (h : Sp S x y) : Sp S' x y := by
  induction h with
  | zero => exact .zero
  | add k m _ ih => exact ih.sum ((g _ _ m).smul k)
/-- two lists span the same -/
def Eqv (S S' : List (Int × Int)) : Prop := ∀ x y, Sp S x y ↔ Sp S' x y
theorem Eqv.refl (S : List (Int × Int)) : Eqv S S := fun _ _ => Iff.rfl
theorem Eqv.symm {S S' : List (Int × Int)} (h : Eqv S S') : Eqv S' S := fun x y => (h x y).symm
theorem Eqv.trans {S S' S'' : List (Int × Int)} (h : Eqv S S') (h' : Eqv S' S'') : Eqv S S'' := fun x y => (h x y).trans (h' x y)
theorem Eqv.of {S S' : List (Int × Int)} (g : ∀ u v, (u, v) ∈ S → Sp S' u v) (g' : ∀ u v, (u, v) ∈ S' → Sp S u v) : Eqv S S' := fun _ _ => ⟨Sp.le g, Sp.le g'⟩
/-- numbers of a net -/
def Ok (a b c : Int) : Prop := 1 ≤ c ∧ 0 ≤ b ∧ b < a
/-- the answer about a list of shifts -/
def Form (S : List (Int × Int)) : Option (Int × Int × Int) → Prop
  | none => ∀ a b c, Ok a b c → ¬ (Sp S a 0 ∧ Sp S b c)
  | some (a, b, c) => Ok a b c ∧ ∀ x y, InN a b c x y ↔ Sp S x y
end MN
namespace MN
/-! ### Euclid's way with shifts: sizes and spans -/
def wgt (c y : Int) : Nat := c.natAbs + (if c * y < 0 then 2 * y.natAbs else 0)
structure Eu (M Y : Nat) (b c x y : Int) : Prop where
  phi : b.natAbs * y.natAbs + x.natAbs * wgt c y ≤ M
  hb : b.natAbs ≤ M
  hx : x.natAbs ≤ M
  hc : c.natAbs ≤ Y
  hy : y.natAbs ≤ Y
theorem fdiv_facts {c y : Int} (h : y ≠ 0) : (c - c.fdiv y * y).natAbs < y.natAbs ∧ 0 ≤ y * (c - c.fdiv y * y) ∧ (c - c.fdiv y * y).natAbs + (c.fdiv y).natAbs * y.natAbs ≤ wgt c y := by
  have e := Int.fmod_add_mul_fdiv c y
  have er : c - c.fdiv y * y = c.fmod y := by rw [Int.mul_comm]; omega
  rw [er]
  generalize hr : c.fmod y = r at *
  generalize ht : c.fdiv y = t at *
  rcases Int.lt_or_gt_of_ne h with hy | hy
  · have h12 : y < r ∧ r ≤ 0 := by
      rw [← hr, Int.fmod_eq_emod]
      have e1 := Int.emod_nonneg c (show y ≠ 0 by omega)
      have e2 := Int.emod_lt_of_neg c hy
      split
      · rename_i q
        rcases q with q | q
        · omega
        · have := Int.emod_eq_zero_of_dvd q
          omega
      · rename_i q
        have : c % y ≠ 0 := fun z => q (.inr (Int.dvd_of_emod_eq_zero z))
        omega
    obtain ⟨h1, h2⟩ := h12
    have k1 : 0 ≤ y * r := by
      have := Int.mul_nonneg (a := -y) (b := -r) (by omega) (by omega)
      rwa [Int.neg_mul_neg] at this
    refine ⟨by omega, k1, ?_⟩
    unfold wgt
    have nt : t.natAbs * y.natAbs = (t * y).natAbs := (Int.natAbs_mul t y).symm
    rw [nt]
    have ec : t * y = c - r := by rw [Int.mul_comm]; omega
    rw [ec]
    by_cases hcy : c * y < 0
    · rw [if_pos hcy]
      omega
    · rw [if_neg hcy]
      have hc0 : c ≤ 0 := by
        rcases Int.lt_or_le 0 c with z | z
        · exact absurd (Int.mul_neg_of_pos_of_neg z hy) hcy
        · exact z
      have t0 : 0 ≤ t := by
        rcases Int.lt_or_le t 0 with z | z
        · have : y * t ≥ -y := by
            have := Int.mul_le_mul_of_nonneg_left (a := t) (b := -1) (c := -y) (by omega) (by omega)
            simp only [Int.neg_mul, Int.mul_neg, Int.mul_one] at this
            omega
          omega
        · exact z
      have : y * t ≤ 0 := by
        have := Int.mul_nonneg (a := -y) (b := t) (by omega) t0
        rw [Int.neg_mul] at this
        omega
      omega
  · have h1 : r < y := by rw [← hr]; exact Int.fmod_lt_of_pos c hy
    have h2 : 0 ≤ r := by rw [← hr]; exact Int.fmod_nonneg_of_pos c hy
    have k1 : 0 ≤ y * r := Int.mul_nonneg (by omega) h2
    refine ⟨by omega, k1, ?_⟩
    unfold wgt
    have nt : t.natAbs * y.natAbs = (t * y).natAbs := (Int.natAbs_mul t y).symm
    rw [nt]
    have ec : t * y = c - r := by rw [Int.mul_comm]; omega
    rw [ec]
    by_cases hcy : c * y < 0
    · rw [if_pos hcy]
      omega
    · rw [if_neg hcy]
      have hc0 : 0 ≤ c := by
        rcases Int.lt_or_le c 0 with z | z
        · exact absurd (Int.mul_neg_of_neg_of_pos z hy) hcy
        · exact z
      have t0 : 0 ≤ t := by
        rcases Int.lt_or_le t 0 with z | z
        · have : y * t ≤ -y := by
            have := Int.mul_le_mul_of_nonneg_left (a := t) (b := -1) (c := y) (by omega) (by omega)
            omega
          omega
        · exact z
      have : 0 ≤ y * t := Int.mul_nonneg (by omega) t0
      omega
theorem Eu.step {M Y : Nat} {b c x y : Int} (h : Eu M Y b c x y) (hy : y ≠ 0) : Eu M Y x y (b - c.fdiv y * x) (c - c.fdiv y * y) := by
  obtain ⟨f1, f2, f3⟩ := fdiv_facts (c := c) hy
  obtain ⟨p, hb, hx, hc, hyy⟩ := h
  have w' : wgt y (c - c.fdiv y * y) = y.natAbs := by unfold wgt; rw [if_neg (by omega)]; omega
  have ex : (b - c.fdiv y * x).natAbs ≤ b.natAbs + (c.fdiv y).natAbs * x.natAbs := by
    have := Int.natAbs_sub_le b (c.fdiv y * x)
    rw [Int.natAbs_mul] at this
    exact this
  have ph : x.natAbs * (c - c.fdiv y * y).natAbs + (b - c.fdiv y * x).natAbs * y.natAbs ≤ M := by
    have m1 : (b - c.fdiv y * x).natAbs * y.natAbs ≤ (b.natAbs + (c.fdiv y).natAbs * x.natAbs) * y.natAbs := Nat.mul_le_mul_right _ ex
    have m2 : x.natAbs * ((c - c.fdiv y * y).natAbs + (c.fdiv y).natAbs * y.natAbs) ≤ x.natAbs * wgt c y := Nat.mul_le_mul_left _ f3
    have m3 : (b.natAbs + (c.fdiv y).natAbs * x.natAbs) * y.natAbs = b.natAbs * y.natAbs + x.natAbs * ((c.fdiv y).natAbs * y.natAbs) := by
      rw [Nat.add_mul, Nat.mul_comm (c.fdiv y).natAbs x.natAbs, Nat.mul_assoc]
    have m4 : x.natAbs * ((c - c.fdiv y * y).natAbs + (c.fdiv y).natAbs * y.natAbs) = x.natAbs * (c - c.fdiv y * y).natAbs + x.natAbs * ((c.fdiv y).natAbs * y.natAbs) := Nat.mul_add _ _ _
    omega
  have y1 : 1 ≤ y.natAbs := by omega
  refine ⟨by rw [w']; exact ph, hx, ?_, hyy, by omega⟩
  have := Nat.le_mul_of_pos_right (b - c.fdiv y * x).natAbs (show 0 < y.natAbs by omega)
  omega
theorem Eu.start {m n : Nat} {b c x y : Int} (hm : n + 1 ≤ m) (hb : b.natAbs ≤ 2 ^ m) (hc : c.natAbs ≤ 2 ^ n) (hx : x.natAbs ≤ 2 ^ n) (hy : y.natAbs ≤ 2 ^ n) : Eu (2 ^ (m + n + 2)) (2 ^ n) b c x y := by
  have p1 : 2 ^ m ≤ 2 ^ (m + n + 2) := Nat.pow_le_pow_right (by decide) (by omega)
  have p2 : 2 ^ n ≤ 2 ^ (m + n + 2) := Nat.pow_le_pow_right (by decide) (by omega)
  have w : wgt c y ≤ 3 * 2 ^ n := by
    unfold wgt
    split <;> omega
  have q1 : b.natAbs * y.natAbs ≤ 2 ^ (m + n) := by
    rw [Nat.pow_add]
    exact Nat.mul_le_mul hb hy
  have q2 : x.natAbs * wgt c y ≤ 2 ^ n * (3 * 2 ^ n) := Nat.mul_le_mul hx w
  have q3 : 2 ^ n * (3 * 2 ^ n) ≤ 3 * 2 ^ (m + n) := by
    have : 2 ^ n * 2 ^ n ≤ 2 ^ (m + n) := by
      rw [← Nat.pow_add]
      exact Nat.pow_le_pow_right (by decide) (by omega)
    have e : 2 ^ n * (3 * 2 ^ n) = 3 * (2 ^ n * 2 ^ n) := by rw [Nat.mul_left_comm]
    omega
  have q4 : 2 ^ (m + n + 2) = 4 * 2 ^ (m + n) := by rw [Nat.pow_add, Nat.mul_comm]
  exact ⟨by omega, by omega, by omega, hc, hy⟩
/-! ### the answer -/
/-! ### sizes of nets -/
theorem fmod_gcd (x y : Int) : Int.gcd y (x.fmod y) = Int.gcd x y := by
  have e := Int.fmod_add_mul_fdiv x y
  have h := Int.gcd_add_mul_right_right y (x.fmod y) (x.fdiv y)
  rw [show x.fmod y + x.fdiv y * y = x by rw [Int.mul_comm]; exact e] at h
  rw [← h, Int.gcd_comm]
/-! ### nets and lists of shifts -/
end MN
namespace MN
/-- the numbers that the program finds, in parts -/
structure MP (a b c p q r : Int) (g c' r' m n D a' p' s t G D' d' u v : Int) : Prop where
  hg : 0 < g
  ec : c = g * c'
  er : r = g * r'
  e1 : m * c' + n * r' = 1
  hD : 0 < D
  ea : a = D * a'
  ep : p = D * p'
  e2 : s * a' + t * p' = 1
  hG : 0 < G
  eD : D = G * D'
  ed : b * r' - q * c' = G * d'
  e3 : u * D' + v * d' = 1
/-- Euclid's steps with factors -/
structure Bz (a p f0 f1 s0 s1 : Int) : Prop where
  f : ∃ t, f0 = f1 * a + t * p
  s : ∃ t, s0 = s1 * a + t * p
  g : Int.gcd f0 s0 = Int.gcd a p
  pos : 0 < f0
  nn : 0 ≤ s0
  sg : f1 * s1 ≤ 0
  sum : f0.natAbs * s1.natAbs + f1.natAbs * s0.natAbs = p.natAbs
  le : f1.natAbs ≤ p.natAbs
theorem Bz.start {a p : Int} (ha : 0 < a) (hp : 0 < p) : Bz a p a 1 p 0 := ⟨⟨0, by omega⟩, ⟨1, by omega⟩, rfl, ha, by omega, by omega, by simp, by simp; omega⟩
theorem Bz.step {a p f0 f1 s0 s1 : Int} (h : Bz a p f0 f1 s0 s1) (hs : 0 < s0) : Bz a p s0 s1 (f0 - f0 / s0 * s0) (f1 - f0 / s0 * s1) := by
  obtain ⟨⟨t, e1⟩, ⟨t', e2⟩, hg, hp, hn, sg, sm, le⟩ := h
  have hq : 0 ≤ f0 / s0 := Int.ediv_nonneg (by omega) (by omega)
  have e3 : f0 - f0 / s0 * s0 = f0 % s0 := by rw [Int.emod_def]; grind
  have hr := Int.emod_nonneg f0 (show s0 ≠ 0 by omega)
  have hr2 := Int.emod_lt_of_pos f0 hs
  have sq : 0 ≤ s1 * s1 := by
    rcases Int.le_total 0 s1 with z | z
    · exact Int.mul_nonneg z z
    · exact Int.mul_nonneg_of_nonpos_of_nonpos z z
  have abs : (f1 - f0 / s0 * s1).natAbs = f1.natAbs + (f0 / s0).natAbs * s1.natAbs := by
    rcases Int.le_total 0 s1 with z | z
    · have z2 : f1 ≤ 0 ∨ s1 = 0 := by
        rcases Int.lt_or_le 0 f1 with y | y
        · right
          rcases Int.lt_or_le 0 s1 with y' | y'
          · have := Int.mul_pos y y'; omega
          · omega
        · exact .inl y
      rcases z2 with z2 | z2
      · have : 0 ≤ f0 / s0 * s1 := Int.mul_nonneg hq z
        rw [← Int.natAbs_mul]
        omega
      · rw [z2]; simp
    · have z2 : 0 ≤ f1 ∨ s1 = 0 := by
        rcases Int.lt_or_le f1 0 with y | y
        · right
          rcases Int.lt_or_le s1 0 with y' | y'
          · have := Int.mul_pos_of_neg_of_neg y y'; omega
          · omega
        · exact .inl y
      rcases z2 with z2 | z2
      · have : f0 / s0 * s1 ≤ 0 := Int.mul_nonpos_of_nonneg_of_nonpos hq z
        rw [← Int.natAbs_mul]
        omega
      · rw [z2]; simp
  refine ⟨⟨t', e2⟩, ⟨t - f0 / s0 * t', ?_⟩, ?_, hs, by omega, ?_, ?_, ?_⟩
  · generalize f0 / s0 = k at *
    calc f0 - k * s0 = (f1 * a + t * p) - k * (s1 * a + t' * p) := by rw [← e1, ← e2]
      _ = _ := by grind
  · rw [e3, ← hg, ← fmod_gcd f0 s0, Int.fmod_eq_emod_of_nonneg _ (by omega)]
  · have : s1 * (f1 - f0 / s0 * s1) = f1 * s1 - f0 / s0 * (s1 * s1) := by grind
    rw [this]
    have := Int.mul_nonneg hq sq
    omega
  · rw [abs, ← sm]
    have e4 : f0.natAbs = (f0 / s0).natAbs * s0.natAbs + (f0 - f0 / s0 * s0).natAbs := by
      rw [← Int.natAbs_mul]
      have : 0 ≤ f0 / s0 * s0 := Int.mul_nonneg hq (by omega)
      omega
    rw [e4]
    grind
  · have h1 : 1 ≤ f0.natAbs := by omega
    have := Nat.mul_le_mul_right s1.natAbs h1
    omega
theorem Bz.fin {a p f0 f1 s1 : Int} (h : Bz a p f0 f1 0 s1) : f0 = (Int.gcd a p : Int) ∧ (∃ t, f0 = f1 * a + t * p) ∧ f1.natAbs ≤ p.natAbs := by
  refine ⟨?_, h.f, h.le⟩
  rw [← h.g]
  have := h.pos
  simp
  omega
end MN
namespace MN
/-! ### turns and mirror images -/
abbrev Mat := Int × Int × Int × Int
def turn (M : Mat) (p : Int × Int) : Int × Int := (M.1 * p.1 + M.2.1 * p.2, M.2.2.1 * p.1 + M.2.2.2 * p.2)
def tr (M : Mat) : Mat := (M.1, M.2.2.1, M.2.1, M.2.2.2)
def Orth (M : Mat) : Prop := M.1 * M.1 + M.2.2.1 * M.2.2.1 = 1 ∧ M.2.1 * M.2.1 + M.2.2.2 * M.2.2.2 = 1 ∧ M.1 * M.2.1 + M.2.2.1 * M.2.2.2 = 0 ∧ M.1 * M.1 + M.2.1 * M.2.1 = 1 ∧ M.2.2.1 * M.2.2.1 + M.2.2.2 * M.2.2.2 = 1 ∧ M.1 * M.2.2.1 + M.2.1 * M.2.2.2 = 0
instance (M : Mat) : Decidable (Orth M) := by unfold Orth; infer_instance
def Img (M : Mat) (a b c a' b' c' : Int) : Prop := Ok a' b' c' ∧ (∀ x y, InN a' b' c' (turn M (x, y)).1 (turn M (x, y)).2 ↔ InN a b c x y) ∧ a' * c' = a * c
/-! ### what is carried along -/
section
variable {M M' : Mat} {a b c a' b' c' p q r p' q' r' : Int}
/-- one motion behind another -/
def comp (M M' : Mat) : Mat := (M'.1 * M.1 + M'.2.1 * M.2.2.1, M'.1 * M.2.1 + M'.2.1 * M.2.2.2, M'.2.2.1 * M.1 + M'.2.2.2 * M.2.2.1, M'.2.2.1 * M.2.1 + M'.2.2.2 * M.2.2.2)
end
end MN
namespace MN
/-! ### the places of a cell -/
def rowL (a : Nat) (y : Int) : List (Int × Int) := (List.range a).map fun x => ((x : Nat), y)
def spotsL (a : Nat) : Nat → List (Int × Int)
  | 0 => []
  | c + 1 => spotsL a c ++ rowL a ((c : Nat) : Int)
theorem spotsL_len (a : Nat) : ∀ c, (spotsL a c).length = a * c
  | 0 => rfl
  | c + 1 => by simp [spotsL, rowL, spotsL_len a c, Nat.mul_succ]
theorem rowL_mem {a : Nat} {y : Int} {p : Int × Int} : p ∈ rowL a y ↔ 0 ≤ p.1 ∧ p.1 < a ∧ p.2 = y := by
  unfold rowL
  rw [List.mem_map]
  constructor
  · rintro ⟨x, hx, rfl⟩
    have := List.mem_range.mp hx
    exact ⟨by omega, by show (x : Int) < a; omega, rfl⟩
  · rintro ⟨h1, h2, h3⟩
    exact ⟨p.1.toNat, List.mem_range.mpr (by omega), Prod.ext (by show ((p.1.toNat : Nat) : Int) = p.1; omega) h3.symm⟩
theorem spotsL_mem {a : Nat} {p : Int × Int} : ∀ {c : Nat}, p ∈ spotsL a c ↔ 0 ≤ p.1 ∧ p.1 < a ∧ 0 ≤ p.2 ∧ p.2 < c
  | 0 => by
    constructor
    · intro h; cases h
    · rintro ⟨_, _, h1, h2⟩; exact absurd h1 (by omega)
  | c + 1 => by
    rw [spotsL, List.mem_append, spotsL_mem, rowL_mem]
    constructor
    · rintro (⟨h1, h2, h3, h4⟩ | ⟨h1, h2, h3⟩)
      · exact ⟨h1, h2, h3, by omega⟩
      · exact ⟨h1, h2, by omega, by omega⟩
    · rintro ⟨h1, h2, h3, h4⟩
      by_cases h : p.2 = (c : Int)
      · exact .inr ⟨h1, h2, h⟩
      · exact .inl ⟨h1, h2, h3, by omega⟩
theorem spotsL_get {a : Nat} : ∀ {c x y : Nat}, x < a → y < c → (spotsL a c)[y * a + x]? = some ((x : Int), (y : Int))
  | 0, _, _, _, h => absurd h (by omega)
  | c + 1, x, y, hx, hy => by
    unfold spotsL
    by_cases h : y < c
    · have hl : y * a + x < (spotsL a c).length := by
        rw [spotsL_len]
        have : (y + 1) * a ≤ c * a := Nat.mul_le_mul_right a h
        rw [Nat.add_mul, Nat.one_mul] at this
        rw [Nat.mul_comm a c]
        omega
      rw [List.getElem?_append_left hl]
      exact spotsL_get hx h
    · have e : y = c := by omega
      subst e
      have hl : (spotsL a y).length = y * a := by rw [spotsL_len, Nat.mul_comm]
      rw [List.getElem?_append_right (by omega), hl, show y * a + x - y * a = x by omega]
      unfold rowL
      rw [List.getElem?_map, List.getElem?_range hx]
      rfl
/-! ### colours -/
/-- the colour at a place: the text's letter at its place of the cell -/
def col (t : List Nat) (a b c : Int) (p : Int × Int) : Nat := t.getD ((low a b c p.1 p.2).2 * a + (low a b c p.1 p.2).1).toNat 0
theorem col_net {t : List Nat} {a b c : Int} (h : Ok a b c) {p q : Int × Int} (hn : InN a b c (p.1 - q.1) (p.2 - q.2)) : col t a b c p = col t a b c q := by
  unfold col
  rw [(low_eq (by have := h.2; omega) (by have := h.1; omega)).mpr hn]
/-- a shift keeps all colours -/
def Keeps (f : Int × Int → Nat) (x y : Int) : Prop := ∀ p : Int × Int, f (p.1 + x, p.2 + y) = f p
section
variable {f : Int × Int → Nat}
end
theorem keeps_net {t : List Nat} {a b c x y : Int} (h : Ok a b c) (hn : InN a b c x y) : Keeps (col t a b c) x y := fun p => col_net h (by rw [show p.1 + x - p.1 = x by omega, show p.2 + y - p.2 = y by omega]; exact hn)
/-- the net of all shifts that keep -/
def Exact (f : Int × Int → Nat) (w q r : Int) : Prop := Ok w q r ∧ ∀ x y, InN w q r x y ↔ Keeps f x y
/-! ### divisors, ascending -/
def upL (n : Nat) : List Int := (List.range n).map fun i => ((i : Nat) : Int) + 1
/-! ### the least cell -/
/-- the text of the cell of a net, of what f tells -/
def cellT (f : Int × Int → Nat) (a c : Int) : List Nat := (spotsL a.toNat c.toNat).map f
theorem cellT_len {f : Int × Int → Nat} {a c : Int} : (cellT f a c).length = a.toNat * c.toNat := by rw [cellT, List.length_map, spotsL_len]
theorem cellT_col {f : Int × Int → Nat} {a b c : Int} (h : Ok a b c) (k : ∀ x y, InN a b c x y → Keeps f x y) (p : Int × Int) : col (cellT f a c) a b c p = f p := by
  have ha : 0 < a := by have := h.2; omega
  have hc : 0 < c := by have := h.1; omega
  obtain ⟨r1, r2, r3, r4⟩ := low_rng (a := a) (b := b) (c := c) (x := p.1) (y := p.2) ha hc
  unfold col cellT
  generalize hu : (low a b c p.1 p.2).1 = u at *
  generalize hv : (low a b c p.1 p.2).2 = v at *
  obtain ⟨u', rfl⟩ := Int.eq_ofNat_of_zero_le r1
  obtain ⟨v', rfl⟩ := Int.eq_ofNat_of_zero_le r3
  obtain ⟨a', rfl⟩ := Int.eq_ofNat_of_zero_le (Int.le_of_lt ha)
  obtain ⟨c', rfl⟩ := Int.eq_ofNat_of_zero_le (Int.le_of_lt hc)
  have e : ((v' : Int) * (a' : Int) + (u' : Int)).toNat = v' * a' + u' := by
    rw [← Int.natCast_mul, ← Int.natCast_add, Int.toNat_natCast]
  rw [e, List.getD_eq_getElem?_getD, List.getElem?_map, Int.toNat_natCast, Int.toNat_natCast, spotsL_get (by omega) (by omega)]
  show f ((u' : Int), (v' : Int)) = f p
  have kk := k _ _ (low_in (a' : Int) b (c' : Int) p.1 p.2) ((u' : Int), (v' : Int))
  rw [hu, hv] at kk
  dsimp only at kk
  rw [show (u' : Int) + (p.1 - (u' : Int)) = p.1 by omega, show (v' : Int) + (p.2 - (v' : Int)) = p.2 by omega] at kk
  exact kk.symm
end MN
namespace MN
/-! ### connected parts of one colour -/
abbrev Pt := Int × Int
def nbs (p : Pt) : List Pt := [(p.1 + 1, p.2), (p.1, p.2 + 1), (p.1 - 1, p.2), (p.1, p.2 - 1)]
theorem nbs_mem {p q : Pt} : q ∈ nbs p ↔ q = (p.1 + 1, p.2) ∨ q = (p.1, p.2 + 1) ∨ q = (p.1 - 1, p.2) ∨ q = (p.1, p.2 - 1) := by
  simp only [nbs, List.mem_cons, List.not_mem_nil, or_false]
theorem nbs_symm {p q : Pt} (h : q ∈ nbs p) : p ∈ nbs q := by
  obtain ⟨x, y⟩ := p
  rw [nbs_mem] at h ⊢
  dsimp only at h ⊢
  rcases h with rfl | rfl | rfl | rfl
  · exact .inr (.inr (.inl (Prod.ext (by first | omega | (dsimp only; omega)) rfl)))
  · exact .inr (.inr (.inr (Prod.ext rfl (by first | omega | (dsimp only; omega)))))
  · exact .inl (Prod.ext (by first | omega | (dsimp only; omega)) rfl)
  · exact .inr (.inl (Prod.ext rfl (by first | omega | (dsimp only; omega))))
theorem nbs_shift {p q : Pt} (u v : Int) (h : q ∈ nbs p) : (q.1 + u, q.2 + v) ∈ nbs (p.1 + u, p.2 + v) := by
  rw [nbs_mem] at h ⊢
  dsimp only
  rcases h with rfl | rfl | rfl | rfl
  · exact .inl (Prod.ext (by first | omega | (dsimp only; omega)) rfl)
  · exact .inr (.inl (Prod.ext rfl (by first | omega | (dsimp only; omega))))
  · exact .inr (.inr (.inl (Prod.ext (by first | omega | (dsimp only; omega)) rfl)))
  · exact .inr (.inr (.inr (Prod.ext rfl (by first | omega | (dsimp only; omega)))))
inductive Conn (F : Pt → Nat) (s : Pt) : Pt → Prop
  | refl : Conn F s s
  | step {q r : Pt} : Conn F s q → r ∈ nbs q → F r = F q → Conn F s r
section
variable {F : Pt → Nat} {a b c : Int}
theorem Conn.col {s q : Pt} (h : Conn F s q) : F q = F s := by
  induction h with
  | refl => rfl
  | step _ _ e ih => rw [e, ih]
theorem Conn.trans {s q r : Pt} (h : Conn F s q) (h' : Conn F q r) : Conn F s r := by
  induction h' with
  | refl => exact h
  | step _ n e ih => exact ih.step n e
theorem Conn.one {p q : Pt} (n : q ∈ nbs p) (e : F q = F p) : Conn F p q := Conn.refl.step n e
theorem Conn.symm {s q : Pt} (h : Conn F s q) : Conn F q s := by
  induction h with
  | refl => exact .refl
  | step _ n e ih => exact (Conn.one (nbs_symm n) e.symm).trans ih
theorem Conn.shift {s q : Pt} {x y : Int} (k : Keeps F x y) (h : Conn F s q) : Conn F (s.1 + x, s.2 + y) (q.1 + x, q.2 + y) := by
  induction h with
  | refl => exact .refl
  | step _ n e ih => exact ih.step (nbs_shift x y n) (by rw [k _, k _, e])
theorem pt_eq {p : Pt} {x y : Int} (h1 : x = p.1) (h2 : y = p.2) : (x, y) = p := Prod.ext h1 h2
/-- the shifts of a net that carry the part of a place to itself -/
def Stab (F : Pt → Nat) (a b c : Int) (s : Pt) (x y : Int) : Prop := InN a b c x y ∧ Conn F s (s.1 + x, s.2 + y)
variable (kp : ∀ x y, InN a b c x y → Keeps F x y)
include kp
/-- the same place, up to the net: the class of a part -/
def Cls (F : Pt → Nat) (a b c : Int) (s q : Pt) : Prop := ∃ x y, InN a b c x y ∧ Conn F s (q.1 + x, q.2 + y)
omit kp in
theorem cls_conn {s q : Pt} (h : Conn F s q) : Cls F a b c s q := ⟨0, 0, inN_zero, by rw [pt_eq (p := q) (by omega) (by omega)]; exact h⟩
omit kp in
theorem cls_net {s q : Pt} {x y : Int} (i : InN a b c x y) : Cls F a b c s (q.1 + x, q.2 + y) ↔ Cls F a b c s q := by
  constructor
  · rintro ⟨u, v, j, z⟩
    refine ⟨x + u, y + v, inN_add i j, ?_⟩
    rw [pt_eq (p := (q.1 + x + u, q.2 + y + v)) (by first | omega | (dsimp only; omega)) (by first | omega | (dsimp only; omega))]
    exact z
  · rintro ⟨u, v, j, z⟩
    refine ⟨u - x, v - y, inN_sub j i, ?_⟩
    rw [pt_eq (p := (q.1 + u, q.2 + v)) (by first | omega | (dsimp only; omega)) (by first | omega | (dsimp only; omega))]
    exact z
omit kp in
theorem cls_low {s q : Pt} : Cls F a b c s (low a b c q.1 q.2) ↔ Cls F a b c s q := by
  have := cls_net (F := F) (s := s) (q := low a b c q.1 q.2) (low_in a b c q.1 q.2)
  rw [pt_eq (p := q) (by omega) (by omega)] at this
  exact this.symm
end
/-! ### the search -/
def lkQ (kn : List (Pt × Pt)) (k : Pt) : Option Pt := (kn.find? fun x => decide (x.1 = k)).map (·.2)
theorem lkQ_mem {kn : List (Pt × Pt)} {k p : Pt} (h : lkQ kn k = some p) : (k, p) ∈ kn := by
  obtain ⟨x, hx, rfl⟩ := Option.map_eq_some_iff.mp h
  have e : x.1 = k := by simpa using List.find?_some hx
  have := List.mem_of_find?_eq_some hx
  rw [← e]
  exact this
theorem lkQ_app {kn ms : List (Pt × Pt)} {k p : Pt} (h : lkQ kn k = some p) : lkQ (kn ++ ms) k = some p := by
  unfold lkQ at h ⊢
  obtain ⟨x, hx, rfl⟩ := Option.map_eq_some_iff.mp h
  rw [List.find?_append, hx]
  rfl
def lowP (a b c : Int) (p : Pt) : Pt := low a b c p.1 p.2
/-- what the search has found out about some neighbours of a place -/
def Done (F : Pt → Nat) (a b c : Int) (kn : List (Pt × Pt)) (sh : List Pt) (p : Pt) (l : List Pt) : Prop := ∀ q ∈ l, F q = F p → ∃ r, lkQ kn (lowP a b c q) = some r ∧ Sp sh (q.1 - r.1) (q.2 - r.2)
/-- how many neighbours have another colour -/
def unl (F : Pt → Nat) (p : Pt) (l : List Pt) : Nat := (l.filter fun q => !decide (F q = F p)).length
def edg (F : Pt → Nat) (p : Pt) : Nat := unl F p (nbs p)
def sumE (F : Pt → Nat) (l : List Pt) : Nat := (l.map (edg F)).sum
structure Srch (F : Pt → Nat) (a b c : Int) (s : Pt) (kn : List (Pt × Pt)) (wt sh : List Pt) (X : Pt → Prop) : Prop where
  st : lkQ kn s = some s
  kw : ∀ k p, (k, p) ∈ kn → lowP a b c p = k ∧ Conn F s p
  nd : (kn.map (·.1)).Nodup
  wi : ∀ p ∈ wt, ∃ k, (k, p) ∈ kn
  si : ∀ x y, (x, y) ∈ sh → Stab F a b c s x y
  dn : ∀ k p, (k, p) ∈ kn → p ∈ wt ∨ X p ∨ Done F a b c kn sh p (nbs p)
  nr : ∀ k p, (k, p) ∈ kn → (p.1 - s.1).natAbs + (p.2 - s.2).natAbs + 1 ≤ kn.length
  sn : ∀ x y, (x, y) ∈ sh → x.natAbs ≤ 2 * kn.length ∧ y.natAbs ≤ 2 * kn.length
/-- the numbers that go with it: e: neighbours of another colour of the one that is looked at, j: its neighbours that are left -/
structure SrN (F : Pt → Nat) (kn : List (Pt × Pt)) (wt sh : List Pt) (bd e j : Nat) : Prop where
  bd : bd + sumE F wt + e = sumE F (kn.map (·.2))
  ls : sh.length + 4 * wt.length + j ≤ 4 * kn.length
section
variable {F : Pt → Nat} {a b c : Int} {s : Pt} {kn : List (Pt × Pt)} {wt sh : List Pt} {X : Pt → Prop} {bd e j : Nat}
theorem Done.up {ms : List (Pt × Pt)} {ts : List Pt} {p : Pt} {l : List Pt} (h : Done F a b c kn sh p l) : Done F a b c (kn ++ ms) (sh ++ ts) p l := fun q hq eq => by
  obtain ⟨r, h1, h2⟩ := h q hq eq
  exact ⟨r, lkQ_app h1, h2.le fun u v m => .gen (List.mem_append.mpr (.inl m))⟩
theorem unl_yes {p q : Pt} {l : List Pt} (n : F q ≠ F p) : unl F p (q :: l) = unl F p l + 1 := by
  unfold unl
  rw [List.filter_cons_of_pos (by simpa using n)]
  rfl
theorem unl_no {p q : Pt} {l : List Pt} (n : F q = F p) : unl F p (q :: l) = unl F p l := by
  unfold unl
  rw [List.filter_cons_of_neg (by simpa using n)]
/-! ### what the search has found at its end -/
structure Prt (F : Pt → Nat) (a b c : Int) (s : Pt) (kn : List (Pt × Pt)) : Prop where
  st : lkQ kn s = some s
  kw : ∀ k p, (k, p) ∈ kn → lowP a b c p = k ∧ Conn F s p
  nd : (kn.map (·.1)).Nodup
  all : ∀ q, Conn F s q → ∃ r, lkQ kn (lowP a b c q) = some r ∧ Stab F a b c s (q.1 - r.1) (q.2 - r.2)
  nr : ∀ k p, (k, p) ∈ kn → (p.1 - s.1).natAbs + (p.2 - s.2).natAbs + 1 ≤ kn.length
/-- the places of the cell that belong to the class -/
theorem Prt.key (kp : ∀ x y, InN a b c x y → Keeps F x y) (ha : 0 < a) (hc : 0 < c) (h : Prt F a b c s kn) (k : Pt) : k ∈ kn.map (·.1) ↔ k ∈ spotsL a.toNat c.toNat ∧ Cls F a b c s k := by
  constructor
  · intro m
    obtain ⟨⟨k', p⟩, hx, rfl⟩ := List.mem_map.mp m
    obtain ⟨e, z⟩ := h.kw _ _ hx
    dsimp only
    rw [← e]
    obtain ⟨r1, r2, r3, r4⟩ := low_rng (a := a) (b := b) (c := c) (x := p.1) (y := p.2) ha hc
    exact ⟨spotsL_mem.mpr ⟨r1, by rw [Int.toNat_of_nonneg (by omega)]; exact r2, r3, by rw [Int.toNat_of_nonneg (by omega)]; exact r4⟩, cls_low.mpr (cls_conn z)⟩
  · rintro ⟨m, x, y, i, z⟩
    obtain ⟨m1, m2, m3, m4⟩ := spotsL_mem.mp m
    obtain ⟨r, h1, _⟩ := h.all _ z
    have e : lowP a b c (k.1 + x, k.2 + y) = k := by
      have e1 : lowP a b c (k.1 + x, k.2 + y) = lowP a b c k := by
        refine (low_eq ha hc).mpr ?_
        dsimp only
        rw [show k.1 + x - k.1 = x by omega, show k.2 + y - k.2 = y by omega]
        exact i
      rw [e1]
      exact low_self ⟨m1, by omega⟩ ⟨m3, by omega⟩
    rw [e] at h1
    exact List.mem_map.mpr ⟨_, lkQ_mem h1, rfl⟩
end
/-- whether a place is of the class of another one -/
noncomputable def clsB (F : Pt → Nat) (a b c : Int) (s q : Pt) : Bool := @decide (Cls F a b c s q) (Classical.propDecidable _)
theorem clsB_iff {F : Pt → Nat} {a b c : Int} {s q : Pt} : clsB F a b c s q = true ↔ Cls F a b c s q := by unfold clsB; exact @decide_eq_true_iff _ (Classical.propDecidable _)
noncomputable def clsL (F : Pt → Nat) (a b c : Int) (s : Pt) : List Pt := (spotsL a.toNat c.toNat).filter (clsB F a b c s)
theorem spotsL_nd (a : Nat) : ∀ c, (spotsL a c).Nodup := by
  intro c
  unfold List.Nodup
  rw [List.pairwise_iff_getElem]
  intro i j hi hj hij e
  rw [spotsL_len] at hi hj
  have key : ∀ n, n < a * c → (spotsL a c)[n]? = some (((n % a : Nat) : Int), ((n / a : Nat) : Int)) := fun n hn => by
    have ha : 0 < a := Nat.pos_of_ne_zero fun z => by rw [z] at hn; omega
    have := spotsL_get (a := a) (c := c) (x := n % a) (y := n / a) (Nat.mod_lt _ ha) (Nat.div_lt_of_lt_mul hn)
    rw [Nat.div_add_mod' n a] at this
    exact this
  have e1 := key i hi
  have e2 := key j hj
  rw [List.getElem?_eq_getElem (by rw [spotsL_len]; exact hi)] at e1
  rw [List.getElem?_eq_getElem (by rw [spotsL_len]; exact hj)] at e2
  rw [e] at e1
  rw [e1] at e2
  have e3 := Option.some.inj e2
  have e4 : i % a = j % a := by
    have := congrArg Prod.fst e3
    dsimp only at this
    omega
  have e5 : i / a = j / a := by
    have := congrArg Prod.snd e3
    dsimp only at this
    omega
  have := Nat.div_add_mod i a
  have := Nat.div_add_mod j a
  rw [e4, e5] at *
  omega
section
variable {F : Pt → Nat} {a b c : Int} {s : Pt} {kn : List (Pt × Pt)}
theorem Prt.perm (kp : ∀ x y, InN a b c x y → Keeps F x y) (ha : 0 < a) (hc : 0 < c) (h : Prt F a b c s kn) : (kn.map (·.1)).Perm (clsL F a b c s) := by
  refine (List.perm_ext_iff_of_nodup h.nd ((spotsL_nd _ _).filter _)).mpr fun k => ?_
  rw [h.key kp ha hc k, List.mem_filter, clsB_iff]
theorem Prt.len (kp : ∀ x y, InN a b c x y → Keeps F x y) (ha : 0 < a) (hc : 0 < c) (h : Prt F a b c s kn) : kn.length = (clsL F a b c s).length := by
  have := (h.perm kp ha hc).length_eq
  rw [List.length_map] at this
  exact this
theorem unl_shift (kp : ∀ x y, InN a b c x y → Keeps F x y) {x y : Int} (i : InN a b c x y) (p : Pt) : ∀ l : List Pt, unl F (p.1 + x, p.2 + y) (l.map fun q => (q.1 + x, q.2 + y)) = unl F p l
  | [] => rfl
  | q :: l => by
    have ih := unl_shift kp i p l
    have e1 := kp _ _ i p
    have e2 := kp _ _ i q
    rw [List.map_cons]
    by_cases e : F q = F p
    · rw [unl_no e, unl_no (by rw [e1, e2, e]), ih]
    · rw [unl_yes e, unl_yes (by rw [e1, e2]; exact e), ih]
theorem edg_shift (kp : ∀ x y, InN a b c x y → Keeps F x y) {x y : Int} (i : InN a b c x y) (p : Pt) : edg F (p.1 + x, p.2 + y) = edg F p := by
  have := unl_shift kp i p (nbs p)
  have e : (nbs p).map (fun q => (q.1 + x, q.2 + y)) = nbs (p.1 + x, p.2 + y) := by
    simp only [nbs, List.map_cons, List.map_nil]
    congr 1
    · exact Prod.ext (by first | omega | (dsimp only; omega)) rfl
    congr 1
    · exact Prod.ext rfl (by first | omega | (dsimp only; omega))
    congr 1
    · exact Prod.ext (by first | omega | (dsimp only; omega)) rfl
    congr 1
    · exact Prod.ext rfl (by first | omega | (dsimp only; omega))
  rw [e] at this
  exact this
theorem edg_low (kp : ∀ x y, InN a b c x y → Keeps F x y) (p : Pt) : edg F (lowP a b c p) = edg F p := by
  have := edg_shift kp (low_in a b c p.1 p.2) (low a b c p.1 p.2)
  rw [pt_eq (p := p) (by omega) (by omega)] at this
  exact this.symm
theorem sumE_perm {l m : List Pt} (h : l.Perm m) : sumE F l = sumE F m := by
  unfold sumE
  exact (h.map _).sum_nat
/-- the border of a class -/
noncomputable def brd (F : Pt → Nat) (a b c : Int) (s : Pt) : Nat := sumE F (clsL F a b c s)
theorem Prt.brd (kp : ∀ x y, InN a b c x y → Keeps F x y) (ha : 0 < a) (hc : 0 < c) (h : Prt F a b c s kn) : sumE F (kn.map (·.2)) = MN.brd F a b c s := by
  unfold MN.brd
  rw [← sumE_perm (h.perm kp ha hc)]
  unfold sumE
  rw [List.map_map, List.map_map]
  congr 1
  refine List.map_congr_left fun x hx => ?_
  obtain ⟨e, _⟩ := h.kw x.1 x.2 hx
  show edg F x.2 = edg F x.1
  rw [← e, edg_low kp]
end
end MN
namespace MN
/-! ### the basis of a group of shifts -/
inductive Bas where
  | nil | one (x y : Int) | two (a b c : Int)
def BasOk (S : Int → Int → Prop) : Bas → Prop
  | .nil => ∀ x y, S x y → x = 0 ∧ y = 0
  | .one x y => (0 < y ∨ y = 0 ∧ 0 < x) ∧ ∀ u v, S u v ↔ ∃ n : Int, u = n * x ∧ v = n * y
  | .two a b c => Ok a b c ∧ ∀ u v, S u v ↔ InN a b c u v
end MN
namespace Y
open PySem PySem.Spec PyProof.Rows L2 Z
/-! ### promises of carpets.integers and carpets.nets -/
abbrev dNet (a b c : Int) : D := .obj "Net" ["own_numbers"] [.tup [.int a, .int b, .int c]]
abbrev dPl (x y : Int) : D := .tup [.int x, .int y]
/-! ### nets of shifts -/
def plD (p : Int × Int) : D := .tup [.int p.1, .int p.2]
theorem map_get {α β : Type} {f : α → β} {S : List α} {i : Nat} {d : β} (h : (S.map f)[i]? = some d) : ∃ p, S[i]? = some p ∧ d = f p := by
  rw [List.getElem?_map] at h
  obtain ⟨p, h1, rfl⟩ := Option.map_eq_some_iff.mp h
  exact ⟨p, h1, rfl⟩
/-! ### methods of nets -/
theorem leN {n : Nat} (h : Nat.ble n 100000 = true) : n ≤ 100000 := Nat.le_of_ble_eq_true h
/-! ### the law's own draws -/
theorem szP {n : Nat} {x : Int} (h : Nat.blt x.natAbs (2 ^ 100) = true) (hn : 100 ≤ n) : Sz n x := (sz_lit (n := 100) h).mono hn
theorem dIx_l {ds : List D} {i : Int} {d : D} {Q : D → Prop} (e : atI ds i = some d) (h : Q d) : dIx (.lst ds) (.int i) Q := by
  show (match atI ds i with | some d => Q d | none => False)
  rw [e]
  exact h
theorem atI_D {α : Type} {ds : List α} {k : Int} (h0 : 0 ≤ k) (h1 : k < ds.length) : ∃ d, atI ds k = some d ∧ d ∈ ds := by
  obtain ⟨j, rfl⟩ := Int.eq_ofNat_of_zero_le h0
  have hj : j < ds.length := by omega
  exact ⟨ds[j], atI_nat (List.getElem?_eq_getElem hj), List.getElem_mem hj⟩
end Y
namespace MN
end MN
namespace Y
open PySem PySem.Spec PyProof.Rows L2 Z
abbrev n3 (a b c : Int) : D := .tup [.int a, .int b, .int c]
/-- two nets of moderate numbers -/
def okN (n : Nat) (a b c : Int) : Prop := MN.Ok a b c ∧ Sz n a ∧ Sz n c
theorem okN.mono {n m : Nat} {a b c : Int} (h : okN n a b c) (z : n ≤ m) : okN m a b c := ⟨h.1, h.2.1.mono z, h.2.2.mono z⟩
theorem okN.b {n : Nat} {a b c : Int} (h : okN n a b c) : Sz n b := sz_le h.1.2.1 (Int.le_of_lt h.1.2.2) h.2.1
/-! ### k04 -/
end Y
namespace Y
open PySem PySem.Spec PyProof.Rows L2 Z
open MN (Mat turn tr Orth comp Img)
/-! ### kinds of motions -/
def matL : List (Str × Mat) := [("none", (1, 0, 0, 1)), ("left", (0, -1, 1, 0)), ("half", (-1, 0, 0, -1)), ("right", (0, 1, -1, 0)), ("flip", (1, 0, 0, -1)), ("mirror", (-1, 0, 0, 1)), ("swap", (0, 1, 1, 0)), ("cross", (0, -1, -1, 0))]
def mat (k : Str) : Option Mat := matL.lookup k
theorem sz1 {n : Nat} {x : Int} (h : x.natAbs ≤ 1) : Sz (n + 1) x := Nat.lt_of_le_of_lt h (Nat.one_lt_two_pow (by omega))
/-! ### promises of carpets.motions -/
/-! ### k09 -/
end Y
namespace Y
open PySem PySem.Spec PyProof.Rows L2 Z
theorem rngD_at {lo : Int} {n i : Nat} {d : D} (h : (rngD lo n)[i]? = some d) : i < n ∧ d = .int (lo + (i : Nat)) := by
  unfold rngD at h
  obtain ⟨j, h1, rfl⟩ := map_get h
  have hi := lt_of_get h1
  rw [List.length_range] at hi
  rw [List.getElem?_range hi] at h1
  cases h1
  exact ⟨hi, rfl⟩
end Y
namespace Y
open PySem PySem.Spec PyProof.Rows L2 Z
open MN (spotsL rowL upL Keeps Exact cellT)
/-! ### carpets -/
def chr1 (n : Nat) : Str := ⟨#[n]⟩
def ofL (l : List Nat) : Str := ⟨l.toArray⟩
/-- a net of moderate size and a text with a sign for each place of its cell -/
structure okT (t : Str) (a b c : Int) : Prop where
  ok : MN.Ok a b c
  mx : a * c ≤ 5000
  ln : (t.cps.toList.length : Int) = a * c
theorem okT.a {t : Str} {a b c : Int} (h : okT t a b c) : 0 < a := by have := h.ok.2; omega
theorem okT.c {t : Str} {a b c : Int} (h : okT t a b c) : 0 < c := by have := h.ok.1; omega
theorem okT.al {t : Str} {a b c : Int} (h : okT t a b c) : a ≤ 5000 := by
  have := h.mx
  have l1 : a * 1 ≤ a * c := Int.mul_le_mul_of_nonneg_left (by have := h.c; omega) (by have := h.a; omega)
  omega
theorem okT.cl {t : Str} {a b c : Int} (h : okT t a b c) : c ≤ 5000 := by
  have := h.mx
  have l2 : 1 * c ≤ a * c := Int.mul_le_mul_of_nonneg_right (by have := h.a; omega) (by have := h.c; omega)
  omega
theorem sz13 {x : Int} (h0 : 0 ≤ x) (h : x ≤ 8000) : Sz 13 x := by
  show x.natAbs < 2 ^ 13
  have : (2 : Nat) ^ 13 = 8192 := by decide
  omega
theorem okT.sa {t : Str} {a b c : Int} (h : okT t a b c) : Sz 13 a := sz13 (by have := h.a; omega) (by have := h.al; omega)
theorem okT.sc {t : Str} {a b c : Int} (h : okT t a b c) : Sz 13 c := sz13 (by have := h.c; omega) (by have := h.cl; omega)
def colF (t : Str) (a b c : Int) : Int × Int → Nat := MN.col t.cps.toList a b c
abbrev dCar (C : Str) (a b c : Int) (t : Str) : D := .obj C ["own_net", "own_text"] [dNet a b c, .str t]
/-- the carpet of f: the least net and the text of its cell -/
structure Carp (f : Int × Int → Nat) (w q r : Int) (t : Str) : Prop where
  ex : Exact f w q r
  mx : w * r ≤ 5000
  tx : t = ofL (cellT f w r)
theorem Carp.okT {f : Int × Int → Nat} {w q r : Int} {t : Str} (h : Carp f w q r t) : okT t w q r := by
  refine ⟨h.ex.1, h.mx, ?_⟩
  rw [h.tx]
  have hw : 0 < w := by have := h.ex.1.2; omega
  have hr : 0 < r := by have := h.ex.1.1; omega
  show (((cellT f w r).toArray.toList.length : Nat) : Int) = _
  rw [List.toList_toArray, MN.cellT_len]
  obtain ⟨w', rfl⟩ := Int.eq_ofNat_of_zero_le (Int.le_of_lt hw)
  obtain ⟨r', rfl⟩ := Int.eq_ofNat_of_zero_le (Int.le_of_lt hr)
  simp
theorem Carp.col {f : Int × Int → Nat} {w q r : Int} {t : Str} (h : Carp f w q r t) (p : Int × Int) : colF t w q r p = f p := by
  unfold colF
  rw [h.tx]
  show MN.col ((cellT f w r).toArray.toList) w q r p = f p
  rw [List.toList_toArray]
  exact MN.cellT_col h.ex.1 (fun x y z => (h.ex.2 x y).mp z) p
end Y
namespace Y
open PySem PySem.Spec PyProof.Rows L2 Z
open MN (spotsL rowL upL Keeps Exact cellT)
/-! ### blocks of letters -/
def lowC (c : Nat) : Prop := 97 ≤ c ∧ c ≤ 122
def lowS (t : Str) : Prop := ∀ c ∈ t.cps.toList, lowC c
theorem lowS_sh {t : Str} (h : lowS t) : ∀ c ∈ t.cps.toList, c < 16 ^ 8 := fun c hc => by
  have := (h c hc).2
  have : (122 : Nat) < 16 ^ 8 := by decide
  omega
structure Blk (rs : List Str) (w : Nat) : Prop where
  n1 : 1 ≤ rs.length
  n2 : rs.length ≤ 100
  w1 : 1 ≤ w
  w2 : w ≤ 100
  mx : rs.length * w ≤ 1000
  row : ∀ r ∈ rs, r.cps.toList.length = w
  low : ∀ r ∈ rs, lowS r
def rowTxt (rs : List Str) : Str := ofL (rs.flatMap fun r => r.cps.toList)
theorem flat_len {w : Nat} : ∀ {rs : List Str}, (∀ r ∈ rs, r.cps.toList.length = w) → (rs.flatMap fun r => r.cps.toList).length = rs.length * w
  | [], _ => by simp
  | r :: rs, h => by
    rw [List.flatMap_cons, List.length_append, flat_len (fun x hx => h x (List.mem_cons_of_mem _ hx)), h r List.mem_cons_self, List.length_cons, Nat.add_mul]
    omega
theorem flat_get {w : Nat} : ∀ {rs : List Str} {y x : Nat} {r : Str}, (∀ r ∈ rs, r.cps.toList.length = w) → rs[y]? = some r → x < w → (rs.flatMap fun r => r.cps.toList)[y * w + x]? = r.cps.toList[x]?
  | [], y, x, r, h, e, hx => by cases e
  | q :: rs, 0, x, r, h, e, hx => by
    have e' : q = r := by simpa using e
    subst e'
    rw [List.flatMap_cons, Nat.zero_mul, Nat.zero_add, List.getElem?_append_left (by rw [h q List.mem_cons_self]; exact hx)]
  | q :: rs, y + 1, x, r, h, e, hx => by
    have hq := h q List.mem_cons_self
    rw [List.flatMap_cons, List.getElem?_append_right (by rw [hq, Nat.add_mul]; omega), hq, show (y + 1) * w + x - w = y * w + x by rw [Nat.add_mul]; omega]
    exact flat_get (fun x hx => h x (List.mem_cons_of_mem _ hx)) (by simpa using e) hx
theorem rowTxt_ln {rs : List Str} {w : Nat} (h : ∀ r ∈ rs, r.cps.toList.length = w) : (rowTxt rs).cps.toList.length = rs.length * w := by
  show ((rs.flatMap fun r => r.cps.toList).toArray.toList).length = _
  rw [List.toList_toArray, flat_len h]
theorem Blk.okT {rs : List Str} {w : Nat} (h : Blk rs w) (sh : Int) : okT (rowTxt rs) w (sh % w) rs.length := by
  have h1 := h.n1
  have h2 := h.w1
  refine ⟨⟨by omega, Int.emod_nonneg _ (by omega), Int.emod_lt_of_pos _ (by omega)⟩, ?_, ?_⟩
  · have := h.mx
    have e : ((w : Nat) : Int) * ((rs.length : Nat) : Int) = ((rs.length * w : Nat) : Int) := by rw [Int.natCast_mul, Int.mul_comm]
    omega
  · rw [rowTxt_ln h.row, Int.natCast_mul, Int.mul_comm]
/-- the colours of a block -/
def blkF (rs : List Str) (w : Nat) (sh : Int) : Int × Int → Nat := colF (rowTxt rs) w (sh % w) rs.length
theorem blkF_eq {rs : List Str} {w : Nat} (h : Blk rs w) (sh x y : Int) : ∃ r c, rs[(y - y / rs.length * rs.length).toNat]? = some r ∧ r.cps.toList[((x - sh * (y / rs.length)) % w).toNat]? = some c ∧ blkF rs w sh (x, y) = c ∧ r ∈ rs := by
  have h1 := h.n1
  have h2 := h.w1
  have hn : (0 : Int) < rs.length := by omega
  have hw : (0 : Int) < w := by omega
  have ey : y - y / rs.length * rs.length = y % rs.length := by
    have := Int.emod_add_mul_ediv y rs.length
    rw [Int.mul_comm] at this
    omega
  have y0 := Int.emod_nonneg y (show (rs.length : Int) ≠ 0 by omega)
  have y1 := Int.emod_lt_of_pos y hn
  have x0 := Int.emod_nonneg (x - sh * (y / rs.length)) (show (w : Int) ≠ 0 by omega)
  have x1 := Int.emod_lt_of_pos (x - sh * (y / rs.length)) hw
  have ex : (x - y / rs.length * (sh % w)) % w = (x - sh * (y / rs.length)) % w := by
    have e := Int.emod_add_mul_ediv sh w
    have : x - y / rs.length * (sh % w) = (x - sh * (y / rs.length)) + (w : Int) * (sh / w * (y / rs.length)) := by
      have e2 : sh * (y / rs.length) = (sh % w) * (y / rs.length) + (w : Int) * (sh / w) * (y / rs.length) := by rw [← Int.add_mul, e]
      rw [e2, Int.mul_comm (y / rs.length) (sh % w), Int.mul_assoc]
      omega
    rw [this, Int.add_mul_emod_self_left]
  have hy : (y - y / rs.length * rs.length).toNat < rs.length := by omega
  obtain ⟨r, hr⟩ : ∃ r, rs[(y - y / rs.length * rs.length).toNat]? = some r := ⟨_, List.getElem?_eq_getElem hy⟩
  have hm : r ∈ rs := List.mem_of_getElem? hr
  have hx : ((x - sh * (y / rs.length)) % w).toNat < w := by omega
  obtain ⟨c, hc⟩ : ∃ c, r.cps.toList[((x - sh * (y / rs.length)) % w).toNat]? = some c := ⟨_, List.getElem?_eq_getElem (by rw [h.row _ hm]; exact hx)⟩
  refine ⟨r, c, hr, hc, ?_, hm⟩
  unfold blkF colF MN.col MN.low rowTxt ofL
  dsimp only
  rw [ex]
  have et : ((y - y / rs.length * rs.length) * w + (x - sh * (y / rs.length)) % w).toNat = (y - y / rs.length * rs.length).toNat * w + ((x - sh * (y / rs.length)) % w).toNat := by
    have p0 : 0 ≤ (y - y / rs.length * rs.length) * (w : Int) := Int.mul_nonneg (by omega) (by omega)
    rw [Int.toNat_add p0 x0, Int.toNat_mul (by omega) (by omega), Int.toNat_natCast]
  rw [et, List.getD_eq_getElem?_getD, flat_get h.row hr hx, hc]
  rfl
theorem blkF_low {rs : List Str} {w : Nat} (h : Blk rs w) (sh : Int) (p : Int × Int) : lowC (blkF rs w sh p) := by
  obtain ⟨r, c, _, e2, e3, hm⟩ := blkF_eq h sh p.1 p.2
  rw [show blkF rs w sh p = c from e3]
  exact h.low r hm c (List.mem_of_getElem? e2)
/-! ### rows of a text -/
/-! ### contracts -/
theorem slen (t : Str) : t.length = t.cps.toList.length := by rw [Array.length_toList]; rfl
theorem strs_shP {n : Nat} : ∀ {l : List Str}, (∀ r ∈ l, lowS r) → shPs n (l.map D.str)
  | [], _ => trivial
  | x :: l, h => ⟨lowS_sh (h x List.mem_cons_self), strs_shP fun r hr => h r (List.mem_cons_of_mem _ hr)⟩
theorem strs_depth : ∀ {l : List Str}, PyData.depthAll (toPs (l.map D.str)) ≤ 1
  | [] => by simp [toPs, PyData.depthAll]
  | x :: l => by
    have := strs_depth (l := l)
    simp [toPs, toP, PyData.depthAll, PyData.depth] at this ⊢
    omega
end Y
namespace Y
open PySem PySem.Spec PyProof.Rows L2 Z
open MN (spotsL rowL upL Keeps Exact cellT)
theorem Carp.low {rs : List Str} {w0 : Nat} {sh w q r : Int} {t : Str} (hb : Blk rs w0) (h : Carp (blkF rs w0 sh) w q r t) : lowS t := by
  intro c hc
  rw [h.tx] at hc
  unfold ofL cellT at hc
  rw [List.toList_toArray] at hc
  obtain ⟨p, _, rfl⟩ := List.mem_map.mp hc
  exact blkF_low hb sh p
theorem bulk_strs {a : Nat} : ∀ l : List Str, (∀ r ∈ l, r.cps.toList.length = a) → PyData.bulkAll (toPs (l.map D.str)) = l.length * a + l.length := by
  intro l
  induction l with
  | nil => intro _; simp [toPs, PyData.bulkAll]
  | cons x l ih =>
    intro h
    show x.cps.size + 1 + PyData.bulkAll (toPs (l.map D.str)) = _
    rw [ih (fun r hr => h r (List.mem_cons_of_mem _ hr))]
    have := h x List.mem_cons_self
    rw [Array.length_toList] at this
    rw [this, List.length_cons, Nat.add_mul]
    omega
theorem Blk.sh {rs : List Str} {w : Nat} (h : Blk rs w) : shP 0 (.lst (rs.map D.str)) ∧ (toP (.lst (rs.map D.str))).bulk ≤ 8000 ∧ (toP (.lst (rs.map D.str))).depth ≤ 40 := by
  refine ⟨strs_shP h.low, ?_, ?_⟩
  · show PyData.bulkAll (toPs (rs.map D.str)) ≤ 8000
    rw [bulk_strs rs h.row]
    have := h.mx
    have := h.n2
    omega
  · show PyData.depthAll (toPs (rs.map D.str)) + 1 ≤ 40
    have := strs_depth (l := rs)
    omega
theorem Blk.zero {rs : List Str} {w : Nat} (h : Blk rs w) : ∃ r0 c, atI (rs.map D.str) 0 = some (.str r0) ∧ r0.length ≤ 100000 ∧ atI r0.cps.toList 0 = some c ∧ blkF rs w 0 (0, (rs.length : Int)) = c := by
  have n1 := h.n1
  have w1 := h.w1
  obtain ⟨r, c, e1, e2, e3, hm⟩ := blkF_eq h 0 0 rs.length
  have e : (rs.length : Int) / (rs.length : Int) = 1 := Int.ediv_self (by omega)
  rw [e] at e1 e2
  have i0 : ((rs.length : Int) - 1 * (rs.length : Int)).toNat = 0 := by omega
  have j0 : ((0 - 0 * 1 : Int) % (w : Int)).toNat = 0 := by simp
  rw [i0] at e1
  rw [j0] at e2
  refine ⟨r, c, atI_nat (j := 0) (by rw [List.getElem?_map, e1]; rfl), ?_, atI_nat (j := 0) e2, e3⟩
  rw [slen, h.row r hm]
  have := h.w2
  omega
end Y
namespace MN
/-! ### motions: a turn, then a shift -/
abbrev Mtn := Mat × Int × Int
def mmul (m n : Mtn) : Mtn := (comp m.1 n.1, (turn n.1 m.2).1 + n.2.1, (turn n.1 m.2).2 + n.2.2)
def mone : Mtn := ((1, 0, 0, 1), 0, 0)
def minv (m : Mtn) : Mtn := (tr m.1, -(turn (tr m.1) m.2).1, -(turn (tr m.1) m.2).2)
def mapp (m : Mtn) (p : Int × Int) : Int × Int := ((turn m.1 p).1 + m.2.1, (turn m.1 p).2 + m.2.2)
/-! ### powers -/
def npow (m : Mtn) : Nat → Mtn
  | 0 => mone
  | n + 1 => mmul (npow m n) m
def zpow (m : Mtn) (n : Int) : Mtn := if 0 ≤ n then npow m n.toNat else npow (minv m) n.natAbs
/-! ### sizes -/
def nrm (p : Int × Int) : Nat := p.1.natAbs + p.2.natAbs
end MN
namespace Y
open PySem PySem.Spec PyProof.Rows L2 Z
open MN (Mat Mtn turn tr Orth comp mmul mone minv mapp npow zpow nrm)
/-- a motion of moderate shift, and its kind -/
structure okK (n : Nat) (k : Str) (m : Mtn) : Prop where
  mt : mat k = some m.1
  sz : nrm m.2 < 2 ^ n
theorem okK.mono {n n' : Nat} {k : Str} {m : Mtn} (h : okK n k m) (z : n ≤ n') : okK n' k m := ⟨h.mt, Nat.lt_of_lt_of_le h.sz (Nat.pow_le_pow_right (by decide) z)⟩
theorem okK.x {n : Nat} {k : Str} {m : Mtn} (h : okK n k m) : Sz n m.2.1 := Nat.lt_of_le_of_lt (Nat.le_add_right _ _) h.sz
theorem okK.y {n : Nat} {k : Str} {m : Mtn} (h : okK n k m) : Sz n m.2.2 := Nat.lt_of_le_of_lt (Nat.le_add_left _ _) h.sz
/-! ### promises -/
/-! ### texts -/
end Y
namespace MN
/-! ### motions that keep a net and colours -/
end MN
namespace Y
open PySem PySem.Spec PyProof.Rows L2 Z
open MN (spotsL rowL upL Keeps Exact cellT)
/-! ### helpers -/
theorem mapI_fun {α : Type} {tg : Tg} {re : Rd} {ρ : Ev} {xs : List α} {f g : α → D} {Q : List D → Prop} (h : ∀ x ∈ xs, ∀ k : D → Prop, k (g x) → tgD tg (f x) ρ fun ρ2 => re ρ2 k) (hq : Q (xs.map g)) : mapI tg rYes re ρ (xs.map f) Q := by
  refine ⟨fun i acc => acc = (xs.take i).map g, rfl, fun i d acc hd hj => ?_, fun out hj => ?_⟩
  · obtain ⟨x, hx, rfl⟩ := map_get hd
    have z := h x (List.mem_of_getElem? hx) (fun y => acc ++ [y] = (xs.take (i + 1)).map g) (by rw [hj, List.take_succ, hx, List.map_append]; rfl)
    have key : ∀ (tg : Tg) (d : D) (q q' : Ev → Prop), (∀ ρ, q ρ → q' ρ) → tgD tg d ρ q → tgD tg d ρ q' := by
      intro tg d q q' hq
      have st : ∀ (is : List Nat) (ds : List D) (ρ : Ev), stN is ds ρ q → stN is ds ρ q' := by
        intro is
        induction is with
        | nil => intro ds ρ z; cases ds with
          | nil => exact hq _ z
          | cons _ _ => exact z
        | cons i is ih => intro ds ρ z; cases ds with
          | nil => exact z
          | cons d ds => exact ih ds _ z
      cases tg with
      | nm i => exact fun z => hq _ z
      | tp is => cases d <;> first | exact fun z => st _ _ _ z | exact fun z => z
    exact key _ _ _ _ (fun ρ2 z2 => ifB_T rfl z2) z
  · rw [List.length_map, List.take_length] at hj
    rw [hj]
    exact hq
/-! ### drawn carpets: a net and a text of its cell -/
def letSets : List Str := ["ab", "abc", "az", "qrb"]
def lets (t : Str) : Prop := ∃ s ∈ letSets, ∀ x ∈ t.cps.toList, x ∈ s.cps.toList
abbrev wovD (a b c : Int) (t : Str) : D := .tup [n3 a b c, .str t]
/-- a drawn carpet of at most n places -/
structure Wv (n : Int) (a b c : Int) (t : Str) : Prop where
  ok : MN.Ok a b c
  mx : a * c ≤ n
  ln : (t.cps.toList.length : Int) = a * c
  le : lets t
theorem Wv.okT {n a b c : Int} {t : Str} (h : Wv n a b c t) (hn : n ≤ 5000) : okT t a b c := ⟨h.ok, by have := h.mx; omega, h.ln⟩
def carCs : List Str := ["Carpet", "Woven"]
/-! ### carpets of both classes -/
end Y
namespace Y
open PySem PySem.Spec PyProof.Rows L2 Z
open MN (spotsL rowL upL Keeps Exact cellT)
/-! ### dicts from places to letters -/
theorem v_ {ρ : Ev} {i : Nat} {d : D} {Q : D → Prop} (e : ρ[i]? = some (.val d)) (h : Q d) : rVar i ρ Q := by
  unfold rVar
  rw [e]
  exact h
end Y
namespace Y
open PySem PySem.Spec PyProof.Rows L2 Z
open MN (spotsL rowL upL Keeps Exact cellT)
/-! ### equal carpets -/
/-- a drawn carpet and what the package made of it -/
abbrev Ent := (Int × Int × Int × Str) × (Str × Int × Int × Int × Str)
structure EntOk (n : Int) (e : Ent) : Prop where
  wv : Wv n e.1.1 e.1.2.1 e.1.2.2.1 e.1.2.2.2
  cl : e.2.1 ∈ carCs
  cp : Carp (colF e.1.2.2.2 e.1.1 e.1.2.1 e.1.2.2.1) e.2.2.1 e.2.2.2.1 e.2.2.2.2.1 e.2.2.2.2.2
theorem low_self {a b c x y : Int} (x0 : 0 ≤ x) (x1 : x < a) (y0 : 0 ≤ y) (y1 : y < c) : MN.low a b c x y = (x, y) := by
  unfold MN.low
  rw [Int.ediv_eq_zero_of_lt y0 y1]
  simp [Int.emod_eq_of_lt x0 x1]
end Y
namespace Y
open PySem PySem.Spec PyProof.Rows L2 Z
open MN (spotsL rowL upL Keeps Exact cellT Mtn mapp minv mmul turn tr Orth Img)
/-! ### carpets that are moved -/
theorem okT.keep {t : Str} {a b c x y : Int} (o : Y.okT t a b c) (z : MN.InN a b c x y) : Keeps (colF t a b c) x y := MN.keeps_net o.ok z
end Y
namespace GX
open PySem PySem.Spec PyProof.Rows L2 GenW Z Y
section
variable {P : Program} {w : World} {K : Frg} {mg : Str → Option Value} {base : Heap}
end
section
variable {X : Cx} {B : Bs} {o tg : Expr} {ro : Rd} {f : Addr} {qual : Str} {st : Stmt} {N : List Str} {k : Nat} {pos apos : Pos} {pl : Sem Bool}
end
/-! ### the pure rules -/
section
variable {X : Cx} {B : Bs} {pos : Pos} {rt : RdT} {rl : RdA} {s1 : RdS}
end
end GX
namespace MN
/-! ### the size of a meet -/
end MN
namespace MN
end MN
namespace Y
open PySem PySem.Spec PyProof.Rows L2 Z
open MN (spotsL Keeps Exact cellT)
/-! ### overlays -/
/-! ### the net of some nets -/
/-! ### carpets with a cell that is known -/
end Y
namespace Y
open PySem PySem.Spec PyProof.Rows L2 Z
open MN (spotsL Keeps Exact cellT)
/-! ### observations -/
structure Cw where
  C : Str
  a : Int
  b : Int
  c : Int
  t : Str
def Cw.d (x : Cw) : D := dCar x.C x.a x.b x.c x.t
def Cw.ok (x : Cw) : Prop := x.C ∈ carCs ∧ Y.okT x.t x.a x.b x.c
def Cw.col (x : Cw) : Int × Int → Nat := colF x.t x.a x.b x.c
/-! ### the law -/
structure Wq where
  a : Int
  b : Int
  c : Int
  t : Str
def Wq.d (w : Wq) : D := wovD w.a w.b w.c w.t
def Wq.ok (w : Wq) : Prop := Wv 12 w.a w.b w.c w.t
def Wq.col (w : Wq) : Int × Int → Nat := colF w.t w.a w.b w.c
end Y
namespace MN
end MN
namespace Y
open PySem PySem.Spec PyProof.Rows L2 Z
open MN (spotsL Keeps Exact cellT)
/-- the greatest number of times that something occurs in a list -/
def mxc (l : List Nat) : Nat := (l.map fun x => l.count x).foldl max 0
def grpC (cs : List Cw) (p : Int × Int) : Nat := mxc (cs.map fun c => c.col p)
/-- the first place with the least number -/
def least (cs : List Cw) (W U : Int) (p : Int × Int) : Prop := ∃ i : Nat, (spotsL W.toNat U.toNat)[i]? = some p ∧ ∀ (j : Nat) q, (spotsL W.toNat U.toNat)[j]? = some q → grpC cs p ≤ grpC cs q ∧ (j < i → grpC cs p < grpC cs q)
end Y
namespace MN
end MN
namespace Y
open PySem PySem.Spec PyProof.Rows L2 Z
open MN (spotsL Keeps Exact cellT)
/-! ### groups of doubled lists -/
/-- the carpets of the law: the last one may be a copy -/
structure okW (ws : List Wq) (k : Nat) : Prop where
  k1 : 1 ≤ k
  k3 : k ≤ 3
  kn : k ≤ ws.length
  n4 : ws.length ≤ 4
  ok : ∀ w ∈ ws, (Y.okT w.t w.a w.b w.c ∧ lowS w.t) ∧ w.a * w.c ≤ 16
  s8 : ∀ w ∈ ws.take k, w.a * w.c ≤ 8
  cp : ∀ w ∈ ws, ∃ w1 ∈ ws.take k, w1.col = w.col
/-! ### the fixed carpets -/
def w2 : List Str := List.replicate 2 ("ab" : Str) ++ [("bb" : Str)]
end Y
namespace GX
open PySem PySem.Spec PyProof.Rows L2 Z Y
section
variable {X : Cx} {B : Bs} {pos : Pos} {rt : RdT} {rl : RdA}
end
end GX
namespace Y
open PySem PySem.Spec PyProof.Rows L2 Z
open MN (spotsL Keeps Exact cellT)
section
variable {X : Cx} {B : Bs} {e : Expr} {r : Rd} {pos : Pos}
end
/-! ### what is known of a net's places -/
/-! ### promises -/
/-! ### lists of places -/
/-! ### the last one -/
end Y
namespace MN
section
variable {F : Pt → Nat} {a b c : Int} {s : Pt} {kn : List (Pt × Pt)} {wt sh : List Pt} {X : Pt → Prop}
theorem Srch.keys (h : Srch F a b c s kn wt sh X) (ha : 0 < a) (hc : 0 < c) : ∀ k ∈ kn.map (·.1), k ∈ spotsL a.toNat c.toNat := by
  intro k hk
  obtain ⟨⟨k', p⟩, hx, rfl⟩ := List.mem_map.mp hk
  obtain ⟨e, _⟩ := h.kw _ _ hx
  obtain ⟨r1, r2, r3, r4⟩ := low_rng (a := a) (b := b) (c := c) (x := p.1) (y := p.2) ha hc
  rw [show (k', p).1 = low a b c p.1 p.2 from e.symm]
  exact spotsL_mem.mpr ⟨r1, by omega, r3, by omega⟩
theorem nd_le {α : Type} [DecidableEq α] : ∀ (l m : List α), l.Nodup → (∀ x ∈ l, x ∈ m) → l.length ≤ m.length
  | [], _, _, _ => Nat.zero_le _
  | x :: l, m, nd, h => by
    obtain ⟨n1, n2⟩ := List.nodup_cons.mp nd
    have hx := h x List.mem_cons_self
    have := nd_le l (m.erase x) n2 fun y hy => (List.mem_erase_of_ne fun (e : y = x) => n1 (e ▸ hy)).mpr (h y (List.mem_cons_of_mem _ hy))
    rw [List.length_erase_of_mem hx] at this
    have h0 : 0 < m.length := List.length_pos_of_mem hx
    rw [List.length_cons]
    omega
theorem Srch.len (h : Srch F a b c s kn wt sh X) (ha : 0 < a) (hc : 0 < c) : kn.length ≤ (spotsL a.toNat c.toNat).length := by
  have := nd_le _ _ h.nd (h.keys ha hc)
  rwa [List.length_map] at this
/-- the first places of the classes -/
noncomputable def stq (F : Pt → Nat) (a b c : Int) (l : List Pt) : List Pt := l.foldl (fun acc k => if acc.any (fun s => clsB F a b c s k) then acc else acc ++ [k]) []
noncomputable def startsL (F : Pt → Nat) (a b c : Int) : List Pt := stq F a b c (spotsL a.toNat c.toNat)
end
end MN
namespace Y
open PySem PySem.Spec PyProof.Rows L2 Z
open MN (Pt nbs Conn Stab Cls lkQ lowP Srch SrN Prt Bas BasOk spotsL Keeps Sp Form clsB startsL)
/-! ### parts -/
def kvK (kn : List (Pt × Pt)) : List (List Int × D) := kn.map fun x => ([x.1.1, x.1.2], plD x.2)
def kpD (kn : List (Pt × Pt)) : D := .dpl ((kvK kn).map (·.1)) ((kvK kn).map (·.2))
def basD : Bas → D
  | .nil => .tup []
  | .one x y => .tup [dPl x y]
  | .two a b c => .tup [dPl a 0, dPl b c]
structure Pr where
  st : Pt
  kn : List (Pt × Pt)
  bas : Bas
  col : Nat
  bd : Nat
abbrev partD (k : Nat) (s : Pt) (kn : List (Pt × Pt)) (β : Bas) (bd : Nat) : D := .obj "Part" ["own_colour", "own_start", "known", "own_places", "own_basis", "own_border"] [.str (chr1 k), plD s, kpD kn, .int (kn.length : Nat), basD β, .int (bd : Nat)]
def Pr.d (x : Pr) : D := partD x.col x.st x.kn x.bas x.bd
/-- how great the numbers of a basis are -/
def basSz (n : Nat) : Bas → Prop
  | .nil => True
  | .one x y => Sz n x ∧ Sz n y
  | .two a _ c => Sz n a ∧ Sz n c
structure PrOk (F : Pt → Nat) (a b c : Int) (x : Pr) : Prop where
  prt : Prt F a b c x.st x.kn
  bs : BasOk (Stab F a b c x.st) x.bas
  cl : x.col = F x.st
  br : x.bd = MN.brd F a b c x.st
  cell : x.st ∈ spotsL a.toNat c.toNat
  sz : basSz 100 x.bas
def pMax : Int := 64
/-- a carpet whose parts are looked for -/
structure CarP (C : Str) (a b c : Int) (t : Str) : Prop where
  cs : C ∈ carCs
  o : okT t a b c
  mx : a * c ≤ pMax
/-! ### the search, as the programs do it -/
theorem CarP.N {C : Str} {a b c : Int} {t : Str} (h : CarP C a b c t) : (spotsL a.toNat c.toNat).length ≤ 64 := by
  have mx : a * c ≤ 64 := h.mx
  have a0 := h.o.a
  have c0 := h.o.c
  rw [MN.spotsL_len]
  obtain ⟨a', rfl⟩ := Int.eq_ofNat_of_zero_le (Int.le_of_lt a0)
  obtain ⟨c', rfl⟩ := Int.eq_ofNat_of_zero_le (Int.le_of_lt c0)
  rw [Int.toNat_natCast, Int.toNat_natCast]
  exact_mod_cast mx
/-- the state of the search -/
structure SrS (F : Pt → Nat) (a b c : Int) (s : Pt) (kn : List (Pt × Pt)) (wt sh : List Pt) (bd : Nat) : Prop where
  z : Srch F a b c s kn wt sh fun _ => False
  n : SrN F kn wt sh bd 0 0
/-- the state while the neighbours l of p are looked at, those of l1 are done -/
structure SrM (F : Pt → Nat) (a b c : Int) (s p : Pt) (l1 l2 : List Pt) (kn : List (Pt × Pt)) (wt sh : List Pt) (bd : Nat) : Prop where
  z : Srch F a b c s kn wt sh (· = p)
  k : ∃ k, (k, p) ∈ kn
  d : MN.Done F a b c kn sh p l1
  n : SrN F kn wt sh bd (MN.unl F p l2) l2.length
section
variable {F : Pt → Nat} {a b c : Int} {s p q : Pt} {l1 l2 : List Pt} {kn : List (Pt × Pt)} {wt sh : List Pt} {bd : Nat}
end
/-! ### the parts of a carpet -/
/-- what is known of the places when the parts of some starts were found -/
structure PtS (F : Pt → Nat) (a b c : Int) (l : List Pt) (xs : List Pr) (ks : List Pt) : Prop where
  ok : ∀ x ∈ xs, PrOk F a b c x
  st : xs.map Pr.st = MN.stq F a b c l
  sub : ∀ k ∈ ks, k ∈ spotsL a.toNat c.toNat
  nd : ks.Nodup
  iff : ∀ k ∈ spotsL a.toNat c.toNat, (k ∈ ks ↔ ∃ s ∈ MN.stq F a b c l, Cls F a b c s k)
section
variable {F : Pt → Nat} {a b c : Int} {l : List Pt} {xs : List Pr} {ks : List Pt} {k : Pt}
theorem PtS.len (h : PtS F a b c l xs ks) : ks.length ≤ (spotsL a.toNat c.toNat).length := MN.nd_le _ _ h.nd h.sub
end
end Y
namespace Y
open PySem PySem.Spec PyProof.Rows L2 Z
open MN (spotsL rowL upL Keeps Exact cellT Mtn mapp minv mmul turn tr Orth Img)
end Y
namespace Y
open PySem PySem.Spec PyProof.Rows L2 Z
open MN (spotsL rowL upL Keeps Exact cellT Mtn mapp minv mmul turn tr Orth Img)
/-! ### comparing carpets -/
/-- an exact carpet, its text small letters -/
structure Ex1 (n : Int) (a b c : Int) (t : Str) : Prop where
  cp : Carp (colF t a b c) a b c t
  mx : a * c ≤ n
  lo : lowS t
end Y
namespace Y
open PySem PySem.Spec PyProof.Rows L2 Z
/-! ### one letter of a text changed -/
end Y
namespace Y
open PySem PySem.Spec PyProof.Rows L2 Z
end Y
namespace Y
open PySem PySem.Spec PyProof.Rows L2 Z
open MN (spotsL rowL upL Keeps Exact cellT Mtn mapp minv mmul turn tr Orth Img InN)
/-! ### where carpets differ -/
end Y
namespace Y
open PySem PySem.Spec PyProof.Rows L2 Z
open MN (Pt nbs Conn Stab Cls lkQ lowP Srch SrN Prt Bas BasOk spotsL Keeps Sp Form clsB startsL)
/-! ### repainted parts -/
/-- a least cell with letters of its own -/
structure Lw (n : Int) (a b c : Int) (t : Str) : Prop where
  cp : Carp (colF t a b c) a b c t
  mx : a * c ≤ n
  le : lets t
section
variable {F : Pt → Nat} {a b c : Int} {p q s : Pt} {k : Nat}
end
end Y
namespace Y
open PySem PySem.Spec PyProof.Rows L2 Z
open MN (Pt nbs Conn Stab Cls lkQ lowP Srch SrN Prt Bas BasOk spotsL Keeps Sp Form clsB startsL)
/-! ### tuples put together, empty ones too -/
/-! ### joined places -/
section
variable {F : Pt → Nat} {a b c : Int} {s first second p1 q1 : Pt} {kn : List (Pt × Pt)}
end
/-! the starts differ -/
/-! ### promises -/
/-- what is told: a shown value, a truth -/
abbrev hr1 (d : D) : D := .lst [.str (shD d), .bl true]
end Y
namespace L2
open PySem PySem.Spec PyProof.Rows
/-! ### set(l) of a list of ints -/
section
variable {P : Program} {w : World} {A : Around} {E : Value → Shared → Prop} {s : Shared}
variable {a : Addr} {S : Int → Bool} {n : Nat}
end
end L2
namespace Y
open PySem PySem.Spec PyProof.Rows L2 Z
section
variable {X : Cx}
end
section
variable {X : Cx} {B : Bs} {e : Expr} {rl : RdA} {p0 p1 pos pos1 : Pos}
end
end Y
namespace TK
open PySem PySem.Spec PyProof.Rows L2
/-! ### sets of tuples of ints, texts and None -/
def flatN : NestedKey → Bool
  | .tup _ => false
  | _ => true
def flatT : NestedKey → Bool
  | .tup ks => ks.all flatN
  | _ => false
/-- the tuple k at b -/
def IsF (h : Heap) (k : NestedKey) (b : Addr) : Prop := NestedIs h k (.ref b) ∧ flatT k = true
theorem IsF.keep {h h' : Heap} {k : NestedKey} {b : Addr} (x : IsF h k b) (hk : ∀ c o, h.get? c = some o → h'.get? c = some o) : IsF h' k b := ⟨NestedIs.at (fun c o _ _ e _ => hk c o e) k _ x.1, x.2⟩
theorem IsF.items {h : Heap} {k : NestedKey} {b : Addr} (x : IsF h k b) : ∃ o vs n ks, h.get? b = some o ∧ o.cls = .type "tuple" ∧ o.data = .seq vs n ∧ NestedAll h ks vs.toList ∧ ks.all flatN = true ∧ k = .tup ks := by
  obtain ⟨x1, x2⟩ := x
  cases k with
  | tup ks => cases x1 with | tup h1 h2 h3 h4 => exact ⟨_, _, _, _, h1, h2, h3, h4, x2, rfl⟩
  | _ => cases x2
theorem IsF.same {h h' : Heap} {k : NestedKey} {a b : Addr} {o : Obj} {es : Array (Int × Value)} {ep : Nat} {t : SetTable} (x : IsF h k b) (ho : h.get? a = some o) (hd : o.data = .set es ep t) (hs : Heap.SameBut a h h') : IsF h' k b :=
  ⟨NestedIs.at (fun c u _ _ e1 e2 => by
    refine (hs.2 c fun e => ?_).trans e1
    subst e
    obtain rfl := Option.some.inj (ho.symm.trans e1)
    rw [hd] at e2
    cases e2) k _ x.1, x.2⟩
section
variable {P : Program} {w : World} {A : Around} {E : Value → Shared → Prop} {s : Shared}
end
/-! ### the set: its rows and its table -/
abbrev Row := Addr × NestedKey
def hv (w : World) (p : Row) : Int := p.2.hash w
def tabRows (w : World) (L : List Row) : List (Int × Value) := L.map fun p => (hv w p, Value.ref p.1)
theorem tabRows_len (w : World) (L : List Row) : (tabRows w L).length = L.length := by simp [tabRows]
structure SetK (w : World) (h : Heap) (a : Addr) (L : List Row) (es : Array (Int × Value)) (ep : Nat) (t : SetTable) : Prop where
  ob : ∃ o, h.get? a = some o ∧ o.ExactSet ∧ o.data = .set es ep t
  rw : es.toList = tabRows w L
  tb : TabOk t (L.map (hv w))
  nd : (L.map (·.2)).Nodup
  tp : ∀ p ∈ L, IsF h p.2 p.1
  ld : w.params.followText "set-order" = true ∨ t.led = true
  rm : L.length * 5 < t.mask * 3
  fw : L.length < 64
section
variable {P : Program} {w : World} {A : Around} {E : Value → Shared → Prop} {s : Shared} {a : Addr} {L : List Row} {es : Array (Int × Value)} {ep : Nat} {t : SetTable}
theorem SetK.sz {h : Heap} (R : SetK w h a L es ep t) : es.size = L.length := by
  rw [← Array.length_toList, R.rw, tabRows_len]
theorem SetK.fits {h : Heap} (R : SetK w h a L es ep t) : t.fits es.size = true := by
  have h1 := R.tb.sz
  have h2 := R.sz
  have h3 := R.rm
  rw [List.length_map] at h1
  simp only [SetTable.fits, SetTable.fill, R.tb.dm, Bool.and_eq_true, beq_iff_eq, decide_eq_true_eq]
  exact ⟨by omega, by show t.place.size + 0 ≤ t.mask; omega⟩
theorem SetK.entry {h : Heap} (R : SetK w h a L es ep t) {i : Nat} {p : Row} (hp : L[i]? = some p) : es[i]? = some (hv w p, Value.ref p.1) := by
  rw [← Array.getElem?_toList, R.rw, tabRows, List.getElem?_map, hp]
  rfl
theorem SetK.keep {h h' : Heap} (R : SetK w h a L es ep t) (hk : ∀ c o, h.get? c = some o → h'.get? c = some o) : SetK w h' a L es ep t :=
  let ⟨o, h1, h2⟩ := R.ob
  ⟨⟨o, hk a o h1, h2⟩, R.rw, R.tb, R.nd, fun p hp => (R.tp p hp).keep hk, R.ld, R.rm, R.fw⟩
/-! ### adding -/
end
end TK
namespace TK
open PySem PySem.Spec PyProof.Rows L2
/-- the rows that are in, when i rows of ks have been put in -/
structure InI (ks : List Row) (i : Nat) (L : List Row) : Prop where
  sub : ∀ p ∈ L, p ∈ ks.take i
  all : ∀ p ∈ ks.take i, p.2 ∈ L.map (·.2)
theorem take1 {α : Type} {l : List α} {i : Nat} {x : α} (h : l[i]? = some x) : l.take (i + 1) = l.take i ++ [x] := by
  rw [List.take_succ, h]
  rfl
theorem InI.old {ks L : List Row} {i : Nat} {x : Row} (g : InI ks i L) (h : ks[i]? = some x) (m : x.2 ∈ L.map (·.2)) : InI ks (i + 1) L := by
  refine ⟨fun p hp => ?_, fun p hp => ?_⟩ <;> rw [take1 h] at *
  · exact List.mem_append_left _ (g.sub p hp)
  · rcases List.mem_append.mp hp with z | z
    · exact g.all p z
    · exact List.mem_singleton.mp z ▸ m
theorem InI.new {ks L L' : List Row} {i : Nat} {x : Row} (g : InI ks i L) (h : ks[i]? = some x) (pm : L'.Perm (x :: L)) : InI ks (i + 1) L' := by
  refine ⟨fun p hp => ?_, fun p hp => ?_⟩ <;> rw [take1 h] at *
  · rcases List.mem_cons.mp (pm.mem_iff.mp hp) with z | z
    · exact List.mem_append_right _ (List.mem_singleton.mpr z)
    · exact List.mem_append_left _ (g.sub p z)
  · rw [(pm.map (·.2)).mem_iff]
    rcases List.mem_append.mp hp with z | z
    · exact .tail _ (g.all p z)
    · rw [List.mem_singleton.mp z]
      exact .head _
abbrev set0 (w : World) : Obj := { cls := .type "set", dict := none, data := .set #[] 0 (.fresh 0 0 (!w.params.followText "set-order")) }
section
variable {P : Program} {w : World} {A : Around} {E : Value → Shared → Prop} {s : Shared}
end
end TK
namespace Y
open PySem PySem.Spec PyProof.Rows L2 Z TK
/-! ### sorted(set(l)) of a list of flat tuples -/
section
variable {X : Cx} {pins : List (Addr × Obj)} {σ : L2.St} {H F : Hp} {s : Shared} {ms : List Addr}
end
section
variable {X : Cx}
end
section
variable {X : Cx} {B : Bs} {e : Expr} {rl : RdA} {p0 p1 pos pos1 : Pos}
end
end Y
namespace MN
/-! ### colours that touch -/
def Tou (F : Pt → Nat) (i j : Nat) : Prop := ∃ p q, q ∈ nbs p ∧ F p = i ∧ F q = j
end MN
namespace Y
open PySem PySem.Spec PyProof.Rows L2 Z
open MN (Pt nbs spotsL Tou)
/-! ### pairs of colours, sorted -/
structure TouM (F : Pt → Nat) (L : List (Nat × Nat)) : Prop where
  nd : L.Nodup
  mem : ∀ x, x ∈ L ↔ x.1 < x.2 ∧ Tou F x.1 x.2
/-! ### < of texts -/
/-! ### pairs that are gathered -/
structure AccP (F : Pt → Nat) (PL : List (Pt × Pt)) (A : List (Nat × Nat)) (k : Nat) : Prop where
  nd : A.Nodup
  mem : ∀ x, x ∈ A ↔ x.1 < x.2 ∧ ∃ z ∈ PL, F z.1 = x.1 ∧ F z.2 = x.2
  len : A.length ≤ k
theorem AccP.new {F : Pt → Nat} {PL : List (Pt × Pt)} {A : List (Nat × Nat)} {k : Nat} (h : AccP F PL A k) {p q : Pt} (l : F p < F q) (n : (F p, F q) ∉ A) : AccP F (PL ++ [(p, q)]) (A ++ [(F p, F q)]) (k + 1) := by
  refine ⟨List.nodup_append.mpr ⟨h.nd, List.nodup_cons.mpr ⟨(fun z => nomatch z), .nil⟩, fun a ha b hb e => n ?_⟩, fun x => ?_, by rw [List.length_append]; exact Nat.succ_le_succ h.len⟩
  · rw [← List.mem_singleton.mp hb, ← e]
    exact ha
  · rw [List.mem_append, List.mem_singleton, h.mem]
    constructor
    · rintro (⟨h1, z, hz, h2⟩ | rfl)
      · exact ⟨h1, z, List.mem_append_left _ hz, h2⟩
      · exact ⟨l, (p, q), List.mem_append_right _ (.head _), rfl, rfl⟩
    · rintro ⟨h1, z, hz, h2, h3⟩
      rcases List.mem_append.mp hz with hz | hz
      · exact .inl ⟨h1, z, hz, h2, h3⟩
      · rw [List.mem_singleton.mp hz] at h2 h3
        exact .inr (Prod.ext h2.symm h3.symm)
theorem AccP.old {F : Pt → Nat} {PL : List (Pt × Pt)} {A : List (Nat × Nat)} {k : Nat} (h : AccP F PL A k) {p q : Pt} (n : F p < F q → (F p, F q) ∈ A) : AccP F (PL ++ [(p, q)]) A (k + 1) := by
  refine ⟨h.nd, fun x => ?_, Nat.le_succ_of_le h.len⟩
  rw [h.mem]
  constructor
  · rintro ⟨h1, z, hz, h2⟩
    exact ⟨h1, z, List.mem_append_left _ hz, h2⟩
  · rintro ⟨h1, z, hz, h2, h3⟩
    rcases List.mem_append.mp hz with hz | hz
    · exact ⟨h1, z, hz, h2, h3⟩
    · rw [List.mem_singleton.mp hz] at h2 h3
      have := (h.mem _).mp (n (by dsimp only at h2 h3; omega))
      dsimp only at this h2 h3
      rw [h2, h3] at this
      exact this
/-! ### two carpets of the last rows -/
/-! ### contracts -/
end Y
namespace Y
open PySem PySem.Spec PyProof.Rows L2 Z
/-! ### sorted(d.items()) of an own dict -/
section
variable {X : Cx} {pins : List (Addr × Obj)} {σ : L2.St} {H F : Hp} {s : Shared} {ms : List Addr}
mutual
theorem reads_adr {h : Heap} : ∀ {v : Value} {d : PyData} {A : List Addr}, Reads h v d A → ∀ b ∈ A, ∃ o, h.get? b = Option.some o
  | _, _, _, .none, b, hb => nomatch hb
  | _, _, _, .bool _, b, hb => nomatch hb
  | _, _, _, .int _ _, b, hb => nomatch hb
  | _, _, _, .str _ _, b, hb => nomatch hb
  | _, _, _, .list h1 _ _ r, b, hb => by
    rcases List.mem_cons.mp hb with rfl | hb
    · exact ⟨_, h1⟩
    · exact readsAll_adr r b hb
  | _, _, _, .tuple h1 _ _ r, b, hb => readsAll_adr r b hb
  | _, _, _, .dict h1 _ _ r1 r2, b, hb => by
    rcases List.mem_append.mp hb with hb | hb
    · rcases List.mem_cons.mp hb with rfl | hb
      · exact ⟨_, h1⟩
      · exact readsAll_adr r1 b hb
    · exact readsAll_adr r2 b hb
theorem readsAll_adr {h : Heap} : ∀ {v : List Value} {d : List PyData} {A : List Addr}, ReadsAll h v d A → ∀ b ∈ A, ∃ o, h.get? b = Option.some o
  | _, _, _, .nil, b, hb => nomatch hb
  | _, _, _, .cons r1 r2, b, hb => by
    rcases List.mem_append.mp hb with hb | hb
    · exact reads_adr r1 b hb
    · exact readsAll_adr r2 b hb
end
end
section
variable {X : Cx} {pins : List (Addr × Obj)} {σ : L2.St} {H F : Hp} {s : Shared}
end
section
variable {X : Cx} {B : Bs} {x : Str} {i k : Nat} {pv p0 apos cpos pos : Pos}
end
end Y
namespace Y
open PySem PySem.Spec PyProof.Rows L2 Z
/-! ### l.count(x) of a list of data -/
section
variable {X : Cx} {B : Bs} {o e : Expr} {ro r : Rd} {pos apos cpos : Pos}
end
end Y
/-! tuple * number -/
namespace Y
open PySem PySem.Spec PyProof.Rows L2 Z
end Y
/-! told dicts with place keys: items(), values() -/
namespace Y
open PySem PySem.Spec PyProof.Rows L2 Z
theorem DKs.get {K : Frg} {F : Hp} {ks : List (List Int)} {xs : List (List Int × Addr × Value)} {vs : List V} (h : DKs K F ks xs vs) : ∀ {i : Nat} {x : List Int × Addr × Value}, xs[i]? = some x → ∃ v, ks[i]? = some x.1 ∧ vs[i]? = some v ∧ SqT K F x.2.1 (x.1.map V.int) ∧ RelV v x.2.2 := by
  induction h with
  | nil => intro i x hx; cases hx
  | cons h1 h2 _ ih =>
    intro i x hx
    cases i with
    | zero => cases hx; exact ⟨_, rfl, rfl, h1, h2⟩
    | succ i => exact ih hx
theorem DKs.len {K : Frg} {F : Hp} {ks : List (List Int)} {xs : List (List Int × Addr × Value)} {vs : List V} (h : DKs K F ks xs vs) : ks.length = xs.length ∧ vs.length = xs.length := by
  induction h with
  | nil => exact ⟨rfl, rfl⟩
  | cons _ _ _ ih => exact ⟨by simp [ih.1], by simp [ih.2]⟩
section
variable {X : Cx} {B : Bs} {e o : Expr} {r ro : Rd} {pos apos cpos tpos : Pos}
end
end Y
/-! set comprehensions -/
namespace Y
open PySem PySem.Spec PyProof.Rows L2 Z
/-- sets that a comprehension fills -/
structure SFam (T : Type) where
  O : World → Addr → T → HO
  z : T
  cap : Nat
  el : D → Bool
  Nx : V × D → T → T → Prop
inductive SFam.Fills {T : Type} (S : SFam T) : List (V × D) → T → Prop
  | nil : S.Fills [] S.z
  | snoc {zs : List (V × D)} {p : V × D} {st st' : T} : S.Fills zs st → S.Nx p st st' → S.Fills (zs ++ [p]) st'
def SFam.Put {T : Type} (S : SFam T) (K : Frg) (H : Hp) (y : V) (st : T) (P : T → Prop) : Prop := ∃ (d : D) (zs : List (V × D)) (ms : List Addr) (F : Hp) (U : List D), Same F H ∧ (∀ z ∈ zs, Rp K ms F z.1 z.2 ∧ S.el z.2 = true) ∧ Rp K ms F y d ∧ S.el d = true ∧ S.Fills zs st ∧ (∀ z ∈ zs, z.2 ∈ U) ∧ d ∈ U ∧ U.length ≤ S.cap ∧ ∀ st', S.Nx (y, d) st st' → P st'
structure SFam.Good {T : Type} (S : SFam T) : Prop where
  new : ∀ {P : Program} {w : World} {H : Hp} {h : Heap}, ObjOk P w H (h.push (TK.set0 w)) h.objs.size (S.O w h.objs.size S.z)
  add : ∀ {X : Cx} {pins : List (Addr × Obj)} {σ : L2.St} {H : Hp} {s : Shared} {E : Value → Shared → Prop} {D : Addr} {st : T} {y : V} {u : Value} {P : T → Prop} {Q : Value → Shared → Prop}, X.A.units + 64 < cLine → L2.Inv X pins σ H s → H D = some (S.O X.w D st) → RelV y u → S.Put X.K H y st P →
    (∀ st' s', P st' → L2.Inv X pins σ (upd H D (S.O X.w D st')) s' → Q .none s') → wpAny (model X.prog X.w) X.A (call (.builtin "set.add") [.ref D, u]) Q E s
section
variable {T : Type} {S : SFam T} {X : Cx}
/-- what differs from one sort of comprehension to the next: the new thing, what a turn does with an item, the kit's rules of the loop and of its start -/
structure CSort (X : Cx) (ex tg : Expr) (ifs : List Expr) where
  nw : Sem Value
  ob : Obj
  step : Env → Addr → (Shared → Prop) → (Value → Shared → Prop) → Shared → Prop
  made : ∀ {s : Shared} {E : Value → Shared → Prop} {Q : Value → Shared → Prop}, Q (.ref s.heap.objs.size) { s with heap := s.heap.push ob } → wpAny (model X.prog X.w) X.A nw Q E s
  loop : ∀ {R : Result → Shared → Prop} {it : Value} {D : Addr} {env : Env} (J : Nat → Shared → Prop),
    (∀ n s, J n s → wpAny (model X.prog X.w) X.A (pyNext it) (fun r s1 => match r with
      | none => R (.ok .next) s1
      | some v => wpAny (model X.prog X.w) X.A (letOwnedTupleGo tg it v) (fun _ s2 => wpAny (model X.prog X.w) X.A (assign tg env v) (fun _ s3 =>
          wpAny (model X.prog X.w) X.A (forIn ifs true fun c r => if r = true then do let ok ← isTrue c env (eval c env); pure (ForInStep.yield ok) else pure (ForInStep.yield r)) (fun ok s4 =>
            if ok = true then step env D (fun s' => ∃ m, m < n ∧ J m s') (notedBy (model X.prog X.w) X.A env fun e s' => R (.error e) s') s4 else ∃ m, m < n ∧ J m s4)
            (notedBy (model X.prog X.w) X.A env fun e s' => R (.error e) s') s3) (notedBy (model X.prog X.w) X.A env fun e s' => R (.error e) s') s2) (notedBy (model X.prog X.w) X.A env fun e s' => R (.error e) s') s1)
      (notedBy (model X.prog X.w) X.A env fun e s' => R (.error e) s') s) → ∀ n s, J n s → codeAny (model X.prog X.w) X.A (.compLoop ex 0 it (.ref D) env) R s
  start : ∀ {R : Result → Shared → Prop} {it : Value} {D : Addr} {env : Env} {s : Shared}, codeAny (model X.prog X.w) X.A (.compLoop ex 0 it (.ref D) env) R s →
    wpAny (model X.prog X.w) X.A (pyIter it) (fun jt s' => codeAny (model X.prog X.w) X.A (.compLoop ex 0 jt (.ref D) env) R s') (notedBy (model X.prog X.w) X.A env fun e s' => R (.error e) s') s → codeAny (model X.prog X.w) X.A (.compStart ex 0 it (.ref D) env) R s
end
/-! ### sets -/
section
variable {T : Type} {S : SFam T} {X : Cx}
end
/-! ### in the pure layer -/
section
variable {T : Type} {S : SFam T}
variable {X : Cx} {B : Bs} {rt : RdT} {rl : RdA} {pos : Pos}
end
end Y
/-! sets of numbers, sets of tuples from a comprehension: len, sorted -/
namespace Y
open PySem PySem.Spec PyProof.Rows L2 Z
open TK (SetK IsF)
/-! ### tuples -/
end Y
/-! len and sorted of a set comprehension -/
namespace Y
open PySem PySem.Spec PyProof.Rows L2 Z
section
variable {X : Cx}
end
section
variable {X : Cx} {B : Bs} {rt : RdT} {rl : RdA} {p0 pos pos1 : Pos}
end
end Y
/-! dict comprehensions whose keys are tuples of numbers -/
namespace Y
open PySem PySem.Spec PyProof.Rows L2 Z
section
variable {X : Cx}
end
section
variable {X : Cx} {B : Bs} {rt : RdT} {rl : RdA} {pos : Pos}
end
end Y
namespace TX
open PySem PySem.Spec PyProof.Rows L2
/-! ### sets of texts -/
def txOf (e : Int × Value) : Str := match e.2 with
  | .str x _ => x
  | _ => Str.empty
def IsTx (w : World) (e : Int × Value) : Prop := ∃ x u, e.2 = Value.str x u ∧ e.1 = hashStr w x
structure SetS (w : World) (h : Heap) (a : Addr) (L : List Str) (es : Array (Int × Value)) (ep : Nat) (t : SetTable) : Prop where
  ob : ∃ o, h.get? a = some o ∧ o.ExactSet ∧ o.data = .set es ep t
  tx : ∀ e ∈ es.toList, IsTx w e
  ls : es.toList.map txOf = L
  nd : L.Nodup
  ft : t.fits es.size = true
  rs : Ris t.place.toList
  ld : w.params.followText "set-order" = true ∨ t.led = true
section
variable {P : Program} {w : World} {A : Around} {E : Value → Shared → Prop} {s : Shared} {a : Addr} {L : List Str} {es : Array (Int × Value)} {ep : Nat} {t : SetTable}
theorem SetS.sz {h : Heap} (R : SetS w h a L es ep t) : es.size = L.length := by
  rw [← R.ls, List.length_map, Array.length_toList]
theorem SetS.keep {h h' : Heap} (R : SetS w h a L es ep t) (hk : ∀ o, h.get? a = some o → h'.get? a = some o) : SetS w h' a L es ep t :=
  let ⟨o, h1, h2⟩ := R.ob
  ⟨⟨o, hk o h1, h2⟩, R.tx, R.ls, R.nd, R.ft, R.rs, R.ld⟩
/-- the texts that are in, when i of ks have been put in -/
structure InS (ks : List Str) (i : Nat) (L : List Str) : Prop where
  mem : ∀ k, k ∈ L ↔ k ∈ ks.take i
end
end TX
namespace Y
open PySem PySem.Spec PyProof.Rows L2 Z TX
/-! ### sorted(set(x)) of a text -/
section
variable {X : Cx}
end
section
variable {X : Cx} {B : Bs} {e : Expr} {rl : RdA} {p0 p1 pos pos1 : Pos}
end
end Y
namespace Y
open PySem PySem.Spec PyProof.Rows L2 Z Builtin Builtin.Float
/-! ### f"{n:>w}" of ints that are not below 0 -/
section
variable {prog : Program} {w : World} {A : Around} {E : Value → Shared → Prop} {s : Shared}
end
end Y
namespace Y
open PySem PySem.Spec PyProof.Rows L2 Z Builtin Builtin.Float
section
variable {X : Cx} {B : Bs} {e : Expr} {r : Rd}
end
end Y
namespace Y
open PySem PySem.Spec PyProof.Rows L2 Z
open MN (spotsL Keeps Exact cellT)
/-! ### carpets of other sizes -/
def numOk : D → Int → D → Bool
  | .int i, l, .non => decide (l ≤ i)
  | .int i, l, .int u => decide (l ≤ i) && decide (i ≤ u)
  | _, _, _ => false
abbrev pos1 (v : D) : Bool := numOk v 1 .non
/-! ### what is refused -/
end Y
namespace Y
open PySem PySem.Spec PyProof.Rows L2 Z
/-! ### text.count(sign), rows[::-1] -/
section
variable {X : Cx} {B : Bs} {o e : Expr} {ro r : Rd} {apos cpos : Pos}
end
end Y
namespace Y
open PySem PySem.Spec PyProof.Rows L2 Z
/-! ### contracts of pictures -/
end Y
namespace Y
open PySem PySem.Spec PyProof.Rows L2 Z
/-! ### s * n for any n -/
end Y
namespace Y
open PySem PySem.Spec PyProof.Rows L2 Z
end Y
namespace Y
open PySem PySem.Spec PyProof.Rows L2 Z
/-! ### lists of texts, compared -/
end Y
namespace Y
open PySem PySem.Spec PyProof.Rows L2 Z
end Y
namespace Y
open PySem PySem.Spec PyProof.Rows L2 Z
end Y
/-! new dicts with tuple keys, their len, d[e] = x.setdefault(..), xs[::-1] -/
namespace Y
open PySem PySem.Spec PyProof.Rows L2 Z
section
variable {X : Cx} {B : Bs} {e ev : Expr} {r : Rd} {pos pv pos' p0 p1 p2 p3 : Pos} {x : Str} {i k : Nat}
end
end Y
/-! set and dict comprehensions over a generator -/
namespace GX
open PySem PySem.Spec PyProof.Rows L2 Z Y
section
variable {X : Cx}
variable {B : Bs} {rt : RdT} {rl : RdA} {pos : Pos}
end
end GX
namespace Y
open PySem PySem.Spec PyProof.Rows L2 Z
/-! ### try: body, except C as n: suite, except (C1, C2, C3, C4) as n: suite, .. -/
/-- a clause's test, once the error lies in a suite's state -/
def TestM (X : Cx) (te : Expr) (cs : List Value) : Prop := ∀ {a : Addr} {pn : List (Addr × Obj)} {σ : L2.St} {H : Hp} {s : Shared} {cls : Value} {b : Bool} {Q : Bool → Shared → Prop} {E : Value → Shared → Prop},
  Inv (X.suite a pn) [] σ H s → PySem.W.Looks (model X.prog X.w) s.heap (typeOf (.ref a)) cls → PySem.W.exmAny X.K cls cs = some b →
  (∀ h', (∀ q o, s.heap.get? q = some o → h'.get? q = some o) → Q b { s with heap := h' }) →
  wpAny (model X.prog X.w) (X.A.mark (some (.ref a))) (eval te X.env) (fun c s1 => wpAny (model X.prog X.w) (X.A.mark (some (.ref a))) (excMatches (.ref a) c) Q E s1) E s
section
variable {X : Cx} {x x1 x2 x3 x4 : Str} {c c1 c2 c3 c4 : Value} {p p1 p2 p3 p4 : Pos}
end
/-- .. by the classes' names -/
structure TestQ (X : Cx) (te : Expr) (cs : List Str) : Prop where
  t : TestM X te (cs.map fun C => .ref (He.ga X.K C))
inductive HdsM (X : Cx) : List ExceptHandler → List (List Value × Nat × TS) → Prop
  | nil : HdsM X [] []
  | cons {te : Expr} {n : Str} {cs : List Value} {i : Nat} {ts : TS} {b₀ : Stmt} {suite : List Stmt} {pos' : Pos} {hds : List ExceptHandler} {l : List (List Value × Nat × TS)} (hc : TestM X te cs) (hi : X.N[i]? = some n) (hln : X.env.kindOf n = some .local)
      (hsu : ∀ (a : Addr) (pn : List (Addr × Obj)), PSs (X.suite a pn) (b₀ :: suite) ts) (r : HdsM X hds l) :
      HdsM X (.ExceptHandler (some te) (some n) (b₀ :: suite) pos' :: hds) ((cs, i, ts) :: l)
section
variable {X : Cx} {body : List Stmt} {h₀ : ExceptHandler} {hds : List ExceptHandler} {l : List (List Value × Nat × TS)} {pos : Pos} {tb : WX → TS} {Wout : WX}
end
section
variable {X : Cx} {B : Bs} {e : Expr} {pos p1 : Pos}
inductive HdsQ (X : Cx) (B : Bs) : List ExceptHandler → List (List Str × Nat × RdS) → Prop
  | nil : HdsQ X B [] []
  | cons {te : Expr} {n : Str} {cs : List Str} {i : Nat} {rs : RdS} {b₀ : Stmt} {suite : List Stmt} {pos' : Pos} {hds : List ExceptHandler} {l : List (List Str × Nat × RdS)} (hc : TestQ X te cs) (hi : X.N[i]? = some n) (hln : X.env.kindOf n = some .local)
      (hsu : ∀ (a : Addr) (pn : List (Addr × Obj)), PSsp (X.suite a pn) B.nox (b₀ :: suite) rs) (r : HdsQ X B hds l) :
      HdsQ X B (.ExceptHandler (some te) (some n) (b₀ :: suite) pos' :: hds) ((cs, i, rs) :: l)
def hdM (K : Frg) (B : Bs) (q : List Str × Nat × RdS) : List Value × Nat × TS := (q.1.map fun C => .ref (He.ga K C), q.2.1, tS K B.nox q.2.2)
theorem HdsQ.n {hds : List ExceptHandler} {l : List (List Str × Nat × RdS)} (h : HdsQ X B hds l) : HdsM X hds (l.map (hdM X.K B)) := by
  induction h with
  | nil => exact .nil
  | cons hc hi hln hsu _ ih => exact .cons hc.t hi hln hsu ih
end
/-! ### o.m(..), m a class method of o's class -/
section
variable {X : Cx} {B : Bs} {o e : Expr} {es : List Expr} {ro : Rd} {rl : RdA} {pos apos : Pos} {R : RdF} {k : Nat} {g p : Addr} {m : Str}
end
/-! ### isinstance(x, (list, tuple)), x any plain value -/
section
variable {X : Cx} {B : Bs} {a : Expr} {ra : Rd} {pos p0 : Pos}
end
theorem any_cons {K : Frg} {cls c : Value} {l : List Value} {b d : Bool} (h : PySem.W.exmOne K cls c = some b) (h' : PySem.W.exmAny K cls l = some d) : PySem.W.exmAny K cls (c :: l) = some (b || d) := by
  rw [PySem.W.exmAny, h, h']
section
variable {X : Cx} {B : Bs} {o e : Expr} {ro r : Rd} {pos apos cpos : Pos} {k : Nat}
end
section
variable {X : Cx} {B : Bs} {e2 : Expr} {r2 : Rd} {pos apos kpos cp : Pos} {R : RdF} {k : Nat} {g p : Addr} {m kn : Str}
end
end Y
namespace Y
open PySem PySem.Spec PyProof.Rows L2 Z
/-! ### a heap of changing things beside the slots -/
/-- what stands at an address: an instance, a list, a dict whose keys are tuples; a changing thing is told as D.fn of its address -/
inductive Gc where
  | obj (C : Str) (ns : List Str) (ds : List D) | lst (ds : List D) | dt (w : World) (kds : List (List Key × D)) | exc (x : Ex)
def GcR (K : Frg) (ms : List Addr) (F : Hp) (a : Addr) : Gc → HO → Prop
  | .obj C ns ds, o => ∃ dx vs, o = .ins (He.ga K C) dx (ns.zip vs) ∧ ns.length = vs.length ∧ Rps K ms F vs ds
  | .lst ds, o => MoR K ms F a (.lst ds) o
  | .dt w kds, o => MoR K ms F a (.dt w kds) o
  | .exc x, o => MoR K ms F a (.exc x) o
theorem GcR.up {K : Frg} {ms : List Addr} {F F' : Hp} {a : Addr} {c : Gc} {o : HO} (h : GcR K ms F a c o) (s : Same F F') : GcR K ms F' a c o := by
  cases c with
  | obj C ns ds => obtain ⟨dx, vs, e, l, r⟩ := h; exact ⟨dx, vs, e, l, r.up s⟩
  | lst ds => exact MoR.up (a := a) (m := .lst ds) h s
  | dt w kds => exact MoR.up (a := a) (m := .dt w kds) h s
  | exc x => exact MoR.up (a := a) (m := .exc x) h s
abbrev Gh := List (Addr × Gc)
def GR (K : Frg) (ms : List Addr) (F H : Hp) (γ : Gh) : Prop := ∀ x ∈ γ, ∃ o, F x.1 = none ∧ x.1 ∉ ms ∧ H x.1 = some o ∧ GcR K ms F x.1 x.2 o
theorem GR.go {K : Frg} {ms : List Addr} {F H F' H' : Hp} {γ : Gh} (h : GR K ms F H γ) (g : Go ms F H F' H') : GR K ms F' H' γ := fun x hx => by
  obtain ⟨o, h1, h2, h3, h4⟩ := h x hx
  obtain ⟨g1, g2⟩ := g.mu _ _ h2 h1 h3
  exact ⟨o, g1, h2, g2, h4.up g.ff⟩
def oA (σ : L2.St) (ρ : Ev) (a : Addr) : Prop := ∃ (i : Nat) (m : Mo), ρ[i]? = some (Sl.mu m) ∧ σ[i]? = some (some (V.ref a))
noncomputable def cutH (H : Hp) (S : Addr → Prop) : Hp := fun a => @ite _ (S a) (Classical.propDecidable _) none (H a)
theorem cut_in {H : Hp} {S : Addr → Prop} {a : Addr} (h : S a) : cutH H S a = none := by
  unfold cutH
  rw [if_pos h]
theorem cut_out {H : Hp} {S : Addr → Prop} {a : Addr} (h : ¬ S a) : cutH H S a = H a := by
  unfold cutH
  rw [if_neg h]
/-- the base of a def that changes things: the things that it was handed -/
structure Bg where
  ms : List Addr
  S : List Addr
  F0 : Hp
  H0 : Hp
  Ed : Ex → Gh → Prop
def Bg.to (G : Bg) : List Addr := G.S ++ G.ms
/-- the base of a plain row, run in such a def -/
noncomputable def Bg.pl (G : Bg) (F H : Hp) (σ : L2.St) (ρ : Ev) (γ : Gh) : Bs := ⟨G.ms, F, cutH H (oA σ ρ), fun x => G.Ed x γ⟩
structure IvG (K : Frg) (G : Bg) (F H : Hp) (σ : L2.St) (ρ : Ev) (γ : Gh) : Prop where
  go : Go G.to G.F0 G.H0 F H
  iv : Iv K (G.pl F H σ ρ γ) F H σ ρ
  gr : GR K G.ms F H γ
  dis : ∀ x ∈ γ, ¬ oA σ ρ x.1
  onew : ∀ a, oA σ ρ a → G.H0 a = none
  gnew : ∀ x ∈ γ, x.1 ∈ G.S ∨ G.H0 x.1 = none
  sin : ∀ a ∈ G.S, ∃ c, (a, c) ∈ γ
section
variable {K : Frg} {G : Bg} {F H F' H' : Hp} {σ σ' : L2.St} {ρ ρ' : Ev} {γ γ' : Gh}
theorem Iv.re {B B' : Bs} (I : Iv K B F H σ ρ) (hm : B'.ms = B.ms) (g : Go B'.ms B'.F0 B'.H0 F H) (hn : ∀ a, oA σ ρ a → B'.H0 a = none) : Iv K B' F H σ ρ where
  go := g
  tp := by rw [hm]; exact I.tp
  len := I.len
  val := fun i d h => by rw [hm]; exact I.val i d h
  own := fun i m h => by
    obtain ⟨a, o, h1, h2, h3, h4, h5, h6⟩ := I.own i m h
    exact ⟨a, o, h1, h2, by rw [hm]; exact h3, hn a ⟨i, m, h, h1⟩, h5, by rw [hm]; exact h6⟩
  sep := I.sep
theorem go_cut {ms : List Addr} {S : Addr → Prop} (s : Same F H) : Go ms F (cutH H S) F H := by
  refine ⟨Same.refl _, s, fun a o _ h1 h2 => ⟨h1, ?_⟩⟩
  by_cases z : S a
  · rw [cut_in z] at h2; cases h2
  · rw [cut_out z] at h2; exact h2
/-- what was new stays new -/
theorem go_stay {T : List Addr} {F0 H0 : Hp} {a : Addr} (g : Go T F0 H0 F H) (s : Same F0 H0) (ht : a ∉ T) (h : H a = none) : H0 a = none := go_none g s h ht
/-- a run from the present, seen from the start -/
theorem go_from {T ms : List Addr} {S : Addr → Prop} {F0 H0 : Hp} (g : Go T F0 H0 F H) (g2 : Go ms F (cutH H S) F' H') (hs : ∀ a, S a → H0 a = none) (hm : ∀ a ∈ ms, a ∈ T) : Go T F0 H0 F' H' := by
  refine ⟨g.ff.trans g2.ff, g2.fh, fun a o ha h1 h2 => ?_⟩
  obtain ⟨q1, q2⟩ := g.mu a o ha h1 h2
  refine g2.mu a o (fun z => ha (hm a z)) q1 ?_
  by_cases z : S a
  · have := hs a z; rw [this] at h2; cases h2
  · rw [cut_out z]; exact q2
theorem IvG.same (I : IvG K G F H σ ρ γ) : Same F H := I.iv.same
theorem to_ms : ∀ a ∈ G.ms, a ∈ G.to := fun a h => List.mem_append_right _ h
/-- plain rows lead on -/
theorem IvG.next (I : IvG K G F H σ ρ γ) (s0 : Same G.F0 G.H0) (J : Iv K (G.pl F H σ ρ γ) F' H' σ' ρ') : IvG K G F' H' σ' ρ' γ := by
  have gg : Go G.to G.F0 G.H0 F' H' := go_from I.go J.go I.onew to_ms
  have o0 : ∀ a, oA σ' ρ' a → cutH H (oA σ ρ) a = none := fun a ⟨i, m, h1, h2⟩ => by
    obtain ⟨b, o, q1, _, _, q4, _⟩ := J.own i m h1
    rw [h2] at q1
    cases q1
    exact q4
  have tG : ∀ a, oA σ' ρ' a → a ∉ G.ms := fun a ⟨i, m, h1, h2⟩ => by
    obtain ⟨b, o, q1, _, q3, _⟩ := J.own i m h1
    rw [h2] at q1
    cases q1
    exact q3
  have ghn : ∀ x ∈ γ, cutH H (oA σ ρ) x.1 ≠ none := fun x hx => by
    obtain ⟨o, _, _, h3, _⟩ := I.gr x hx
    rw [cut_out (I.dis x hx), h3]
    exact fun z => nomatch z
  refine ⟨gg, J.re rfl (go_cut J.same) fun a h => cut_in h, fun x hx => ?_, fun x hx z => ghn x hx (o0 _ z), fun a h => ?_, I.gnew, I.sin⟩
  · obtain ⟨o, h1, h2, h3, h4⟩ := I.gr x hx
    obtain ⟨g1, g2⟩ := J.go.mu x.1 o h2 h1 (by show cutH H (oA σ ρ) x.1 = _; rw [cut_out (I.dis x hx)]; exact h3)
    exact ⟨o, g1, h2, g2, h4.up J.go.ff⟩
  · by_cases z : oA σ ρ a
    · exact I.onew a z
    · have q := o0 a h
      rw [cut_out z] at q
      by_cases y : a ∈ G.S
      · obtain ⟨c, hc⟩ := I.sin a y
        exact absurd (o0 a h) (ghn _ hc)
      · exact go_stay I.go s0 (fun w => by
          rcases List.mem_append.mp w with w | w
          · exact y w
          · exact tG a h w) q
theorem IvG.step (I : IvG K G F H σ ρ γ) (s0 : Same G.F0 G.H0) (g : Go G.ms F H F' H') (t : Tp K G.ms F' H') : IvG K G F' H' σ ρ γ := I.next s0 (I.iv.step g t)
theorem IvG.set (I : IvG K G F H σ ρ γ) (s0 : Same G.F0 G.H0) {v : V} {d : D} (i : Nat) (r : Rp K G.ms F v d) : IvG K G F H (σ.set i (some v)) (ρ.set i (.val d)) γ := I.next s0 (I.iv.set i r)
/-- the things that there are at an end -/
def GhE (K : Frg) (G : Bg) (F H : Hp) (γ : Gh) : Prop := GR K G.ms F H γ ∧ (∀ x ∈ γ, x.1 ∈ G.S ∨ G.H0 x.1 = none) ∧ ∀ a ∈ G.S, ∃ c, (a, c) ∈ γ
theorem IvG.ends (I : IvG K G F H σ ρ γ) : GhE K G F H γ := ⟨I.gr, I.gnew, I.sin⟩
theorem IvG.base (I : IvG K G F H σ ρ γ) : Same F (cutH H (oA σ ρ)) := fun a o e => by
  have no : ¬ oA σ ρ a := fun ⟨i, m, h1, h2⟩ => by
    obtain ⟨b, u, q1, q2, _⟩ := I.iv.own i m h1
    rw [h2] at q1
    cases q1
    rw [e] at q2
    cases q2
  rw [cut_out no]
  exact I.same a o e
theorem IvG.grs (I : IvG K G F H σ ρ γ) : GR K G.ms F (cutH H (oA σ ρ)) γ := fun x hx => by
  obtain ⟨o, h1, h2, h3, h4⟩ := I.gr x hx
  exact ⟨o, h1, h2, by rw [cut_out (I.dis x hx)]; exact h3, h4⟩
/-- an end that plain rows reach -/
theorem IvG.endp (I : IvG K G F H σ ρ γ) (g : Go G.ms F (cutH H (oA σ ρ)) F' H') : Go G.to G.F0 G.H0 F' H' ∧ GhE K G F' H' γ := ⟨go_from I.go g I.onew to_ms, I.grs.go g, I.gnew, I.sin⟩
end
/-! ### judgements -/
structure EnG where
  nx : Ev → Gh → Prop
  rt : D → Gh → Prop
  bk : Ev → Gh → Prop := fun _ _ => False
  ct : Ev → Gh → Prop := fun _ _ => False
def EnG.at (E : EnG) (γ : Gh) : En := { nx := fun ρ => E.nx ρ γ, rt := fun d => E.rt d γ, bk := fun ρ => E.bk ρ γ, ct := fun ρ => E.ct ρ γ }
abbrev RdG := Ev → Gh → EnG → Prop
abbrev RdTG := Ev → Gh → (Bool → Gh → Prop) → Prop
abbrev RdEG := Ev → Gh → (D → Gh → Prop) → Prop
def tSg (K : Frg) (G : Bg) (r : RdG) : TS := fun Dd σ H => ∃ F ρ γ E, IvG K G F H σ ρ γ ∧ r ρ γ E ∧ (∀ σ' ρ' γ' F' H', Same F F' → IvG K G F' H' σ' ρ' γ' → E.nx ρ' γ' → Dd.nx σ' H') ∧
  (∀ v d γ' F' H', Go G.to G.F0 G.H0 F' H' → Tp K G.ms F' H' → Rp K G.ms F' v d → GhE K G F' H' γ' → E.rt d γ' → Dd.rt v H') ∧
  (∀ σ' ρ' γ' F' H', Same F F' → IvG K G F' H' σ' ρ' γ' → E.bk ρ' γ' → Dd.bk σ' H') ∧ (∀ σ' ρ' γ' F' H', Same F F' → IvG K G F' H' σ' ρ' γ' → E.ct ρ' γ' → Dd.ct σ' H')
def tTg (K : Frg) (G : Bg) (r : RdTG) : TT := fun σ H Q => ∃ F ρ γ Qd, IvG K G F H σ ρ γ ∧ r ρ γ Qd ∧ ∀ b γ' F' H', Same F F' → IvG K G F' H' σ ρ γ' → Qd b γ' → Q b H'
def tEg (K : Frg) (G : Bg) (r : RdEG) : TE := fun σ H Q => ∃ F ρ γ Qd, IvG K G F H σ ρ γ ∧ r ρ γ Qd ∧ ∀ v d γ' F' H', Same F F' → IvG K G F' H' σ ρ γ' → Rp K G.ms F' v d → Qd d γ' → Q v H'
def tIg (K : Frg) (G : Bg) (r : Ev → Gh → (List D → Prop) → Prop) : L2.TI := fun σ H R => ∃ F ρ γ Qd, IvG K G F H σ ρ γ ∧ r ρ γ Qd ∧ ∀ J F' H' ds, Same F F' → IvG K G F' H' σ ρ γ → Sqs K G.ms F' J ds → Qd ds → R J H'
def PSg (X : Cx) (G : Bg) (st : Stmt) (r : RdG) : Prop := PS X st (tSg X.K G r)
def PSsg (X : Cx) (G : Bg) (st : List Stmt) (r : RdG) : Prop := PSs X st (tSg X.K G r)
def PTg (X : Cx) (G : Bg) (e : Expr) (r : RdTG) : Prop := PT X e (tTg X.K G r)
def PEg (X : Cx) (G : Bg) (e : Expr) (r : RdEG) : Prop := PE X e (tEg X.K G r)
def EEg (K : Frg) (G : Bg) : XK := fun cls d H' => ∃ F' x γ', Go G.to G.F0 G.H0 F' H' ∧ Tp K G.ms F' H' ∧ XR K G.ms F' cls d x ∧ GhE K G F' H' γ' ∧ G.Ed x γ'
abbrev PxG (X : Cx) (G : Bg) : Prop := Passes (L2.CX X.prog X.w) X (EEg X.K G)
abbrev TkG (X : Cx) (G : Bg) : Prop := Takes X (fun cls d _ H => EEg X.K G cls d H)
section
variable {K : Frg} {G : Bg} {F H F' H' : Hp} {σ σ' : L2.St} {ρ ρ' : Ev} {γ γ' : Gh} {X : Cx}
theorem IvG.err (I : IvG K G F H σ ρ γ) {cls : Value} {d : Option Addr} (z : EE K (G.pl F H σ ρ γ) cls d H') : EEg K G cls d H' := by
  obtain ⟨F', x, g, t, xr, q⟩ := z
  obtain ⟨h1, h2⟩ := I.endp g
  exact ⟨F', x, γ, h1, t, xr, h2, q⟩
theorem IvG.px (I : IvG X.K G F H σ ρ γ) (hx : PxG X G) : Px X (G.pl F H σ ρ γ) := fun pins σ1 H1 s e s' I1 ⟨a, B, H2, cls, d, h1, h2, h3, h4, h5, h6, h7, h8⟩ => hx pins σ1 H1 s e s' I1 ⟨a, B, H2, cls, d, h1, h2, h3, h4, h5, h6, h7, I.err h8⟩
theorem IvG.tk (I : IvG X.K G F H σ ρ γ) (tk : TkG X G) : Tk X (G.pl F H σ ρ γ) := tk.imp fun _ _ _ _ z => I.err z
/-! ### plain rows in such a def -/
variable {st : Stmt} {rest bs cs : List Stmt} {e c tg iter : Expr} {pos : Pos}
theorem g_lift {r : Bs → Gh → RdS} (s0 : Same G.F0 G.H0) (hx : PxG X G) (tk : TkG X G) (h : ∀ (B : Bs) (γ : Gh), Same B.F0 B.H0 → Px X B → Tk X B → GR X.K B.ms B.F0 B.H0 γ → PSp X B st (r B γ)) :
    PSg X G st (fun ρ γ E => ∀ F0 H0, r ⟨G.ms, F0, H0, fun x => G.Ed x γ⟩ γ ρ (E.at γ)) :=
  ⟨fun pins s σ H D I ⟨F, ρ, γ, E, J, z, kn, kr, kb, kc⟩ => (h (G.pl F H σ ρ γ) γ J.base (J.px hx) (J.tk tk) J.grs).run pins s σ H D I ⟨F, ρ, E.at γ, J.iv, z _ _,
    fun σ' ρ' F' H' s I' q => kn σ' ρ' γ F' H' s (J.next s0 I') q, fun v d F' H' g t r q => kr v d γ F' H' (J.endp g).1 t r (J.endp g).2 q,
    fun σ' ρ' F' H' s I' q => kb σ' ρ' γ F' H' s (J.next s0 I') q, fun σ' ρ' F' H' s I' q => kc σ' ρ' γ F' H' s (J.next s0 I') q⟩⟩
theorem g_expr {r : Bs → Gh → Rd} (s0 : Same G.F0 G.H0) (hx : PxG X G) (h : ∀ (B : Bs) (γ : Gh), Same B.F0 B.H0 → Px X B → GR X.K B.ms B.F0 B.H0 γ → PEp X B e (r B γ)) :
    PEg X G e (fun ρ γ Q => ∀ F0 H0, r ⟨G.ms, F0, H0, fun x => G.Ed x γ⟩ γ ρ (fun d => Q d γ)) :=
  ⟨fun pins s σ H D I ⟨F, ρ, γ, Qd, J, z, k⟩ => (h (G.pl F H σ ρ γ) γ J.base (J.px hx) J.grs).run pins s σ H D I ⟨F, ρ, _, J.iv, z _ _, fun v F' H' d g t r q => k v d γ F' H' g.ff (J.step s0 g t) r q⟩⟩
theorem g_iter {r : Bs → Gh → RdA} (s0 : Same G.F0 G.H0) (hx : PxG X G) (h : ∀ (B : Bs) (γ : Gh), Same B.F0 B.H0 → Px X B → GR X.K B.ms B.F0 B.H0 γ → PIp X B tg iter (r B γ)) :
    PI X tg iter (tIg X.K G (fun ρ γ Q => ∀ F0 H0, r ⟨G.ms, F0, H0, fun x => G.Ed x γ⟩ γ ρ Q)) :=
  ⟨fun pins s σ H R I ⟨F, ρ, γ, Qd, J, z, k⟩ => (h (G.pl F H σ ρ γ) γ J.base (J.px hx) J.grs).run pins s σ H R I ⟨F, ρ, _, J.iv, z _ _, fun Jt F' H' ds g t w q => k Jt F' H' ds g.ff (J.step s0 g t) w q⟩⟩
/-! ### rows -/
variable {s1 s2 : RdG} {rt : RdTG} {re : RdEG}
theorem g_nil : PSsg X G [] (fun ρ γ E => E.nx ρ γ) := pss_imp pss_nil fun σ H Dd ⟨F, ρ, γ, E, I, z, kn, _⟩ => kn σ ρ γ F H (Same.refl _) I z
theorem g_cons (h1 : PSg X G st s1) (h2 : PSsg X G rest s2) : PSsg X G (st :: rest) (fun ρ γ E => s1 ρ γ { E with nx := fun ρ' γ' => s2 ρ' γ' E }) :=
  pss_imp (pss_cons h1 h2) fun σ H Dd ⟨F, ρ, γ, E, I, z, kn, kr, kb, kc⟩ => ⟨F, ρ, γ, _, I, z, fun σ' ρ' γ' F' H' s I' z' => ⟨F', ρ', γ', E, I', z', fun σ2 ρ2 γ2 F2 H2 s' I2 z2 => kn σ2 ρ2 γ2 F2 H2 (s.trans s') I2 z2, kr, fun σ2 ρ2 γ2 F2 H2 s' I2 z2 => kb σ2 ρ2 γ2 F2 H2 (s.trans s') I2 z2, fun σ2 ρ2 γ2 F2 H2 s' I2 z2 => kc σ2 ρ2 γ2 F2 H2 (s.trans s') I2 z2⟩, kr, kb, kc⟩
theorem g_one (h1 : PSg X G st s1) : PSsg X G [st] s1 := pss_one h1
theorem g_if (hc : PTg X G c rt) (ha : PSsg X G bs s1) (hb : PSsg X G cs s2) : PSg X G (.If c bs cs pos) (fun ρ γ E => rt ρ γ fun k γ' => ifB k (s1 ρ γ' E) (s2 ρ γ' E)) :=
  ps_imp (ps_if hc ha hb) fun σ H Dd ⟨F, ρ, γ, E, I, z, kn, kr, kb, kc⟩ => ⟨F, ρ, γ, _, I, z, fun k γ1 F1 H1 g1 J z1 => by
    cases k with
    | true => exact ⟨F1, ρ, γ1, E, J, ifB_t z1, fun σ2 ρ2 γ2 F2 H2 s' I2 z2 => kn σ2 ρ2 γ2 F2 H2 (g1.trans s') I2 z2, kr, fun σ2 ρ2 γ2 F2 H2 s' I2 z2 => kb σ2 ρ2 γ2 F2 H2 (g1.trans s') I2 z2, fun σ2 ρ2 γ2 F2 H2 s' I2 z2 => kc σ2 ρ2 γ2 F2 H2 (g1.trans s') I2 z2⟩
    | false => exact ⟨F1, ρ, γ1, E, J, ifB_f z1, fun σ2 ρ2 γ2 F2 H2 s' I2 z2 => kn σ2 ρ2 γ2 F2 H2 (g1.trans s') I2 z2, kr, fun σ2 ρ2 γ2 F2 H2 s' I2 z2 => kb σ2 ρ2 γ2 F2 H2 (g1.trans s') I2 z2, fun σ2 ρ2 γ2 F2 H2 s' I2 z2 => kc σ2 ρ2 γ2 F2 H2 (g1.trans s') I2 z2⟩⟩
theorem g_ret (he : PEg X G e re) : PSg X G (.Return (some e) pos) (fun ρ γ E => re ρ γ E.rt) :=
  ps_imp (ps_ret he) fun σ H Dd ⟨F, ρ, γ, E, I, z, kn, kr, kb, kc⟩ => ⟨F, ρ, γ, _, I, z, fun v d γ' F' H' s J r q => kr v d γ' F' H' J.go J.iv.tp r J.ends q⟩
theorem g_set (s0 : Same G.F0 G.H0) {i : Nat} {x : Str} {pos' : Pos} (hN : X.N.Nodup) (hi : X.N[i]? = some x) (hl : Loc X.env.scope x) (he : PEg X G e re) (hs : swapsWith e (some (.Name x pos')) pos.line X.env = pure false := by rfl) (hf : X.fn x = true ∨ X.env.scope.names.lookup x = some .local := by first | exact .inl rfl | exact .inr rfl | assumption) :
    PSg X G (.Assign [.Name x pos'] e pos) (fun ρ γ E => re ρ γ fun d γ' => E.nx (ρ.set i (.val d)) γ') :=
  ps_imp (ps_set hN hi hl he hs hf) fun σ H Dd ⟨F, ρ, γ, E, I, z, kn, kr, kb, kc⟩ => ⟨F, ρ, γ, _, I, z, fun v d γ' F' H' s J r q => kn _ _ γ' F' H' s (J.set s0 i r) q⟩
/-- a loop whose body changes things -/
def forG (t : Tg) (sb : RdG) (E : EnG) (ds : List D) (ρ : Ev) (γ : Gh) : Prop := ∃ I : Nat → Ev → Gh → Prop, I 0 ρ γ ∧ (∀ (i : Nat) (d : D) (ρ' : Ev) (γ' : Gh), ds[i]? = some d → I i ρ' γ' → tgD t d ρ' fun ρ1 => sb ρ1 γ' { E with nx := I (i + 1), ct := I (i + 1), bk := E.nx }) ∧ ∀ ρ' γ', I ds.length ρ' γ' → E.nx ρ' γ'
theorem g_for (s0 : Same G.F0 G.H0) {ri : Ev → Gh → (List D → Prop) → Prop} {t : Tg} {body : List Stmt} (hp : PassesOwn (model X.prog X.w) X.A X.env X.xe) (hc : X.calm = true) (hi : PI X tg iter (tIg X.K G ri)) (hg : PG X tg (tgV X.K t)) (hb : PSsg X G body s1) (hs : ∀ x, foldedSetIterable iter X.env x = pure x := by intro _; rfl) :
    PSg X G (.For tg iter body [] pos) (fun ρ γ E => ri ρ γ fun ds => forG t s1 E ds ρ γ) :=
  ps_imp (ps_for hp hc hi hg hb hs) fun σ H Dd ⟨F, ρ, γ, E, I, z, kn, kr, kb, kc⟩ => ⟨F, ρ, γ, _, I, z, fun J F1 H1 ds g1 J1 ⟨Gw, Yd, w, hG, hY⟩ ⟨Iw, z1, zs, zf⟩ => by
    refine for_it w (fun i σ' H' => ∃ F' ρ' γ', Same F1 F' ∧ IvG X.K G F' H' σ' ρ' γ' ∧ Iw i ρ' γ') ⟨F1, ρ, γ, Same.refl _, J1, z1⟩ (fun i σ' H' _ ⟨F', ρ', γ', s', I', _⟩ => hG F' H' s' I'.same) ?_ ?_
    · rintro i x σ' H' H'' hi ⟨F', ρ', γ', s', I', z'⟩ hy
      have z' := zs i ds[i] ρ' γ' (List.getElem?_eq_getElem hi) z'
      obtain ⟨F2, g2, r2⟩ := hY i F' H' x H'' ds[i] s' I'.same hy (List.getElem?_eq_getElem hi)
      have J2 := I'.iv.step0 g2
      refine tg_run J2 r2 z' fun σ3 ρ3 I3 z3 => ⟨F2, ρ3, γ', _, I'.next s0 I3, z3, ?_, kr, ?_, ?_⟩
      · exact fun σ4 ρ4 γ4 F4 H4 s4 I4 z4 => ⟨F4, ρ4, γ4, (s'.trans g2.ff).trans s4, I4, z4⟩
      · exact fun σ4 ρ4 γ4 F4 H4 s4 I4 z4 => kn σ4 ρ4 γ4 F4 H4 (((g1.trans s').trans g2.ff).trans s4) I4 z4
      · exact fun σ4 ρ4 γ4 F4 H4 s4 I4 z4 => ⟨F4, ρ4, γ4, (s'.trans g2.ff).trans s4, I4, z4⟩
    · rintro σ' H' ⟨F', ρ', γ', s', I', z'⟩
      exact kn σ' ρ' γ' F' H' (g1.trans s') I' (zf ρ' γ' z')⟩
end
end Y
namespace Y
open PySem PySem.Spec PyProof.Rows L2 Z
section
variable {K : Frg} {G : Bg} {F H F' H' : Hp} {σ σ' : L2.St} {ρ ρ' : Ev} {γ γ' : Gh}
theorem go_more {T U : List Addr} {F0 H0 : Hp} (g : Go T F0 H0 F H) (g2 : Go U F H F' H') (hU : ∀ a ∈ U, a ∈ T ∨ H0 a = none) : Go T F0 H0 F' H' := by
  refine ⟨g.ff.trans g2.ff, g2.fh, fun a o ha h1 h2 => ?_⟩
  obtain ⟨q1, q2⟩ := g.mu a o ha h1 h2
  refine g2.mu a o (fun z => ?_) q1 q2
  rcases hU a z with y | y
  · exact ha y
  · rw [y] at h2; cases h2
/-- changing things are changed -/
theorem IvG.jump (I : IvG K G F H σ ρ γ) {U : List Addr} (g : Go U F H F' H') (hU : ∀ a ∈ U, a ∈ G.to ∨ G.H0 a = none) (hO : ∀ a ∈ U, ¬ oA σ ρ a) (tp : Tp K G.ms F' H') (e : GhE K G F' H' γ') (dis : ∀ x ∈ γ', ¬ oA σ ρ x.1) : IvG K G F' H' σ ρ γ' := by
  refine ⟨go_more I.go g hU, ⟨go_cut tp.1, tp, I.iv.len, fun i d h => ?_, fun i m h => ?_, I.iv.sep⟩, e.1, dis, I.onew, e.2.1, e.2.2⟩
  · obtain ⟨v, h1, h2⟩ := I.iv.val i d h
    exact ⟨v, h1, h2.up g.ff⟩
  · obtain ⟨a, o, h1, h2, h3, h4, h5, h6⟩ := I.iv.own i m h
    have oa : oA σ ρ a := ⟨i, m, h, h1⟩
    obtain ⟨g1, g2⟩ := g.mu a o (fun z => hO a z oa) h2 h5
    exact ⟨a, o, h1, g1, h3, cut_in oa, g2, h6.up g.ff⟩
theorem IvG.ownH (I : IvG K G F H σ ρ γ) {a : Addr} (h : oA σ ρ a) : H a ≠ none ∧ a ∉ G.ms := by
  obtain ⟨i, m, h1, h2⟩ := h
  obtain ⟨b, o, q1, q2, q3, q4, q5, _⟩ := I.iv.own i m h1
  rw [h2] at q1
  cases q1
  exact ⟨(by rw [q5]; exact fun z => nomatch z), q3⟩
/-- a def that was handed all things has run -/
theorem IvG.call (I : IvG K G F H σ ρ γ) (s0 : Same G.F0 G.H0) {Ed : Ex → Gh → Prop} (g : Go (γ.map (·.1) ++ G.ms) F H F' H') (e : GhE K ⟨G.ms, γ.map (·.1), F, H, Ed⟩ F' H' γ') : (∀ a ∈ γ.map (·.1) ++ G.ms, a ∈ G.to ∨ G.H0 a = none) ∧ GhE K G F' H' γ' := by
  have hd : ∀ a ∈ γ.map (·.1), a ∈ G.S ∨ G.H0 a = none := fun a ha => by
    obtain ⟨x, hx, rfl⟩ := List.mem_map.mp ha
    exact I.gnew x hx
  refine ⟨fun a ha => ?_, e.1, fun x hx => ?_, fun a ha => ?_⟩
  · rcases List.mem_append.mp ha with ha | ha
    · rcases hd a ha with z | z
      · exact .inl (List.mem_append_left _ z)
      · exact .inr z
    · exact .inl (List.mem_append_right _ ha)
  · rcases e.2.1 x hx with z | z
    · exact hd x.1 z
    · by_cases y : x.1 ∈ G.S
      · exact .inl y
      · obtain ⟨o, _, nm, _⟩ := e.1 x hx
        exact .inr (go_stay I.go s0 (fun w => by
          rcases List.mem_append.mp w with w | w
          · exact y w
          · exact nm w) z)
  · obtain ⟨c, hc⟩ := I.sin a ha
    exact e.2.2 a (List.mem_map.mpr ⟨_, hc, rfl⟩)
theorem IvG.called (I : IvG K G F H σ ρ γ) (s0 : Same G.F0 G.H0) {Ed : Ex → Gh → Prop} (g : Go (γ.map (·.1) ++ G.ms) F H F' H') (t : Tp K G.ms F' H') (e : GhE K ⟨G.ms, γ.map (·.1), F, H, Ed⟩ F' H' γ') : IvG K G F' H' σ ρ γ' := by
  obtain ⟨h1, h2⟩ := I.call s0 g e
  refine I.jump g h1 (fun a ha z => ?_) t h2 fun x hx z => ?_
  · rcases List.mem_append.mp ha with ha | ha
    · obtain ⟨x, hx, rfl⟩ := List.mem_map.mp ha
      exact I.dis x hx z
    · exact (I.ownH z).2 ha
  · rcases e.2.1 x hx with y | y
    · obtain ⟨x', hx', e'⟩ := List.mem_map.mp y
      exact I.dis x' hx' (by rw [e']; exact z)
    · exact (I.ownH z).1 y
def gPut (γ : Gh) (a : Addr) (c : Gc) : Gh := γ.map fun x => if x.1 = a then (a, c) else x
theorem gPut_dom {a : Addr} {c : Gc} {x : Addr × Gc} (h : x ∈ gPut γ a c) : ∃ y ∈ γ, y.1 = x.1 := by
  obtain ⟨y, hy, rfl⟩ := List.mem_map.mp h
  refine ⟨y, hy, ?_⟩
  by_cases e : y.1 = a
  · rw [if_pos e]; exact e
  · rw [if_neg e]
/-- one thing is written -/
theorem IvG.put (I : IvG K G F H σ ρ γ) {a : Addr} {c c' : Gc} {o' : HO} (hm : (a, c) ∈ γ) (r : GcR K G.ms F a c' o') : IvG K G F (upd H a o') σ ρ (gPut γ a c') := by
  obtain ⟨o, f0, nm, ha, _⟩ := I.gr _ hm
  have gp : Go [a] F H F (upd H a o') := Go.put I.same f0
  have tp : Tp K G.ms F (upd H a o') := I.iv.tp.gox gp nm
  refine I.jump gp (fun b hb => ?_) (fun b hb z => ?_) tp ⟨fun x hx => ?_, fun x hx => ?_, fun b hb => ?_⟩ fun x hx => ?_
  · obtain rfl : b = a := by simpa using hb
    rcases I.gnew _ hm with z | z
    · exact .inl (List.mem_append_left _ z)
    · exact .inr z
  · obtain rfl : b = a := by simpa using hb
    exact I.dis _ hm z
  · obtain ⟨y, hy, rfl⟩ := List.mem_map.mp hx
    by_cases e : y.1 = a
    · rw [if_pos e]
      exact ⟨o', f0, nm, upd_same, r⟩
    · rw [if_neg e]
      obtain ⟨u, h1, h2, h3, h4⟩ := I.gr y hy
      exact ⟨u, h1, h2, by rw [upd_ne e]; exact h3, h4⟩
  · obtain ⟨y, hy, e⟩ := gPut_dom hx
    rw [← e]
    exact I.gnew y hy
  · obtain ⟨d, hd⟩ := I.sin b hb
    by_cases e : b = a
    · exact ⟨c', List.mem_map.mpr ⟨_, hd, by rw [if_pos e, e]⟩⟩
    · exact ⟨d, List.mem_map.mpr ⟨_, hd, by rw [if_neg e]⟩⟩
  · obtain ⟨y, hy, e⟩ := gPut_dom hx
    rw [← e]
    exact I.dis y hy
end
/-! ### contracts -/
abbrev RdFG := List D → Gh → (D → Gh → Prop) → (Ex → Gh → Prop) → Prop
/-- a def that changes the things that it is handed -/
def spG (K : Frg) (R : RdFG) : Sp := fun vs H Q E => ∃ ms F γ ds Qd Ed, Tp K ms F H ∧ Rps K ms F vs ds ∧ GR K ms F H γ ∧ R ds γ Qd Ed ∧
  (∀ v d γ' F' H', Go (γ.map (·.1) ++ ms) F H F' H' → Tp K ms F' H' → Rp K ms F' v d → GhE K ⟨ms, γ.map (·.1), F, H, Ed⟩ F' H' γ' → Qd d γ' → Q v H') ∧
  (∀ cls d F' H' x γ', Go (γ.map (·.1) ++ ms) F H F' H' → Tp K ms F' H' → XR K ms F' cls d x → GhE K ⟨ms, γ.map (·.1), F, H, Ed⟩ F' H' γ' → Ed x γ' → E cls d H')
theorem noMu_start {n : Nat} {ds : List D} {N : List Str} {vs : List V} {a : Addr} : ¬ oA (L2.start N vs) (startE n ds) a := fun ⟨i, m, h, _⟩ => by
  unfold startE at h
  rcases Nat.lt_or_ge i ds.length with z | z
  · rw [List.getElem?_append_left (by rw [List.length_map]; exact z), List.getElem?_map] at h
    cases e : ds[i]? with
    | none => rw [e] at h; cases h
    | some d => rw [e] at h; cases h
  · rw [List.getElem?_append_right (by rw [List.length_map]; exact z)] at h
    rcases Nat.lt_or_ge (i - (ds.map Sl.val).length) (List.replicate (n - ds.length) Sl.no).length with y | y
    · have := List.mem_replicate.mp (List.mem_of_getElem? h)
      cases this.2
    · rw [List.getElem?_eq_none y] at h; cases h
section
variable {P : Program} {w : World} {K : Frg} {mg : Str → Option Value} {base : Heap}
theorem y_fnG {x qual : Str} {st : Stmt} {f : Addr} {N ps : List Str} {k : Nat} {R : RdFG} (F : DefAt K x qual st f) (S : FnScope N ps (defScope st)) (len : ∀ ds γ Q E, R ds γ Q E → ds.length = ps.length)
    (hb : ∀ (kV doc pm : Value) (an : Option Addr) (cdv ct : Value) (us : List Value), us.length = ps.length → bindArgs (PySem.W.fnOf x qual (defArgs st) (defBody st) (defScope st) .none kV doc pm an cdv ct) ⟨us, []⟩ = pure (ps.zip us))
    (hbody : ∀ (cdv : Value) (A : Around) (outer : List Env) (s : Shared) (H : Hp) (E : XK) (G : Bg), Same G.F0 G.H0 → RoomG k (A.deeper (envOfC qual (defScope st) s.heap.objs.size f cdv)) → PxG (cxOf (L2.CX P w) P w K mg base N qual (defScope st) f cdv A outer s H E) G →
      PassesOwn (model P w) (cxOf (L2.CX P w) P w K mg base N qual (defScope st) f cdv A outer s H E).A (cxOf (L2.CX P w) P w K mg base N qual (defScope st) f cdv A outer s H E).env (cxOf (L2.CX P w) P w K mg base N qual (defScope st) f cdv A outer s H E).xe →
      TkG (cxOf (L2.CX P w) P w K mg base N qual (defScope st) f cdv A outer s H E) G →
      ∃ r, PSsg (cxOf (L2.CX P w) P w K mg base N qual (defScope st) f cdv A outer s H E) G (defBody st) r ∧ ∀ ds γ Q, R ds γ Q G.Ed → r (startE N.length ds) γ { nx := fun _ => Q .non, rt := Q }) : FnG P w K mg base (L2.CX P w) (k + 1) f (spG K R) := by
  refine zfnG F S (fun vs H Q E ⟨ms, F, γ, ds, Qd, Ed, _, r, _, h, _⟩ => by rw [r.len]; exact len _ _ _ _ h) hb fun cdv A outer s H vs Q E hr h => ?_
  obtain ⟨ms, F, γ, ds, Qd, Ed, t, r, hγ, h, kq, ke⟩ := h
  have he : ∀ cls d H', EEg K ⟨ms, γ.map (·.1), F, H, Ed⟩ cls d H' → E cls d H' := fun cls d H' ⟨F', x, γ', g, t', xr, e, z⟩ => ke cls d F' H' x γ' g t' xr e z
  have tk0 : Takes (cxOf (L2.CX P w) P w K mg base N qual (defScope st) f cdv A outer s H E) (fun cls d _ H => E cls d H) := takes_of rfl rfl rfl rfl
  have tk : TkG (cxOf (L2.CX P w) P w K mg base N qual (defScope st) f cdv A outer s H E) ⟨ms, γ.map (·.1), F, H, Ed⟩ := tk0.imp fun cls d _ H' z => he cls d H' z
  obtain ⟨rr, h1, h2⟩ := hbody cdv A outer s H E ⟨ms, γ.map (·.1), F, H, Ed⟩ t.1 hr (passes_call tk fun cls d σ H z => z) po_of tk
  have I : IvG K ⟨ms, γ.map (·.1), F, H, Ed⟩ F H (L2.start N vs) (startE N.length ds) γ := by
    refine ⟨Go.refl t.1, (iv_start (B := ⟨ms, F, H, fun _ => False⟩) t r).re rfl (go_cut t.1) fun a z => (noMu_start z).elim, hγ, fun x hx z => noMu_start z, fun a z => (noMu_start z).elim, fun x hx => .inl (List.mem_map.mpr ⟨x, hx, rfl⟩), fun a ha => ?_⟩
    obtain ⟨x, hx, rfl⟩ := List.mem_map.mp ha
    exact ⟨x.2, hx⟩
  refine ⟨_, h1, F, _, γ, _, I, h2 ds γ Qd h, ?_, ?_, ?_, ?_⟩
  · intro σ' ρ' γ' F' H' _ I' z
    exact kq .non .non γ' F' H' I'.go I'.iv.tp .non I'.ends z
  · intro v d γ' F' H' g t' r' e z
    exact kq v d γ' F' H' g t' r' e z
  · intro _ _ _ _ _ _ _ z; exact z
  · intro _ _ _ _ _ _ _ z; exact z
end
end Y
namespace Y
open PySem PySem.Spec PyProof.Rows L2 Z
/-! ### changing things are read -/
section
variable {X : Cx} {B : Bs} {γ : Gh} {o e : Expr} {es : List Expr} {r ro : Rd} {rl : RdA} {pos apos p0 : Pos} {k : Nat} {f : Addr} {m fl : Str}
theorem fn_rp {K : Frg} {ms : List Addr} {F : Hp} {v : V} {p : Addr} (r : Rp K ms F v (.fn p)) : v = .ref p := by cases r; rfl
end
/-! ### changing things are changed -/
section
variable {X : Cx} {G : Bg} {o e ev : Expr} {es : List Expr} {r ro rv : Bs → Gh → Rd} {rl : Bs → Gh → RdA} {re : RdEG} {pos apos p0 pos' : Pos} {k i : Nat} {f : Addr} {m fl x : Str}
abbrev Bg.at (G : Bg) (F0 H0 : Hp) (γ : Gh) : Bs := ⟨G.ms, F0, H0, fun x => G.Ed x γ⟩
end
end Y
namespace Y
open PySem PySem.Spec PyProof.Rows L2 Z
/-! ### new things -/
section
variable {K : Frg} {G : Bg} {F H H' : Hp} {σ : L2.St} {ρ : Ev} {γ : Gh}
theorem IvG.add (I : IvG K G F H σ ρ γ) (s0 : Same G.F0 G.H0) {p : Addr} {o : HO} {c : Gc} (g : Go [] F H F H') (hp : H p = none) (hp' : H' p = some o) (r : GcR K G.ms F p c o) : IvG K G F H' σ ρ ((p, c) :: γ) := by
  have fp : F p = none := same_none I.same hp
  have nm := I.iv.tp.nms hp
  refine I.jump g (fun _ h => nomatch h) (fun _ h => nomatch h) (I.iv.tp.go0 g) ⟨fun x hx => ?_, fun x hx => ?_, fun a ha => ?_⟩ fun x hx => ?_
  · rcases List.mem_cons.mp hx with rfl | hx
    · exact ⟨o, fp, nm, hp', r⟩
    · exact (I.gr.go (ms := G.ms) (γ := γ) g.nil) x hx
  · rcases List.mem_cons.mp hx with rfl | hx
    · by_cases y : p ∈ G.S
      · exact .inl y
      · exact .inr (go_stay I.go s0 (fun w => by
          rcases List.mem_append.mp w with w | w
          · exact y w
          · exact nm w) hp)
    · exact I.gnew x hx
  · obtain ⟨d, hd⟩ := I.sin a ha
    exact ⟨d, List.mem_cons_of_mem _ hd⟩
  · rcases List.mem_cons.mp hx with rfl | hx
    · exact fun z => (I.ownH z).1 hp
    · exact I.dis x hx
theorem IvG.fresh (I : IvG K G F H σ ρ γ) {p : Addr} (hp : H p = none) : ∀ x ∈ γ, x.1 ≠ p := fun x hx e => by
  obtain ⟨o, _, _, h, _⟩ := I.gr x hx
  rw [e, hp] at h
  cases h
end
section
variable {X : Cx} {G : Bg} {o e ev : Expr} {es : List Expr} {re : RdEG} {rl : Bs → Gh → RdA} {pos apos p0 pos' op : Pos} {k i j : Nat} {f : Addr} {m fl x C ox : Str} {ns : List Str}
end
end Y
namespace Y
open PySem PySem.Spec PyProof.Rows L2 Z
/-! ### max and min of a list of shown data -/
section
variable {X : Cx}
end
/-! ### contracts of a given number of values -/
section
variable {α β : Type}
def gar1 (P : D → Gh → α → β → Prop) : List D → Gh → α → β → Prop := fun ds γ Q E => match ds with | [a] => P a γ Q E | _ => False
variable {ds : List D} {γ : Gh} {Q : α} {E : β}
theorem gar1E {P : D → Gh → α → β → Prop} (h : gar1 P ds γ Q E) : ∃ a, ds = [a] ∧ P a γ Q E := by
  unfold gar1 at h
  split at h
  · exact ⟨_, rfl, h⟩
  · exact h.elim
theorem glen1 {P : D → Gh → α → β → Prop} (h : gar1 P ds γ Q E) : ds.length = 1 := by obtain ⟨a, rfl, _⟩ := gar1E h; rfl
end
end Y
namespace Y
open PySem PySem.Spec PyProof.Rows L2 Z
/-! ### defs that make changing things for themselves -/
section
variable {P : Program} {w : World} {K : Frg} {mg : Str → Option Value} {base : Heap}
end
end Y
namespace Y
open PySem PySem.Spec PyProof.Rows L2 Z
/-! ### own dicts with text keys: {}, setdefault, told at the end -/
section
variable {K : Frg} {B : Bs} {F H : Hp} {σ : L2.St} {ρ : Ev}
end
section
variable {X : Cx} {B : Bs} {a b c e f o : Expr} {es : List Expr} {ra rb rc r rf ro : Rd} {rt ru : RdT} {rl : RdA} {pos pos' p0 p2 pv apos cpos : Pos} {k i : Nat} {x : Str} {s1 s2 : RdS}
end
end Y
namespace GX
open PySem PySem.Spec PyProof.Rows L2 Z Y
/-! ### a loop over a generator whose body changes things -/
section
variable {X : Cx} {G : Bg} {pos : Pos} {iter tg : Expr} {s1 : RdG}
end
end GX
namespace Y
open PySem PySem.Spec PyProof.Rows L2 Z
/-! ### expressions that change things: values in a row, lists, tests -/
def tAg (K : Frg) (G : Bg) (r : Ev → Gh → (List D → Gh → Prop) → Prop) : TA := fun σ H Q => ∃ F ρ γ Qd, IvG K G F H σ ρ γ ∧ r ρ γ Qd ∧ ∀ vs ds γ' F' H', Same F F' → IvG K G F' H' σ ρ γ' → Rps K G.ms F' vs ds → Qd ds γ' → Q vs H'
abbrev RdAG := Ev → Gh → (List D → Gh → Prop) → Prop
def PAg (X : Cx) (G : Bg) (es : List Expr) (r : RdAG) : Prop := PA X es (tAg X.K G r)
section
variable {X : Cx} {G : Bg} {a b o e : Expr} {es : List Expr} {ra rb ro re : RdEG} {rl : RdAG} {pos apos cpos p0 pos' : Pos} {k i j : Nat} {f : Addr} {x y : Str}
theorem ga_of {r : Bs → Gh → RdA} (s0 : Same G.F0 G.H0) (hx : PxG X G) (h : ∀ (B : Bs) (γ : Gh), Same B.F0 B.H0 → Px X B → GR X.K B.ms B.F0 B.H0 γ → PAp X B es (r B γ)) :
    PAg X G es (fun ρ γ Q => ∀ F0 H0, r ⟨G.ms, F0, H0, fun x => G.Ed x γ⟩ γ ρ (fun ds => Q ds γ)) :=
  ⟨fun pos pins s σ H R I ⟨F, ρ, γ, Qd, J, z, k⟩ => (h (G.pl F H σ ρ γ) γ J.base (J.px hx) J.grs).run pos pins s σ H R I ⟨F, ρ, _, J.iv, z _ _, fun vs F' H' ds g t r q => k vs ds γ F' H' g.ff (J.step s0 g t) r q⟩⟩
theorem ga_nil : PAg X G [] (fun ρ γ Q => Q [] γ) := pa_imp pa_nil fun σ H Q ⟨F, ρ, γ, Qd, I, z, k⟩ => k [] [] γ F H (Same.refl _) I .nil z
theorem ga_cons (he : PEg X G e re) (ha : PAg X G es rl) (hs : starEach (e :: es) X.env = (false, eval e X.env) :: starEach es X.env := by rfl) : PAg X G (e :: es) (fun ρ γ Q => re ρ γ fun d γ1 => rl ρ γ1 fun ds γ2 => Q (d :: ds) γ2) :=
  pa_imp (pa_cons he ha hs) fun σ H Q ⟨F, ρ, γ, Qd, I, z, k⟩ => ⟨F, ρ, γ, _, I, z, fun v d γ1 F1 H1 s1 J1 r1 z1 => ⟨F1, ρ, γ1, _, J1, z1, fun vs ds γ2 F2 H2 s2 J2 r2 z2 => k (v :: vs) (d :: ds) γ2 F2 H2 (s1.trans s2) J2 (.cons (r1.up s2) r2) z2⟩⟩
/-- [..] told -/
theorem y_lstG (s0 : Same G.F0 G.H0) (h : PAg X G es rl) : PEg X G (.List es pos) (fun ρ γ Q => rl ρ γ fun ds γ1 => ds.length ≤ 100000 ∧ Q (.lst ds) γ1) :=
  pe_imp (pe_lstZ h) fun σ H Q ⟨F, ρ, γ, Qd, I, z, k⟩ => ⟨F, ρ, γ, _, I, z, fun vs ds γ1 F1 H1 s1 J1 r1 z1 => ⟨Nat.le_trans (by rw [r1.len]; exact z1.1) (by decide), fun p H2 hp e2 => by
    obtain ⟨F2, g2, q2, _⟩ := newE J1.same hp e2
    exact k _ _ γ1 F2 H2 (s1.trans g2.ff) (J1.step s0 g2.nil (J1.iv.tp.go0 g2)) (.lst q2 (r1.up g2.ff)) z1.2⟩⟩
theorem z_cmpG {op : CmpOp} {g : D → D → (D → Prop) → Prop} {r : R2} (s0 : Same G.F0 G.H0) (ho : OpR X (compareOp op) r) (hl : OpL X.K G.ms r g) (ha : PEg X G a ra) (hb : PEg X G b rb) (hm : behindInMarks op b = false) :
    PTg X G (.Compare a [op] [b] pos) (fun ρ γ Q => ra ρ γ fun x γ1 => rb ρ γ1 fun y γ2 => g x y fun d => tst d fun b => Q b γ2) :=
  pt_imp (pt_cmpR ho ha hb hm) fun σ H Q ⟨F, ρ, γ, Qd, I, z, k⟩ => ⟨F, ρ, γ, _, I, z, fun v x γ1 F1 H1 s1 J1 r1 z1 => ⟨F1, ρ, γ1, _, J1, z1, fun u y γ2 F2 H2 s2 J2 r2 z2 =>
    hl F2 H2 v u x y _ _ J2.same (r1.up s2) r2 z2 fun w F3 H3 d g3 r3 q3 => by
      unfold tst at q3
      split at q3
      · rename_i b
        cases r3
        exact ⟨b, rfl, k b γ2 F3 H3 ((s1.trans s2).trans g3.ff) (J2.step s0 g3.nil (J2.iv.tp.go0 g3)) q3⟩
      · exact q3.elim⟩⟩
/-! ### lists that are things -/
def gLst (γ : Gh) (d : D) (k : Addr → List D → Prop) : Prop := ∃ q ds, d = .fn q ∧ (q, Gc.lst ds) ∈ γ ∧ k q ds
end
end Y
namespace Y
open PySem PySem.Spec PyProof.Rows L2 Z
/-! ### lists that are things, read -/
section
variable {K : Frg} {ms : List Addr} {F H F' H' : Hp} {γ : Gh}
end
section
variable {X : Cx} {B : Bs} {γ : Gh} {a b o e : Expr} {es : List Expr} {ra rb r ro : Rd} {rl : RdA} {pos apos p0 : Pos} {k : Nat} {f : Addr} {m x : Str}
/-! ### properties and len of things, reading alone -/
/-! ### a list beside the empty one, whatever is in it -/
end
/-! ### calls that change things, with arguments that change things -/
section
variable {K : Frg} {G : Bg} {F F2 H2 : Hp} {σ : L2.St} {ρ : Ev} {γ2 : Gh} {R : RdFG}
theorem IvG.sp (J : IvG K G F2 H2 σ ρ γ2) (s0 : Same G.F0 G.H0) {vs : List V} {ds : List D} {Qd : D → Gh → Prop} {Q : VK} (r : Rps K G.ms F2 vs ds) (z : R ds γ2 Qd G.Ed) (kk : ∀ v d γ' F' H', Same F2 F' → IvG K G F' H' σ ρ γ' → Rp K G.ms F' v d → Qd d γ' → Q v H') : spG K R vs H2 Q (EEg K G) :=
  ⟨G.ms, F2, γ2, ds, Qd, G.Ed, J.iv.tp, r, J.gr, z, fun v d γ' F3 H3 g3 t3 r3 e3 q3 => kk v d γ' F3 H3 g3.ff (J.called s0 g3 t3 e3) r3 q3, fun cls d F3 H3 x γ' g3 t3 xr e3 q => ⟨F3, x, γ', go_more J.go g3 (J.call s0 g3 e3).1, t3, xr, (J.call s0 g3 e3).2, q⟩⟩
end
section
variable {X : Cx} {G : Bg} {a b o e e2 : Expr} {es : List Expr} {ra rb ro re r2 : RdEG} {rl : RdAG} {pos apos cpos p0 pos' kpos : Pos} {k i j : Nat} {f : Addr} {x y m C kn : Str} {R : RdFG}
theorem y_callG (s0 : Same G.F0 G.H0) (F : FnG X.prog X.w X.K X.mg X.base (L2.CX X.prog X.w) k f (spG X.K R)) (hr : RoomG k X.A) (hg : Gl X x) (hm : X.mg x = some (.ref f)) (hk : PySem.W.keepIn X.K (.ref f) = true) (hx : PxG X G) (ha : PAg X G (e :: es) rl)
    (hdb : (x == ("__debug__" : Str)) = false := by decide) (he : starEach (e :: es) X.env = (false, eval e X.env) :: starEach es X.env := by rfl) (hpl : (backTo pos (starEach es X.env)).any (·.1) = false := by rfl) :
    PEg X G (.Call (.Name x p0) (e :: es) [] pos) (fun ρ γ Q => rl ρ γ fun ds γ1 => R ds γ1 Q G.Ed) := by
  refine ⟨fun pins s σ H Q I ⟨F0, ρ, γ, Qd, J, z, kk⟩ => ?_⟩
  refine wpAny_Call_Name_kw (ld_glob I hg hm ?_ hdb)
  refine PySem.W.callWith_K (h₀ := X.base) I.ok.mod.kin hk (thn (ha.run pos pins s σ H (fun vs H1 => ∃ F1 ds γ1, Same F0 F1 ∧ IvG X.K G F1 H1 σ ρ γ1 ∧ Rps X.K G.ms F1 vs ds ∧ R ds γ1 Qd G.Ed) I ⟨F0, ρ, γ, _, J, z, fun vs ds γ1 F1 H1 s1 J1 r1 z1 => ⟨F1, ds, γ1, s1, J1, r1, z1⟩⟩) fun us s1 ⟨vs, H1, I1, r, F1, ds, γ1, sm, J1, r1, z1⟩ => ⟨I1.kIn, ?_⟩) he hpl
  exact wpAny_call (run_fnA (F.at hr) hx I1 r (J1.sp s0 r1 z1 fun v d γ' F' H' s' J' r' q => kk v d γ' F' H' (sm.trans s') J' r' q))
section
variable {cs ns : List Str} {pl : Sem Bool}
end
end
end Y
namespace Y
open PySem PySem.Spec PyProof.Rows L2 Z
/-! ### raise C(), C an own class of errors without __init__ -/
structure XnB (K : Frg) (C : Addr) : Prop where
  q : PySem.W.excIn K C bsRun "RuntimeError.__new__" = true
  kC : PySem.W.keepIn K (.ref C) = true
  exC : PySem.W.subIn K (.ref C) (.type "BaseException") = some true
  tyC : PySem.W.typeIn K (.ref C) = some (.type "type")
def bXn (x : Str) : Frg → Bool := fun K => PySem.W.excIn K (He.ga K x) bsRun "RuntimeError.__new__" && (PySem.W.keepIn K (.ref (He.ga K x)) && (decide (PySem.W.subIn K (.ref (He.ga K x)) (.type "BaseException") = some true) && decide (PySem.W.typeIn K (.ref (He.ga K x)) = some (.type "type"))))
theorem xn_of {K : Frg} {x : Str} (h : bXn x K = true) : XnB K (He.ga K x) := by
  obtain ⟨h1, h⟩ := He.ba h
  obtain ⟨h2, h⟩ := He.ba h
  obtain ⟨h3, h4⟩ := He.ba h
  exact ⟨h1, h2, of_decide_eq_true h3, of_decide_eq_true h4⟩
section
variable {X : Cx} {B : Bs} {G : Bg} {x : Str} {p pos pos2 : Pos}
end
/-! ### contracts: a last parameter by name -/
section
variable {P : Program} {w : World} {K : Frg} {mg : Str → Option Value} {base : Heap}
end
/-! ### try around what changes things -/
def Bg.nox (G : Bg) : Bg := { G with Ed := fun _ _ => False }
section
variable {K : Frg} {G : Bg} {F H F' H' : Hp} {σ σ' : L2.St} {ρ ρ' : Ev} {γ γ' : Gh}
theorem IvG.nox (I : IvG K G F H σ ρ γ) : IvG K G.nox F H σ ρ γ := ⟨I.go, ⟨I.iv.go, I.iv.tp, I.iv.len, I.iv.val, I.iv.own, I.iv.sep⟩, I.gr, I.dis, I.onew, I.gnew, I.sin⟩
end
section
variable {X : Cx} {G : Bg}
theorem pxg_nox : PxG X G.nox := fun pins σ H s e s' I ⟨_, _, _, _, _, _, _, _, _, _, _, _, F', x, γ', _, _, _, _, z⟩ => z.elim
theorem tkg_nox : TkG X G.nox := fun u s' x => by
  obtain ⟨a, B, sI, pins', σ', H', cls, d, h1, h2, h3, h4, h5, h6, h7, h8, F', x, γ', _, _, _, _, z⟩ := x
  exact z.elim
end
abbrev RdX := Ev → Gh → EnG → (Ex → Ev → Gh → Prop) → Prop
abbrev RdEX := Ev → Gh → (D → Gh → Prop) → (Ex → Gh → Prop) → Prop
section
variable {X : Cx} {G : Bg} {st : Stmt} {rest bs cs : List Stmt} {e o c : Expr} {es : List Expr} {s1 s2 : RdX} {rt : RdTG} {re ro : RdEG} {rx : RdEX} {rl : RdAG} {pos p1 apos p0 : Pos} {k : Nat} {f : Addr} {m x : Str} {R : RdFG}
section
variable {cs ns : List Str} {pl : Sem Bool}
end
/-! ### the clauses -/
inductive HdsG (X : Cx) (G : Bg) : List ExceptHandler → List (Str × Nat × RdG) → Prop
  | nil : HdsG X G [] []
  | cons {x n : Str} {i : Nat} {rs : RdG} {b₀ : Stmt} {suite : List Stmt} {np pos' : Pos} {hds : List ExceptHandler} {l : List (Str × Nat × RdG)} (hc : Names X x (.ref (He.ga X.K x))) (hi : X.N[i]? = some n) (hln : X.env.kindOf n = some .local)
      (hsu : ∀ (a : Addr) (pn : List (Addr × Obj)), PSsg (X.suite a pn) G.nox (b₀ :: suite) rs) (r : HdsG X G hds l) :
      HdsG X G (.ExceptHandler (some (.Name x np)) (some n) (b₀ :: suite) pos' :: hds) ((x, i, rs) :: l)
def hdG (K : Frg) (G : Bg) (q : Str × Nat × RdG) : Value × Nat × TS := (.ref (He.ga K q.1), q.2.1, tSg K G.nox q.2.2)
theorem HdsG.n {hds : List ExceptHandler} {l : List (Str × Nat × RdG)} (h : HdsG X G hds l) : HdsN X hds (l.map (hdG X.K G)) := by
  induction h with
  | nil => exact .nil
  | cons hc hi hln hsu _ ih => exact .cons hc hi hln hsu ih
theorem IvG.newM {K : Frg} {F H : Hp} {σ : L2.St} {ρ : Ev} {γ : Gh} (I : IvG K G F H σ ρ γ) (s0 : Same G.F0 G.H0) {p : Addr} {o : HO} {m : Mo} {H2 : Hp} (i : Nat) (hp : H p = none) (e : H2 = upd H p o) (r : MoR K G.ms F p m o) : IvG K G F H2 (σ.set i (some (.ref p))) (ρ.set i (.mu m)) γ :=
  I.next s0 (I.iv.newM I.base i hp e r)
theorem IvG.wipe {K : Frg} {F H : Hp} {σ : L2.St} {ρ : Ev} {γ : Gh} (I : IvG K G F H σ ρ γ) (s0 : Same G.F0 G.H0) (i : Nat) : IvG K G F H (σ.set i none) (ρ.set i .no) γ := I.next s0 (I.iv.wipe i)
end
/-! ### a plain state goes on to change things -/
def noMuB (ρ : Ev) : Bool := ρ.all fun s => match s with
  | .mu _ => false
  | _ => true
theorem noMuB_of {σ : L2.St} {ρ : Ev} {a : Addr} (h : noMuB ρ = true) : ¬ oA σ ρ a := fun ⟨i, m, h1, _⟩ => by
  have := List.all_eq_true.mp h _ (List.mem_of_getElem? h1)
  cases this
theorem g_in {X : Cx} {B : Bs} {rest : List Stmt} {r : Bg → RdG} (hB : Same B.F0 B.H0) (h : ∀ G : Bg, Same G.F0 G.H0 → PxG X G → TkG X G → PSsg X G rest (r G)) :
    PSsp X B rest (fun ρ E => noMuB ρ = true ∧ r ⟨B.ms, [], B.F0, B.H0, fun _ _ => False⟩ ρ [] { nx := fun _ _ => False, rt := fun d _ => E.rt d }) :=
  pss_imp (h (Bg.nox ⟨B.ms, [], B.F0, B.H0, fun _ _ => False⟩) hB pxg_nox tkg_nox) fun σ H Dd ⟨F, ρ, E, I, ⟨hn, z⟩, kn, kr, kb, kc⟩ =>
    ⟨F, ρ, [], _, ⟨I.go, I.re rfl (go_cut I.same) fun a z => (noMuB_of hn z).elim, (fun x hx => nomatch hx), (fun x hx => nomatch hx), (fun a z => (noMuB_of hn z).elim), (fun x hx => nomatch hx), (fun a ha => nomatch ha)⟩, z,
      fun _ _ _ _ _ _ _ q => q.elim, fun v d γ' F' H' g t r _ q => kr v d F' H' g t r q, fun _ _ _ _ _ _ _ q => q.elim, fun _ _ _ _ _ _ _ q => q.elim⟩
/-! ### isinstance(e, T), T a built-in class -/
end Y
namespace Y
open PySem PySem.Spec PyProof.Rows L2 Z
/-! ### a list that is a thing, lent to a def that knows nothing of things -/
section
variable {K : Frg} {ms : List Addr} {F H : Hp}
end
section
variable {X : Cx} {B : Bs} {γ : Gh} {a b o e : Expr} {es : List Expr} {ra rb r ro : Rd} {rl : RdA} {pos apos p0 : Pos} {k : Nat} {f : Addr} {m x : Str} {R : RdF}
end
section
variable {X : Cx} {B : Bs} {e : Expr} {es : List Expr} {rl : RdA} {pos p0 : Pos}
end
/-! ### an own list that a def hands out becomes a thing -/
section
variable {K : Frg} {G : Bg} {F H : Hp} {σ : L2.St} {ρ : Ev} {γ : Gh}
theorem IvG.take (I : IvG K G F H σ ρ γ) {a : Addr} {vs : List V} {ds : List D} (fa : F a = none) (ha : H a = some (.lst vs)) (nm : a ∉ G.ms) (no : ¬ oA σ ρ a) (n0 : G.H0 a = none) (r : Rps K G.ms F vs ds) : IvG K G F H σ ρ ((a, .lst ds) :: γ) := by
  refine ⟨I.go, ⟨I.iv.go, I.iv.tp, I.iv.len, I.iv.val, I.iv.own, I.iv.sep⟩, fun x hx => ?_, fun x hx => ?_, I.onew, fun x hx => ?_, fun b hb => ?_⟩
  · rcases List.mem_cons.mp hx with rfl | hx
    · exact ⟨_, fa, nm, ha, vs, rfl, r⟩
    · exact I.gr x hx
  · rcases List.mem_cons.mp hx with rfl | hx
    · exact no
    · exact I.dis x hx
  · rcases List.mem_cons.mp hx with rfl | hx
    · exact .inr n0
    · exact I.gnew x hx
  · obtain ⟨c, hc⟩ := I.sin b hb
    exact ⟨c, List.mem_cons_of_mem _ hc⟩
def dropG (γ : Gh) (q : Addr) : Gh := γ.filter fun x => decide (x.1 ≠ q)
theorem drop_mem {q : Addr} {x : Addr × Gc} : x ∈ dropG γ q ↔ x ∈ γ ∧ x.1 ≠ q := by
  unfold dropG
  rw [List.mem_filter, decide_eq_true_iff]
/-- a new thing is frozen: told data from now on -/
theorem IvG.frz (I : IvG K G F H σ ρ γ) {q : Addr} {C : Str} {ns : List Str} {ds : List D} (hm : (q, Gc.obj C ns ds) ∈ γ) (n0 : G.H0 q = none) (nS : q ∉ G.S) : ∃ F', Same F F' ∧ IvG K G F' H σ ρ (dropG γ q) ∧ Rp K G.ms F' (.ref q) (.obj C ns ds) := by
  obtain ⟨o, f0, nm, h0, dx, vs, rfl, hl, rs⟩ := I.gr _ hm
  have gp : Go [q] F H (upd F q (.ins (He.ga K C) dx (ns.zip vs))) H := Go.freeze I.same f0 h0
  refine ⟨_, gp.ff, I.jump gp (fun a ha => ?_) (fun a ha => ?_) (I.iv.tp.gox gp nm) ⟨fun x hx => ?_, fun x hx => ?_, fun a ha => ?_⟩ fun x hx => ?_, .obj upd_same hl (rs.up gp.ff)⟩
  · obtain rfl : a = q := by simpa using ha
    exact .inr n0
  · obtain rfl : a = q := by simpa using ha
    exact I.dis _ hm
  · obtain ⟨h1, h2⟩ := drop_mem.mp hx
    obtain ⟨u, k1, k2, k3, k4⟩ := I.gr x h1
    exact ⟨u, by rw [upd_ne h2]; exact k1, k2, k3, k4.up gp.ff⟩
  · exact I.gnew x (drop_mem.mp hx).1
  · obtain ⟨c, hc⟩ := I.sin a ha
    exact ⟨c, drop_mem.mpr ⟨hc, fun z => nS (z ▸ ha)⟩⟩
  · exact I.dis x (drop_mem.mp hx).1
end
section
variable {X : Cx} {G : Bg} {a b o e e2 : Expr} {es rest : List Expr} {ra rb ro re r2 : RdEG} {rt ru : RdTG} {rl : RdAG} {pos apos cpos p0 pos' kpos : Pos} {k i j : Nat} {f : Addr} {x y m C kn : Str} {R : RdFG}
end
section
variable {P : Program} {w : World} {K : Frg} {mg : Str → Option Value} {base : Heap}
end
end Y
namespace Y
end Y
namespace Y
open PySem PySem.Spec PyProof.Rows L2 Z
/-! ### repr of data that holds dicts beside lists: the dict of the modules is no list -/
def SysD (K : Frg) : Prop := ∃ o, K.lookup sysModules = some o ∧ o.cls = .type "dict"
def bSys : Frg → Bool := fun K => match K.lookup sysModules with
  | some o => decide (o.cls = .type "dict")
  | none => false
theorem sys_of {K : Frg} (h : bSys K = true) : SysD K := by
  unfold bSys at h
  split at h
  · exact ⟨_, by assumption, of_decide_eq_true h⟩
  · cases h
mutual
def toN : D → PyData
  | .lst ds => .list (toNs ds)
  | .tup ds => .tuple (toNs ds)
  | .dic ks ds => kvPy ks ds
  | d => toP d
def toNs : List D → List PyData
  | [] => []
  | d :: ds => toN d :: toNs ds
end
mutual
def shN : D → Prop
  | .lst ds => shNs ds
  | .tup ds => shNs ds
  | .dic ks ds => (∀ k ∈ ks, flK k) ∧ (∀ x ∈ ds, flD x) ∧ ks.length = ds.length
  | d => shP 0 d
def shNs : List D → Prop
  | [] => True
  | d :: ds => shN d ∧ shNs ds
end
mutual
theorem n_short : ∀ d : D, shN d → (toN d).leavesShort 1921 = true
  | .lst ds, h => n_shorts ds h
  | .tup ds, h => n_shorts ds h
  | .dic ks ds, h => (kv_short h.1 h.2.1).1
  | .non, h => sh_short (n := 0) _ h
  | .bl _, h => sh_short (n := 0) _ h
  | .int _, h => sh_short (n := 0) _ h
  | .str _, h => sh_short (n := 0) _ h
  | .obj _ _ _, h => h.elim
  | .ty _, h => h.elim
  | .glob _, h => h.elim
  | .tape, h => h.elim
  | .fn _, h => h.elim
  | .dpl _ _, h => h.elim
theorem n_shorts : ∀ ds : List D, shNs ds → PyData.leavesShortAll 1921 (toNs ds) = true
  | [], _ => rfl
  | d :: ds, h => by
    show ((toN d).leavesShort 1921 && PyData.leavesShortAll 1921 (toNs ds)) = true
    rw [n_short d h.1, n_shorts ds h.2]
    rfl
end
mutual
theorem n_able : ∀ d : D, shN d → (toN d).showable = true
  | .lst ds, h => n_ables ds h
  | .tup ds, h => n_ables ds h
  | .dic ks ds, h => (kv_short h.1 h.2.1).2
  | .non, h => sh_able (n := 0) _ h
  | .bl _, h => sh_able (n := 0) _ h
  | .int _, h => sh_able (n := 0) _ h
  | .str _, h => sh_able (n := 0) _ h
  | .obj _ _ _, h => h.elim
  | .ty _, h => h.elim
  | .glob _, h => h.elim
  | .tape, h => h.elim
  | .fn _, h => h.elim
  | .dpl _ _, h => h.elim
theorem n_ables : ∀ ds : List D, shNs ds → PyData.showableAll (toNs ds) = true
  | [], _ => rfl
  | d :: ds, h => by
    show ((toN d).showable && PyData.showableAll (toNs ds)) = true
    rw [n_able d h.1, n_ables ds h.2]
    rfl
end
section
variable {X : Cx} {B : Bs} {pins : List (Addr × Obj)} {σ : L2.St} {H F : Hp} {s : Shared} {ms : List Addr}
theorem no_sys {a : Addr} {o : Obj} (hy : SysD X.K) (I : L2.Inv X pins σ H s) (hg : s.heap.get? a = some o) (hc : o.cls = .type "list") : sysModules ≠ a := fun e => by
  obtain ⟨o', h1, h2⟩ := hy
  have h3 := I.kIn _ _ h1
  rw [e, hg] at h3
  have e2 : o = o' := Option.some.inj h3
  rw [← e2, hc] at h2
  exact absurd h2 (by decide)
mutual
theorem n_reads (hy : SysD X.K) (I : L2.Inv X pins σ H s) (hs : Same F H) : ∀ (d : D) (v : V) (u : Value), shN d → Rp X.K ms F v d → RelV v u → ∃ as, Reads s.heap u (toN d) as ∧ sysModules ∉ as
  | .non, _, u, _, r, e => by
    cases r
    obtain rfl : u = Value.none := e
    exact ⟨_, .none, List.not_mem_nil⟩
  | .bl b, _, u, _, r, e => by
    cases r
    obtain rfl : u = Value.bool b := e
    exact ⟨_, .bool b, List.not_mem_nil⟩
  | .int i, _, u, _, r, e => by
    cases r
    obtain ⟨t, rfl⟩ := (show ∃ t, u = Value.int i t from e)
    exact ⟨_, .int i t, List.not_mem_nil⟩
  | .str x, _, u, _, r, e => by
    cases r
    obtain ⟨t, rfl⟩ := (show ∃ t, u = Value.str x t from e)
    exact ⟨_, .str x t, List.not_mem_nil⟩
  | .lst ds, _, u, h, r, e => by
    cases r with
    | @lst a vs _ h1 h2 =>
      obtain rfl : u = Value.ref a := e
      obtain ⟨_, its, n, rv, hg⟩ := I.hok a _ (hs _ _ h1)
      obtain ⟨as, q, nq⟩ := n_readss hy I hs ds vs its h h2 rv
      exact ⟨_, .list hg rfl rfl (by simpa using q), fun m => (List.mem_cons.mp m).elim (no_sys hy I hg rfl) nq⟩
  | .tup ds, _, u, h, r, e => by
    cases r with
    | @tup a vs _ h1 h2 =>
      obtain rfl : u = Value.ref a := e
      obtain ⟨its, rv, ⟨o, hg, hc, n, hd⟩, _⟩ := I.tuple (sqT hs h1)
      obtain ⟨as, q, nq⟩ := n_readss hy I hs ds vs its h h2 rv
      exact ⟨_, .tuple hg hc hd (by simpa using q), nq⟩
  | .dic ks ds, _, u, h, r, e => by
    obtain ⟨fk, fd, hl⟩ := h
    cases r with
    | @dic a o0 _ vs _ h1 h2 h3 =>
    obtain rfl : u = Value.ref a := e
    obtain ⟨_, hz, vs', rel, o, es, ep, e1, e2, e3, e4, e5⟩ := dk_rd I.hok (.inr ⟨_, hs _ _ h1⟩)
    have m1 : (ks.zip vs).map (·.2) = vs := List.map_snd_zip (by omega)
    have m2 : (ks.zip vs).map (·.1) = ks := List.map_fst_zip (by omega)
    have kr := keys_read (h := s.heap) e5.1
    have vr := vals_read (X := X) (ms := ms) (F := F) (h := s.heap) (ks := ks) (ds := ds) e5.1 rel (by rw [m1]; exact h3) fd
    have ek : vs'.map (fun q => shK q.1) = ks.map shK := by
      have := kv_fst rel
      rw [m2] at this
      rw [← this, List.map_map]
      rfl
    rw [ek] at kr
    have z1 : ((ks.zip ds).map fun q => (shK q.1, toP q.2)).map (·.1) = ks.map shK := by
      rw [List.map_map]
      have := List.map_fst_zip (l₁ := ks) (l₂ := ds) (by omega)
      rw [show ks.map shK = ((ks.zip ds).map (·.1)).map shK by rw [this], List.map_map]
      rfl
    have z2 : ((ks.zip ds).map fun q => (shK q.1, toP q.2)).map (·.2) = ds.map toP := by
      rw [List.map_map]
      have := List.map_snd_zip (l₁ := ks) (l₂ := ds) (by omega)
      rw [show ds.map toP = ((ks.zip ds).map (·.2)).map toP by rw [this], List.map_map]
      rfl
    refine ⟨_, Reads.dict (as := []) (bs := []) e1 e2.1 e3 (by rw [z1]; exact kr) (by rw [z2]; exact vr), fun m => ?_⟩
    have ea : sysModules = a := by simpa using m
    rw [ea] at hz
    simp at hz
  | .obj _ _ _, _, _, h, _, _ => h.elim
  | .ty _, _, _, h, _, _ => h.elim
  | .glob _, _, _, h, _, _ => h.elim
  | .tape, _, _, h, _, _ => h.elim
  | .fn _, _, _, h, _, _ => h.elim
  | .dpl _ _, _, _, h, _, _ => h.elim
theorem n_readss (hy : SysD X.K) (I : L2.Inv X pins σ H s) (hs : Same F H) : ∀ (ds : List D) (vs : List V) (us : List Value), shNs ds → Rps X.K ms F vs ds → Vals vs us → ∃ as, ReadsAll s.heap us (toNs ds) as ∧ sysModules ∉ as
  | [], _, _, _, r, e => by
    cases r
    cases e
    exact ⟨_, .nil, List.not_mem_nil⟩
  | d :: ds, _, _, h, r, e => by
    cases r with
    | cons r1 r2 =>
      cases e with
      | cons e1 e2 =>
        obtain ⟨as, q1, n1⟩ := n_reads hy I hs d _ _ h.1 r1 e1
        obtain ⟨bs, q2, n2⟩ := n_readss hy I hs ds _ _ h.2 r2 e2
        exact ⟨_, .cons q1 q2, fun m => (List.mem_append.mp m).elim n1 n2⟩
end
def shM (d : D) : Str := (toN d).shown
def shMP (d : D) : Prop := shN d ∧ (toN d).bulk ≤ 8000 ∧ (toN d).depth ≤ 40
theorem n_len {d : D} (h : shN d) (hb : (toN d).bulk ≤ 8000) : (toN d).shown.length ≤ sizeLine := by
  have z := PyData.shown_le_bulk 1921 (by decide) (toN d) (n_short d h)
  have : (2 : Nat) ^ 24 = 16777216 := by decide
  show _ ≤ 2 ^ 24
  omega
def rReprN (K : Frg) (xs : List V) (H : Hp) (Q : VK) : Prop := ∃ (ms : List Addr) (F : Hp) (v : V) (d : D), xs = [v] ∧ Same F H ∧ Rp K ms F v d ∧ shMP d ∧ Q (.str (shM d)) H
theorem call_reprN (hy : SysD X.K) (hu : X.A.units + 64 < cLine) (hgd : X.A.guards = some []) : CallR X (.builtin "repr") (rReprN X.K) := by
  intro pins s σ H xs us Q I r h
  obtain ⟨ms, F, v, d, rfl, hs, rd, ⟨hp, hb, hd⟩, q⟩ := h
  obtain ⟨u, rfl, ru⟩ := vals1 r
  have hl := n_len hp hb
  obtain ⟨as, rr, ns⟩ := n_reads hy I hs d v u hp rd ru
  have fin : ∀ h' u' tk, (∀ b o, s.heap.get? b = some o → h'.get? b = some o) → EP X pins σ Q (.str (toN d).shown u') { s with heap := h', toks := tk } := fun h' u' tk hk => ⟨.str _, H, I.kept hk, ⟨_, rfl⟩, q⟩
  have ab := n_able d hp
  cases rd with
  | non =>
    obtain rfl : u = Value.none := ru
    exact PySem.P.repr_of_none (fin _ _ _ fun _ _ e => e)
  | bl b =>
    obtain rfl : u = Value.bool b := ru
    exact PySem.P.repr_of_bool (fin _ _ _ fun _ _ e => e)
  | int i =>
    obtain ⟨t, rfl⟩ := (show ∃ t, u = Value.int i t from ru)
    exact PySem.P.repr_of_int (sz1900 hp) (fin _ _ _ fun _ _ e => e)
  | str x =>
    obtain ⟨t, rfl⟩ := (show ∃ t, u = Value.str x t from ru)
    exact PySem.P.repr_of_str (fin _ _ _ fun _ _ e => e) hl
  | ty _ => exact hp.elim
  | glob _ => exact hp.elim
  | tape _ => exact hp.elim
  | fn _ => exact hp.elim
  | dpl _ _ _ _ _ _ _ => exact hp.elim
  | obj _ _ _ => exact hp.elim
  | dic h1 h2 h3 =>
    obtain rfl : u = Value.ref _ := ru
    exact repr_of_reads' rr ab (fun _ => ns) hgd (by omega) (fun _ _ e => e) fin hl
  | lst h1 h2 =>
    obtain rfl : u = Value.ref _ := ru
    exact repr_of_reads' rr ab (fun _ => ns) hgd (by omega) (fun _ _ e => e) fin hl
  | tup h1 h2 =>
    obtain rfl : u = Value.ref _ := ru
    exact repr_of_reads' rr ab (fun _ => ns) hgd (by omega) (fun _ _ e => e) fin hl
def dReprN (ds : List D) (Q : D → Prop) : Prop := match ds with
  | [d] => shMP d ∧ Q (.str (shM d))
  | _ => False
theorem reprNL {K : Frg} : CalL K ms (rReprN K) dReprN := by
  intro F H xs ds Qd Q hs r h k
  unfold dReprN at h
  split at h
  · obtain ⟨x, rfl, r1⟩ := rps1 r
    exact ⟨ms, F, x, _, rfl, hs, r1, h.1, k _ F H _ (Go.refl hs) (.str _) h.2⟩
  · exact h.elim
end
end Y
namespace Y
open PySem PySem.Spec PyProof.Rows L2 Z
section
open PySem.W PySem.Calls PySem.HandSPX
/-! ### .. with its argument by name -/
section
variable {prog : Program} {w : World} {A : Around} {E : Value → Shared → Prop} {R : Result → Shared → Prop} {hp : Heap} {gs : Array GenState} {dr : Drawn} {tk : Tok} {os : OsState} {nm q : Str} {C N fI : Addr} {bs bm bmF : List Value} {sn : List Str} {sub : List Value} {ab : Bool} {col : Option Bool} {dd : Option Addr} {k0 k1 k2 k3 k5 : Option Value} {B newId initId : String} {kn : Str} {kv : Value}
theorem kwx_check {M : Model} {Q : Unit → Shared → Prop} (F : ExcBaseFacts B newId initId bmF) (hB : (Value.ref C :: bm).contains (.type B) = true) (hK : hp.get? C = some (excClassObj nm q C N bs bm true sn sub ab col dd k0 k1 k2 k3 k5 newId)) (hq : Q () ⟨hp, gs, dr, tk, os⟩) : wpAny M A (checkBuiltinCall newId ⟨[.ref C], [(kn, kv)]⟩) Q E ⟨hp, gs, dr, tk, os⟩ := by
  have e1 := F.noStar
  simp only [checkBuiltinCall, F.newKind, F.newSplit, F.newRow]
  repeat (first | refine wpAny_loadPart_at hK ?_ | (refine wpAny_isSubtype_exc hK ?_; rw [hB]) | refine wpAny_staticBase_exc hK ?_ | refine wpAny_madeBy_exc hK ?_ | simp only [bne_self_eq_false, Bool.false_eq_true, if_false] | wp_step)
  exact hq
theorem kwx_new (F : ExcBaseFacts B newId initId bmF) (hB : (Value.ref C :: bm).contains (.type B) = true) (hA : (Value.ref C :: bm).contains (.type "AttributeError") = false) (hN : (Value.ref C :: bm).contains (.type "NameError") = false) (hK : hp.get? C = some (excClassObj nm q C N bs bm true sn sub ab col dd k0 k1 k2 k3 k5 newId))
    (hq : R (.ok (.ret (.ref (hp.objs.size + 1)))) ⟨(hp.push (W.kdv_tup [])).push (excO C hp.objs.size), gs, dr, tk, os⟩) : codeAny (model prog w) A (.builtin newId ⟨[.ref C], [(kn, kv)]⟩) R ⟨hp, gs, dr, tk, os⟩ := by
  have e0 := F.ends
  refine PySem.codeAny_builtinAt F.entry (?_ : _)
  unfold Builtin.«BaseException.__new__»
  refine PySem.wpAt_bind ?_
  show PySem.wpAt _ _ _ (stack >>= _) _ _ _
  refine PySem.wpAt_bind (PySem.wpAt_stack fun p0 b0 => PySem.wpAt_of_wpAny ?_)
  wp_walk
  refine PySem.wpAt_of_wpAny ?_
  rw [F.owner]
  have hl : ([] : List Value).length ≤ sizeLine := Nat.zero_le _
  repeat (first | with_reducible refine wpAny_madeHere_exc F.canon hK ?_ | with_reducible refine wpAny_loadPart_at hK ?_ | (with_reducible refine wpAny_isSubtype_exc hK ?_; first | rw [hB] | rw [hA] | rw [hN]) | wp_step)
  show R _ _
  rw [Heap.size_push]
  exact hq
theorem kwx_type {Q : Fin → Shared → Prop} (F : ExcBaseFacts B newId initId bmF) (hB : (Value.ref C :: bm).contains (.type B) = true) (hA : (Value.ref C :: bm).contains (.type "AttributeError") = false) (hN : (Value.ref C :: bm).contains (.type "NameError") = false) (hK : hp.get? C = some (excClassObj nm q C N bs bm true sn sub ab col dd k0 k1 k2 k3 k5 newId))
    (hi : W.Looks (model prog w) hp (typeLookup (.ref C) "__init__") (some (.ref fI))) (hb : ∀ self, W.Looks (model prog w) hp (bindSpecial (.ref fI) self) (.ref fI, [self]))
    (hq : codeAny (model prog w) A (.call (.ref fI) ⟨[.ref (hp.objs.size + 1)], [(kn, kv)]⟩) (fun r s' => match r with | .ok (.ret v) => v = .none ∧ Q (.done (.ret (.ref (hp.objs.size + 1)))) s' | .ok _ => False | .error e => E e s') ⟨(hp.push (W.kdv_tup [])).push (excO C hp.objs.size), gs, dr, tk, os⟩) :
    wpAny (model prog w) A (Builtin.«type.__call__» ⟨[.ref C], [(kn, kv)]⟩) Q E ⟨hp, gs, dr, tk, os⟩ := by
  repeat (first | with_reducible refine wpAny_loadPart_at hK ?_ | with_reducible refine wpAny_madeBy_exc hK ?_ | wp_step)
  refine codeAny_call_builtin_code (Code.quiet_builtin _ F.quiet) (kwx_check F hB hK ?_)
  refine kwx_new F hB hA hN hK ?_
  show wpAny _ _ _ _ _ _
  have kp : ∀ b o, hp.get? b = some o → ((hp.push (W.kdv_tup [])).push (excO C hp.objs.size)).get? b = some o := fun b o e => Heap.get?_push_of_some _ (Heap.get?_push_of_some _ e)
  have hK1 := kp _ _ hK
  have hg : ((hp.push (W.kdv_tup [])).push (excO C hp.objs.size)).get? (hp.objs.size + 1) = some (excO C hp.objs.size) := by heap_get
  have cc : (Value.ref C :: bm).contains (.ref C) = true := by simp
  have j1 := hi.keeps kp
  have j2 := (hb (.ref (hp.objs.size + 1))).keeps kp
  unfold isInstance
  repeat (first | with_reducible refine wpAny_loadPart_at hg ?_ | (with_reducible refine wpAny_isSubtype_exc hK1 ?_; rw [cc]) | wp_step)
  show wpAny _ _ (typeLookup (.ref C) _) _ _ _
  refine j1.at (wpAny_holding (wpAny_bind (j2.at (wpAny_bind (wpAny_call (codeAny_mono hq fun r s' z => ?_))))))
  rcases r with e | (v | _ | _ | _) <;> first | exact z | exact z.elim | skip
  obtain ⟨rfl, z⟩ := z
  first
    | exact wpAny_pure (wpAny_pure z)
    | (wp_walk; exact z)
theorem kwx_call (F : ExcBaseFacts B newId initId bmF) (hB : (Value.ref C :: bm).contains (.type B) = true) (hA : (Value.ref C :: bm).contains (.type "AttributeError") = false) (hN : (Value.ref C :: bm).contains (.type "NameError") = false) (hK : hp.get? C = some (excClassObj nm q C N bs bm true sn sub ab col dd k0 k1 k2 k3 k5 newId))
    (hi : W.Looks (model prog w) hp (typeLookup (.ref C) "__init__") (some (.ref fI))) (hb : ∀ self, W.Looks (model prog w) hp (bindSpecial (.ref fI) self) (.ref fI, [self]))
    (hq : codeAny (model prog w) (A.under (.builtin "type.__call__" ⟨[.ref C], [(kn, kv)]⟩)) (.call (.ref fI) ⟨[.ref (hp.objs.size + 1)], [(kn, kv)]⟩) (W.InitBack (hp.objs.size + 1) R) ⟨(hp.push (W.kdv_tup [])).push (excO C hp.objs.size), gs, dr, tk, os⟩) :
    codeAny (model prog w) A (.call (.ref C) ⟨[], [(kn, kv)]⟩) R ⟨hp, gs, dr, tk, os⟩ := by
  have z1 := tc_lookup
  have z2 := tc_bind (.ref C)
  have z3 : (⟨hp, gs, dr, tk, os⟩ : Shared).TypeIs (.ref C) "type" := ⟨_, hK, rfl⟩
  refine codeAny_of_tree ?_
  show wpAny _ _ (callAny (.ref C) _) _ _ _
  repeat (any_goals (first | assumption | with_reducible refine wpAny_loadPart_at hK ?_ | wp_step))
  refine ⟨rfl, ?_⟩
  have ck : ∀ {A' : Around} {Q : Unit → Shared → Prop} {E' : Value → Shared → Prop}, Q () ⟨hp, gs, dr, tk, os⟩ → wpAny (model prog w) A' (checkBuiltinCall "type.__call__" ⟨[.ref C], [(kn, kv)]⟩) Q E' ⟨hp, gs, dr, tk, os⟩ := by
    intro A' Q E' h
    have f3 := tc_sub
    simp only [checkBuiltinCall, tc_kind, tc_split]
    repeat (any_goals (first | assumption | with_reducible refine wpAny_loadPart_at hK ?_ | with_reducible refine wpAny_onRaise ?_ | with_reducible refine wpAny_map ?_ | wp_step))
  refine codeAny_call_builtin_at (Code.quiet_builtin _ (by decide +kernel)) entry_typeCall (ck (kwx_type F hB hA hN hK hi hb ?_))
  refine codeAny_mono hq fun r s' z => ?_
  rcases r with e | (v | _ | _ | _) <;> exact z
end
def baseOf : Nat → String
  | 0 => "ValueError"
  | 1 => "OverflowError"
  | 3 => "LookupError"
  | _ => "ArithmeticError"
theorem base_of : ∀ b : Nat, (∃ initId bmF, ExcBaseFacts (baseOf b) (bsOf b).2 initId bmF) ∧ ((bsOf b).1.contains (.type (baseOf b)) = true ∧ (bsOf b).1.contains (.type "AttributeError") = false ∧ (bsOf b).1.contains (.type "NameError") = false)
  | 0 => ⟨⟨_, _, PySem.F.excBase_ValueError⟩, rfl, rfl, rfl⟩
  | 1 => ⟨⟨_, _, PySem.F.excBase_OverflowError⟩, rfl, rfl, rfl⟩
  | 2 => ⟨⟨_, _, PySem.F.excBase_ArithmeticError⟩, rfl, rfl, rfl⟩
  | 3 => ⟨⟨_, _, PySem.F.excBase_LookupError⟩, rfl, rfl, rfl⟩
  | _ + 4 => ⟨⟨_, _, PySem.F.excBase_ArithmeticError⟩, rfl, rfl, rfl⟩
/-- C is an own class of errors over the built-in one of number b -/
def XkB (K : Frg) (C : Addr) : Prop := ∃ b, xclB K C b = true
def bXk (x : Str) (b : Nat) : Frg → Bool := fun K => xclB K (He.ga K x) b
theorem xk_of {K : Frg} {x : Str} {b : Nat} (h : bXk x b K = true) : XkB K (He.ga K x) := ⟨b, h⟩
theorem xcl_at {K : Frg} {C : Addr} {b : Nat} (q : xclB K C b = true) : ∃ nm q N bs bm sn sub ab col dd k0 k1 k2 k3 k5, K.lookup C = some (excClassObj nm q C N bs bm true sn sub ab col dd k0 k1 k2 k3 k5 (bsOf b).2) ∧ excTail (bsOf b).1 bm = true := by
  unfold xclB at q
  split at q
  · rename_i dd cd sl ho
    split at q
    · rename_i C' bm k0 k1 k2 k3 n k5 hm hs
      simp only [Bool.and_eq_true, beq_iff_eq, Bool.not_eq_true'] at q
      obtain ⟨⟨⟨⟨rfl, rfl⟩, hdel⟩, hdi⟩, ht⟩ := q
      obtain ⟨nm, bs, mro, ns, qn, hd, sn, sub, ab, col, del⟩ := cd
      dsimp only at hm hdel hdi
      subst hm hdel hdi
      have hsl : sl = #[k0, k1, k2, k3, some (.builtin (bsOf b).2), k5] := by
        obtain ⟨l⟩ := sl
        simp only at hs
        rw [hs]
      subst hsl
      exact ⟨nm, qn, ns, bs, bm, sn, sub, ab, col, dd, k0, k1, k2, k3, k5, ho, ht⟩
    · cases q
  · cases q
variable {prog : Program} {w : World} {A : Around} {E : Value → Shared → Prop} {R : Result → Shared → Prop} {s : Shared} {K : Frg} {mg : Str → Option Value} {C fI : Addr} {f qual : Str} {st : Stmt}
theorem xc_initK (T : XcT K C fI f qual st) (hf : Fld f) {x t0 : Addr} {v : Value} (X : K.In s.heap) (hlim : s.heap.NoLimit) (hx : s.heap.get? x = some (excO C t0)) (hnx : K.lookup x = none) (hroom : A.depth < recursionLimit)
    (hq : ∀ h' tk dx, InitEnd s.heap h' x C dx t0 f v → R (.ok (.ret .none)) { s with heap := h', toks := tk }) :
    codeAny (model prog w) A (.call (.ref fI) ⟨[.ref x], [(f, v)]⟩) R s := by
  obtain ⟨fd, F⟩ := T.df
  obtain ⟨oc, od, dV, kV, doc, pm, an, cdv, ct, osl, rfl, ho, hcd, hD, hK⟩ := F.ex
  have hD' : dV = .none := by
    rcases hD with ⟨_, z⟩ | ⟨z, _⟩
    · exact z
    · exact absurd rfl z
  subst hD'
  obtain ⟨p1, p2, eA⟩ := T.arg
  obtain ⟨q1, q2, q3, q4, eB⟩ := T.body
  rw [eA, eB, T.sc] at ho
  obtain ⟨nm, q, N, bs, bm, sn, sub, ab, col, dd, k0, k1, k2, k3, k5, bmB, newId, hC, hbm, EB⟩ := T.cls
  have hcl : clsIn K C = some { name := nm, bases := bs, mro := .ref C :: bm, ns := N, qualname := q, hasDict := true, slotNames := sn, subclasses := sub, abstract := ab, collection := col, hasDel := false } := by unfold clsIn; rw [hC] <;> rfl
  have hsa := T.sa
  have hno := T.noN
  clear T eA eB F hK hD
  rcases hf with rfl | rfl | rfl | rfl
  all_goals
    refine Att.call_fn (binds := [("self", .ref x), (_, v)]) X hlim ho hcd hroom (BindsTo.of_eq (by first | rfl | with_unfolding_all rfl)) (by first | rfl | decide | with_unfolding_all rfl) (fun s₁ IC => ?_) rfl rfl rfl
    obtain ⟨h₁, tk₁, rfl⟩ := IC.toInCall.same
    have k : ∀ b o, s.heap.get? b = some o → h₁.get? b = some o := IC.toInCall.keep
    have hn := IC.toInCall.ns
    have hxL : s.heap.objs.size ≠ x := Nat.ne_of_gt (Heap.lt_size hx)
    have X₁ : K.In h₁ := X.keeps k
    have hx₁ := k _ _ hx
    show wpAny _ _ (execs _ _) _ _ _
    refine wpAny_execs_cons (plainObj_wpAny_Assign_Attribute ?_)
    refine ldC (v := v) hn (by first | rfl | with_unfolding_all rfl | kernel_rfl) (ldC (v := .ref x) hn (by first | rfl | with_unfolding_all rfl | kernel_rfl) ?_)
    refine set_plain X₁ (ox := excO C t0) (od := none) ⟨hx₁, rfl, rfl, trivial⟩ hsa ?_
    refine exc_osaG EB X₁ hx₁ hcl (show excTail bmB (.ref C :: bm) = true from hbm) rfl hno (fun h₃ tk₃ dx k₃ dn dne hx₃ hn₃ => ?_)
    show wpAny _ _ (execs _ _) _ _ _
    have z : s.heap.objs.size < h₁.objs.size := hn.lt
    exact wpAny_execs_nil (hq h₃ tk₃ dx ⟨fun b o hb e => k₃ b o hb (k b o e), hx₃, Nat.le_of_lt (Nat.lt_of_lt_of_le z dn), dne, hn₃⟩)
theorem xc_madeK (T : XcT K C fI f qual st) (D : XkB K C) (hf : Fld f) {v : Value} (X : K.In s.heap) (hlim : s.heap.NoLimit) (hroom : A.depth + 1 < recursionLimit)
    (hq : ∀ h' tk e d, OwnMade s.heap h' e C d f v → R (.ok (.ret (.ref e))) { s with heap := h', toks := tk }) :
    codeAny (model prog w) A (.call (.ref C) ⟨[], [(f, v)]⟩) R s := by
  obtain ⟨b, D⟩ := D
  obtain ⟨nm, q, N, bs, bm, sn, sub, ab, col, dd, k0, k1, k2, k3, k5, hC, hbm⟩ := xcl_at D
  obtain ⟨⟨initId, bmF, F⟩, c1, c2, c3⟩ := base_of b
  have ct := fun Y => excTail_contains Y bm hbm
  obtain ⟨hp, g, dr, tk, os⟩ := s
  have k : ∀ b o, hp.get? b = some o → ((hp.push (kdv_tup [])).push (excO C hp.objs.size)).get? b = some o := fun b o e => Heap.get?_push_of_some _ (Heap.get?_push_of_some _ e)
  have hget : ((hp.push (kdv_tup [])).push (excO C hp.objs.size)).get? (hp.objs.size + 1) = some (excO C hp.objs.size) := by heap_get
  have hnx : K.lookup (hp.objs.size + 1) = none := by
    cases e : K.lookup (hp.objs.size + 1) with
    | none => rfl
    | some o =>
      have z : hp.get? (hp.objs.size + 1) = some o := X _ _ e
      exact absurd (Nat.lt_of_succ_lt (Heap.lt_size z)) (Nat.lt_irrefl _)
  refine kwx_call F (by rw [List.contains_cons, ct, c1, Bool.or_true]) (by rw [List.contains_cons, ct, c2]; rfl) (by rw [List.contains_cons, ct, c3]; rfl) (X _ _ hC) (looks_findIn X T.iC) (fun self => bind_fn X self T.tC) ?_
  refine xc_initK (s := ⟨(hp.push (kdv_tup [])).push (excO C hp.objs.size), g, dr, tk, os⟩) T hf (X.keeps k) (hlim.keeps k) hget hnx ?_ fun h' tk' dx ⟨k', hx, dn, dne, hns⟩ => ?_
  · show A.depth + 1 < recursionLimit
    exact hroom
  · have old : ∀ b o, hp.get? b = some o → h'.get? b = some o := fun b o e => k' b o (Nat.ne_of_lt (Nat.lt_succ_of_lt (Heap.lt_size e))) (k b o e)
    have z : hp.objs.size + 1 + 1 ≤ dx := by
      first
        | (simpa only [Heap.size_push] using dn)
        | exact dn
        | (have q := dn; rw [Heap.size_push, Heap.size_push] at q; exact q)
    exact ⟨rfl, hq h' tk' (hp.objs.size + 1) dx ⟨old, Nat.le_succ _, ⟨_, _, hx, rfl, rfl, rfl⟩, Nat.le_trans (Nat.le_trans (Nat.le_succ _) (Nat.le_succ _)) z, dne, hns⟩⟩
end
/-! ### errors that are things -/
section
variable {X : Cx} {pins : List (Addr × Obj)} {σ : L2.St} {H : Hp} {C : Addr} {fn : Str} {v : V} {v' : Value} {e d : Addr}
/-- the heap behind the making of an error -/
theorem made_inv {s1 : Shared} {h' : Heap} {tk' : Tok} (I1 : L2.Inv X pins σ H s1) (rv : RelV v v') (M : OwnMade s1.heap h' e C d fn v') :
    L2.Inv X pins σ (upd (upd H d (.xd [(fn, v)])) e (XO (.ref C) (some d) e)) { s1 with heap := h', toks := tk' } ∧ H d = none ∧ H e = none ∧ d ≠ e := by
  obtain ⟨oe, t1, hoe, hc, hd, hdat⟩ := M.obj
  have hns := M.ns
  obtain ⟨G', g1, g2⟩ := restrict h' fun b => decide (b ≠ e)
  have gk : ∀ b, b ≠ e → G'.get? b = h'.get? b := fun b hb => g1 b (decide_eq_true hb)
  have ge : G'.get? e = none := g2 e (by simp)
  have old : ∀ b o, s1.heap.get? b = some o → G'.get? b = some o := fun b o q => (gk b (Nat.ne_of_lt (Nat.lt_of_lt_of_le (Heap.lt_size q) M.new))).trans (M.keep b o q)
  have ob : ObjOk X.prog X.w (upd H d (.xd [(fn, v)])) G' d (.xd [(fn, v)]) := ⟨_, hns.at (fun o q => (gk d M.dne).trans q), fun f => relO_x rv f⟩
  have J : L2.Inv X pins σ (upd H d (.xd [(fn, v)])) { s1 with heap := G', toks := tk' } := I1.laid (t' := tk') old M.dbig ob
  have ne : (upd H d (.xd [(fn, v)])) e = none := by rw [upd_ne (Ne.symm M.dne)]; exact I1.hok.fresh M.new
  refine ⟨J.laidN (t' := tk') (fun b u q => ?_) ge ne (xo_ok hoe ⟨hc, hd⟩ hdat), I1.hok.fresh M.dbig, I1.hok.fresh M.new, M.dne⟩
  by_cases hb : b = e
  · have q' : G'.get? b = some u := q
    rw [hb, ge] at q'; cases q'
  · exact (gk b hb).symm.trans q
end
def one1 (ds : List D) (k : D → Prop) : Prop := match ds with
  | [d] => k d
  | _ => False
section
variable {K : Frg} {G : Bg} {F H : Hp} {σ : L2.St} {ρ : Ev} {γ : Gh}
theorem IvG.exc (J : IvG K G F H σ ρ γ) (s0 : Same G.F0 G.H0) {x fn : Str} {v : V} {d0 : D} {e d : Addr} (rv : Rp K G.ms F v d0) (hd : H d = none) (he : H e = none) (ne : d ≠ e) :
    Same F (upd F d (.xd [(fn, v)])) ∧ IvG K G (upd F d (.xd [(fn, v)])) (upd (upd H d (.xd [(fn, v)])) e (XO (.ref (He.ga K x)) (some d) e)) σ ρ ((e, .exc ⟨.glob x, [fn], [d0]⟩) :: γ) := by
  have g2 : Go [] F H (upd F d (.xd [(fn, v)])) (upd H d (.xd [(fn, v)])) := Go.new J.same hd
  have J2 := J.step s0 g2.nil (J.iv.tp.go0 g2)
  have he2 : (upd H d (.xd [(fn, v)])) e = none := by rw [upd_ne (Ne.symm ne)]; exact he
  refine ⟨g2.ff, J2.add s0 (Go.newM J2.same he2) he2 upd_same ⟨.ref (He.ga K x), some d, rfl, rfl, fun _ => ⟨d, [v], rfl, upd_same, rfl, .cons (rv.up g2.ff) .nil⟩⟩⟩
theorem IvG.exc0 (J : IvG K G F H σ ρ γ) (s0 : Same G.F0 G.H0) {x : Str} {e : Addr} (he : H e = none) :
    IvG K G F (upd H e (XO (.ref (He.ga K x)) none e)) σ ρ ((e, .exc ⟨.glob x, [], []⟩) :: γ) :=
  J.add s0 (Go.newM J.same he) he upd_same ⟨.ref (He.ga K x), none, rfl, rfl, fun q => q.elim (absurd rfl) (absurd rfl)⟩
end
section
variable {X : Cx} {G : Bg} {a o e e2 : Expr} {es : List Expr} {ra rb re ro r2 : RdEG} {rl : RdAG} {pos p p0 apos kpos : Pos} {k : Nat} {fI : Addr} {x fn qual : Str} {sti : Stmt}
/-- C(e), told as a thing -/
theorem g_mkX (s0 : Same G.F0 G.H0) (T : XcT X.K (He.ga X.K x) fI fn qual sti) (hf : Fld fn) (hr : RoomG k X.A) (ha : PAg X G [a] rl) (hg : Gl X x) (hm : X.mg x = some (.ref (He.ga X.K x))) (hdb : (x == ("__debug__" : Str)) = false := by decide)
    (he : starEach (a :: []) X.env = (false, eval a X.env) :: starEach [] X.env := by rfl) (hpl : (backTo pos (starEach [] X.env)).any (·.1) = false := by rfl) :
    PEg X G (.Call (.Name x p) [a] [] pos) (fun ρ γ Q => rl ρ γ fun ds γ1 => one1 ds fun d => ∀ q, (∀ z ∈ γ1, z.1 ≠ q) → Q (.fn q) ((q, .exc ⟨.glob x, [fn], [d]⟩) :: γ1)) := by
  refine ⟨fun pins s σ H Q I ⟨F0, ρ, γ, Qd, J, z, kk⟩ => ?_⟩
  refine wpAny_Call_Name_kw (ld_glob I hg hm ?_ hdb)
  refine PySem.W.callWith_K (h₀ := X.base) I.ok.mod.kin T.kC (thn (ha.run pos pins s σ H (fun vs H1 => ∃ F1 v d γ1, vs = [v] ∧ Same F0 F1 ∧ IvG X.K G F1 H1 σ ρ γ1 ∧ Rp X.K G.ms F1 v d ∧ ∀ q, (∀ z ∈ γ1, z.1 ≠ q) → Qd (.fn q) ((q, .exc ⟨.glob x, [fn], [d]⟩) :: γ1)) I ⟨F0, ρ, γ, _, J, z, fun vs ds γ1 F1 H1 s1 J1 r1 z1 => by
    unfold one1 at z1
    split at z1
    · obtain ⟨v, rfl, r2⟩ := rps1 r1
      exact ⟨F1, v, _, γ1, rfl, s1, J1, r2, z1⟩
    · exact z1.elim⟩) fun us s1 ⟨vs, H1, I1, r, F1, v, d, γ1, ev, sm, J1, rv, z1⟩ => ⟨I1.kIn, ?_⟩) he hpl
  subst ev
  obtain ⟨u, rfl, ru⟩ := vals1 r
  show wpAny _ _ (call (.ref (He.ga X.K x)) [u]) _ _ _
  have hlim := I1.nolimit
  refine wpAny_call (xc_made T hf I1.kIn hlim (by have := hr.rm.dp; omega) fun h' tk' e d' M => ?_)
  obtain ⟨J2, hd, hee, ne⟩ := made_inv I1 ru M
  obtain ⟨sm2, J3⟩ := J1.exc s0 (x := x) (fn := fn) rv hd hee ne
  exact ⟨.ref e, _, J2, rfl, kk (.ref e) (.fn e) _ _ _ (sm.trans sm2) J3 (.fn e) (z1 e (J1.fresh hee))⟩
theorem g_mkXK (s0 : Same G.F0 G.H0) (T : XcT X.K (He.ga X.K x) fI fn qual sti) (D : XkB X.K (He.ga X.K x)) (hf : Fld fn) (hr : RoomG k X.A) (h2 : PEg X G e2 r2) (hg : Gl X x) (hm : X.mg x = some (.ref (He.ga X.K x)))
    (hall : (backToKw pos (keywordEach [⟨some fn, e2, kpos⟩] X.env)).all (·.1.isSome) = true := by rfl) (hks : (backToKw pos (keywordEach [⟨some fn, e2, kpos⟩] X.env)).filterMap (·.1) = [fn] := by rfl) (hdb : (x == ("__debug__" : Str)) = false := by decide)
    (hpl : ((backTo pos (starEach [] X.env)).any (·.1) || (backToKw pos (keywordEach [⟨some fn, e2, kpos⟩] X.env)).any (·.1.isNone)) = false := by rfl) :
    PEg X G (.Call (.Name x p) [] [⟨some fn, e2, kpos⟩] pos) (fun ρ γ Q => r2 ρ γ fun d γ1 => ∀ q, (∀ z ∈ γ1, z.1 ≠ q) → Q (.fn q) ((q, .exc ⟨.glob x, [fn], [d]⟩) :: γ1)) := by
  refine ⟨fun pins s σ H Q I ⟨F0, ρ, γ, Qd, J, z, kk⟩ => ?_⟩
  refine wpAny_Call_Name_kw (ld_glob I hg hm ?_ hdb)
  refine PySem.W.callWith_KW0 (h₀ := X.base) I.ok.mod.kin T.kC hall (thn ((pk_cons (kpos := kpos) (nm := some fn) h2 pk_nil).run pos pins s σ H (fun vs2 H2 => ∃ F2 v2 d2 γ2, vs2 = [v2] ∧ Same F0 F2 ∧ IvG X.K G F2 H2 σ ρ γ2 ∧ Rp X.K G.ms F2 v2 d2 ∧ ∀ q, (∀ z ∈ γ2, z.1 ≠ q) → Qd (.fn q) ((q, .exc ⟨.glob x, [fn], [d2]⟩) :: γ2)) I ⟨F0, ρ, γ, _, J, z, fun v2 d2 γ2 F2 H2 s2 J2 r2 z2 => ⟨F2, v2, d2, γ2, rfl, s2, J2, r2, z2⟩⟩) fun ws s2 ⟨zs, H2, I2, rz, F2, v2, d2, γ2, ez, sm, J1, r1, q2⟩ => ⟨I2.kIn, ?_⟩) hpl
  subst ez
  rw [hks]
  obtain ⟨u2, rfl, ru2⟩ := vals1 rz
  show wpAny _ _ (call (.ref (He.ga X.K x)) [] [(fn, u2)]) _ _ _
  have hlim := I2.nolimit
  refine wpAny_call (xc_madeK T D hf I2.kIn hlim (by have := hr.rm.dp; omega) fun h' tk' e d' M => ?_)
  obtain ⟨J2, hd, hee, ne⟩ := made_inv I2 ru2 M
  obtain ⟨sm2, J3⟩ := J1.exc s0 (x := x) (fn := fn) r1 hd hee ne
  exact ⟨.ref e, _, J2, rfl, kk (.ref e) (.fn e) _ _ _ (sm.trans sm2) J3 (.fn e) (q2 e (J1.fresh hee))⟩
/-- C(), C without an own __init__ -/
theorem g_mkX0 (s0 : Same G.F0 G.H0) (T : XnB X.K (He.ga X.K x)) (hg : Gl X x) (hm : X.mg x = some (.ref (He.ga X.K x))) (hdb : (x == ("__debug__" : Str)) = false := by decide) :
    PEg X G (.Call (.Name x p) [] [] pos) (fun ρ γ Q => ∀ q, (∀ z ∈ γ, z.1 ≠ q) → Q (.fn q) ((q, .exc ⟨.glob x, [], []⟩) :: γ)) := by
  refine ⟨fun pins s σ H Q I ⟨F0, ρ, γ, Qd, J, z, kk⟩ => ?_⟩
  refine wpAny_Call_Name_kw (ld_glob I hg hm ?_ hdb)
  refine PySem.W.callWith_K0 I.kIn T.kC ?_
  show wpAny _ _ (call (.ref (He.ga X.K x)) []) _ _ _
  obtain ⟨bm, N, nm, qn, bs, hdct, sn, sub, ab, col, dd, k0, k1, k2, k3, k5, mN, hC, hN, hni, TT⟩ := exc_obj I.kIn T.q
  refine wpAny_call_exc_subT F.excBase_RuntimeError TT hC hN hni (fun h' e hm => ?_) (Nat.zero_le _)
  have hee : H e = none := I.hok.gone hm.new
  obtain ⟨t1, hget, _⟩ := hm.there
  exact ⟨.ref e, _, I.laidN hm.keeps hm.new hee (xo_ok hget ⟨rfl, rfl⟩ rfl), rfl, kk (.ref e) (.fn e) _ _ _ (Same.refl _) (J.exc0 s0 (x := x) hee) (.fn e) (z e (J.fresh hee))⟩
end
/-! ### isinstance and fields of errors that are things -/
def exT (γ : Gh) (d : D) (k : Ex → Prop) : Prop := ∃ p x, d = .fn p ∧ (p, Gc.exc x) ∈ γ ∧ k x
section
variable {X : Cx} {B : Bs} {γ : Gh} {o : Expr} {ro : Rd} {C : Str} {T : String} {u : Value} {p0 p1 pos : Pos}
theorem isT_run {cv : Value} {cx : V} {σ : L2.St} {F F1 H H1 : Hp} {ρ : Ev} {v : V} {d : D} {Qd : D → Prop} {Q : VK} (hγ : GR X.K B.ms B.F0 B.H0 γ) (I : Iv X.K B F H σ ρ) (g1 : Go B.ms F H F1 H1) (t1 : Tp X.K B.ms F1 H1) (r1 : Rp X.K B.ms F1 v d) (hcv : ∀ u, RelV cx u → u = cv)
    (z : exT γ d fun x => ∃ c b, x.c = .glob c ∧ ExcC X.K (He.ga X.K c) ∧ PySem.W.kitOne X.K (.ref (He.ga X.K c)) cv = some b ∧ Qd (.bl b)) (k : ∀ v F' H' d, Go B.ms F H F' H' → Tp X.K B.ms F' H' → Rp X.K B.ms F' v d → Qd d → Q v H') : rIsX X.K [v, cx] H1 Q := by
  obtain ⟨p, x, ed, hm, c, b, ec, EC, hk, z1⟩ := z
  subst ed
  obtain rfl := fn_rp r1
  obtain ⟨o, f0, nm, h0, cls, dd, rfl, xr⟩ := (hγ.go (I.go.trans g1)) _ hm
  obtain ⟨ec1, xr2⟩ := xr
  rw [ec] at ec1
  have ecl : cls = .ref (He.ga X.K c) := (Option.some.inj ec1).symm
  subst ecl
  refine ⟨p, He.ga X.K c, dd, cx, cv, b, rfl, h0, fun d2 e2 => ?_, EC, hcv, hk, k _ F1 H1 _ g1 t1 (.bl b) z1⟩
  obtain ⟨d3, ws, e3, eF, _⟩ := xr2 (.inr (by rw [e2]; exact fun q => nomatch q))
  rw [e2] at e3
  cases e3
  exact ⟨_, t1.1 _ _ eF⟩
/-- isinstance(o, C), o an error that is a thing -/
theorem y_isxT (hγ : GR X.K B.ms B.F0 B.H0 γ) (ho : PEp X B o ro) (hg : Gl X C) (hm : X.mg C = some (.ref (He.ga X.K C))) (hi : Gl X "isinstance") (hmi : X.mg "isinstance" = none) (hdC : (C == ("__debug__" : Str)) = false := by decide)
    (h1 : starEach [o, .Name C p1] X.env = (false, eval o X.env) :: starEach [.Name C p1] X.env := by rfl) (h2 : starEach [.Name C p1] X.env = (false, eval (.Name C p1) X.env) :: starEach [] X.env := by rfl)
    (hpl : (backTo pos (starEach [.Name C p1] X.env)).any (·.1) = false := by rfl) : PEp X B (.Call (.Name "isinstance" p0) [o, .Name C p1] [] pos) (fun ρ Q => ro ρ fun d => exT γ d fun x => ∃ c b, x.c = .glob c ∧ ExcC X.K (He.ga X.K c) ∧ PySem.W.kitOne X.K (.ref (He.ga X.K c)) (.ref (He.ga X.K C)) = some b ∧ Q (.bl b)) :=
  pe_imp (pe_callB call_isX hi hmi (by decide +kernel) (pa_cons ho (pa_cons (pe_glob (v := .ref (He.ga X.K C)) hg hm rfl hdC) pa_nil h2) h1) (by decide) (by decide) h1 hpl) fun σ H Q ⟨F, ρ, Qd, I, z, k⟩ => ⟨F, ρ, _, I, z, fun v F1 H1 d g1 t1 r1 z1 =>
    isT_run (cv := .ref (He.ga X.K C)) hγ I g1 t1 r1 (fun u r => r) z1 k⟩
/-- .. of a built-in class -/
theorem y_isxTN (hγ : GR X.K B.ms B.F0 B.H0 γ) (ho : PEp X B o ro) (hg : Gl X C) (hm : X.mg C = none) (hb : bootBuiltins C = some (.type T)) (hn : C ≠ "__name__") (hi : Gl X "isinstance") (hmi : X.mg "isinstance" = none) (hdC : (C == ("__debug__" : Str)) = false := by decide)
    (h1 : starEach [o, .Name C p1] X.env = (false, eval o X.env) :: starEach [.Name C p1] X.env := by rfl) (h2 : starEach [.Name C p1] X.env = (false, eval (.Name C p1) X.env) :: starEach [] X.env := by rfl)
    (hpl : (backTo pos (starEach [.Name C p1] X.env)).any (·.1) = false := by rfl) : PEp X B (.Call (.Name "isinstance" p0) [o, .Name C p1] [] pos) (fun ρ Q => ro ρ fun d => exT γ d fun x => ∃ c b, x.c = .glob c ∧ ExcC X.K (He.ga X.K c) ∧ PySem.W.kitOne X.K (.ref (He.ga X.K c)) (.type T) = some b ∧ Q (.bl b)) :=
  pe_imp (pe_callB call_isX hi hmi (by decide +kernel) (pa_cons ho (pa_cons (pe_bltn (v := .ty T) hg hm hb rfl hn hdC) pa_nil h2) h1) (by decide) (by decide) h1 hpl) fun σ H Q ⟨F, ρ, Qd, I, z, k⟩ => ⟨F, ρ, _, I, z, fun v F1 H1 d g1 t1 r1 z1 =>
    isT_run (cv := .type T) hγ I g1 t1 r1 (fun u r => r) z1 k⟩
end
section
variable {X : Cx} {G : Bg} {a b o e : Expr} {es : List Expr} {ra rb ro : RdEG} {rl : RdAG} {pos p0 : Pos} {fn x : Str}
/-- the field of an error that is a thing -/
theorem y_gxf {cs : List Str} (ho : PEg X G o ro) (hc : ∀ c ∈ cs, XfC X.K (He.ga X.K c) ∧ PySem.W.findIn X.K (.ref (He.ga X.K c)) fn = some none)
    (hb : attributeBase o fn X.env (eval o X.env) = eval o X.env := by rfl) : PEg X G (.Attribute o fn pos) (fun ρ γ Q => ro ρ γ fun d γ1 => exT γ1 d fun x => (∃ c ∈ cs, x.c = .glob c) ∧ x.ns = [fn] ∧ one1 x.ds fun d => Q d γ1) := by
  refine ⟨fun pins s σ H Q I ⟨F0, ρ, γ, Qd, J, z, kk⟩ => ?_⟩
  refine attr_of hb (thn (ho.run pins s σ H (fun v H1 => ∃ F1 d γ1, Same F0 F1 ∧ IvG X.K G F1 H1 σ ρ γ1 ∧ Rp X.K G.ms F1 v d ∧ exT γ1 d fun x => (∃ c ∈ cs, x.c = .glob c) ∧ x.ns = [fn] ∧ one1 x.ds fun d => Qd d γ1) I ⟨F0, ρ, γ, _, J, z, fun v d γ1 F1 H1 s1 J1 r1 z1 => ⟨F1, d, γ1, s1, J1, r1, z1⟩⟩) fun u s1 hh => ?_)
  obtain ⟨v1, H1, I1, rx, F1, d, γ1, sm, J1, r1, p, x, ed, hm, ⟨c, hcs, ec⟩, hns, z1⟩ := hh
  subst ed
  obtain rfl := fn_rp r1
  obtain rfl : u = Value.ref p := rx
  obtain ⟨o, f0, nm, h0, cls, dd, rfl, xr⟩ := J1.gr _ hm
  obtain ⟨⟨oe, vs, ha, hz, hd⟩, _⟩ := I1.hok p _ h0
  obtain ⟨ec1, xr2⟩ := xr
  rw [ec] at ec1
  have ecl : cls = .ref (He.ga X.K c) := (Option.some.inj ec1).symm
  subst ecl
  obtain ⟨d2, ws, ed, eF, el, er⟩ := xr2 (.inl (by rw [hns]; exact fun z => nomatch z))
  rw [hns] at eF el
  unfold one1 at z1
  split at z1
  · rename_i dv hds
    rw [hds] at er
    subst ed
    obtain ⟨T, hno⟩ := hc c hcs
    cases er with
    | @cons v _ _ _ r1 r2 =>
    cases r2
    have hx2 : ObjOk X.prog X.w H1 s1.heap d2 (.xd [(fn, v)]) := I1.hok d2 _ (J1.same _ _ eF)
    obtain ⟨mA, hns2, hr⟩ := hx2
    obtain ⟨od, ho, hl⟩ := lookIn_ns hns2
    have l : List.lookup fn [(fn, v)] = some v := by simp [List.lookup]
    obtain ⟨u, hu, ru⟩ := RelO.some_of (v := v) (o := mA fn) (by rw [← l]; exact hr fn)
    have JJ : PySem.W.InstAt s1.heap p oe (He.ga X.K c) (some od) := ⟨ha, hz.1, by unfold PySem.W.notCls; rw [hd] <;> rfl, by rw [hz.2]; exact ho⟩
    exact HandSPX.exc_get I1.kIn JJ T.ga T.gg T.exC (PySem.W.findObj_own T.hdC hno rfl (by rw [hl, hu])) (handed_of ru) ⟨v, H1, I1.tok _, ru, kk v dv γ1 F1 H1 sm J1 r1 z1⟩
  · exact z1.elim
/-- a op b -/
theorem y_opG {op : Operator} {g : D → D → (D → Prop) → Prop} {r : R2} (s0 : Same G.F0 G.H0) (hr : OpR X (binaryOp op) r) (hl : OpL X.K G.ms r g) (ha : PEg X G a ra) (hb : PEg X G b rb) :
    PEg X G (.BinOp a op b pos) (fun ρ γ Q => ra ρ γ fun x γ1 => rb ρ γ1 fun y γ2 => g x y fun d => Q d γ2) :=
  pe_imp (pe_op hr ha hb) fun σ H Q ⟨F, ρ, γ, Qd, I, z, k⟩ => ⟨F, ρ, γ, _, I, z, fun v x γ1 F1 H1 s1 J1 r1 z1 => ⟨F1, ρ, γ1, _, J1, z1, fun u y γ2 F2 H2 s2 J2 r2 z2 =>
    hl F2 H2 v u x y _ _ J2.same (r1.up s2) r2 z2 fun w F3 H3 d g3 r3 q3 => k w d γ2 F3 H3 ((s1.trans s2).trans g3.ff) (J2.step s0 g3.nil (J2.iv.tp.go0 g3)) r3 q3⟩⟩
/-- f(..) of a builtin -/
theorem y_callBG {id : String} {q : List V → Hp → VK → Prop} {g : List D → (D → Prop) → Prop} (s0 : Same G.F0 G.H0) (hc : CallR X (.builtin id) q) (hl : CalL X.K G.ms q g) (hg : Gl X x) (hm : X.mg x = none) (hv : bootBuiltins x = some (.builtin id)) (ha : PAg X G (e :: es) rl) (hn : x ≠ "__name__" := by decide) (hdb : (x == ("__debug__" : Str)) = false := by decide)
    (he : starEach (e :: es) X.env = (false, eval e X.env) :: starEach es X.env := by rfl) (hpl : (backTo pos (starEach es X.env)).any (·.1) = false := by rfl) : PEg X G (.Call (.Name x p0) (e :: es) [] pos) (fun ρ γ Q => rl ρ γ fun ds γ1 => g ds fun d => Q d γ1) :=
  pe_imp (pe_callB hc hg hm hv ha hn hdb he hpl) fun σ H Q ⟨F, ρ, γ, Qd, I, z, k⟩ => ⟨F, ρ, γ, _, I, z, fun vs ds γ1 F1 H1 s1 J1 r1 z1 =>
    hl F1 H1 vs ds _ _ J1.same r1 z1 fun w F3 H3 d g3 r3 q3 => k w d γ1 F3 H3 (s1.trans g3.ff) (J1.step s0 g3.nil (J1.iv.tp.go0 g3)) r3 q3⟩
end
theorem allC {p : Str → Prop} {C : Str} {cs : List Str} (h : p C) (t : ∀ c ∈ cs, p c) : ∀ c ∈ C :: cs, p c := fun c hc => by
  rcases List.mem_cons.mp hc with rfl | hc
  · exact h
  · exact t c hc
end Y
namespace Y
open PySem PySem.Spec PyProof.Rows L2 Z
/-! ### k94: the classes of errors -/
def errN : List Str := ["InvalidNet", "InvalidPlace", "InvalidMotion", "InvalidRows", "InvalidColour", "InvalidTable", "InvalidNumber", "InvalidObservation", "InvalidText", "InvalidCommand", "LimitExceeded", "NothingToUndo", "UnknownName", "RunFailed"]
def errF : List Str := ["value", "value", "value", "index", "value", "value", "value", "index", "value", "value", "limit", "", "name", "index"]
def nmE (i : Nat) : Str := errN.getD i ""
def exE (d : D) (i : Nat) : Ex := if i = 11 then ⟨.glob "NothingToUndo", [], []⟩ else ⟨.glob (nmE i), [errF.getD i ""], [d]⟩
def bE94 : Frg → Bool := fun K => (List.range 14).all fun i => bExC (nmE i) K && ((List.range 14).all (fun j => decide (PySem.W.kitOne K (.ref (He.ga K (nmE i))) (.ref (He.ga K (nmE j))) = some (decide (j = i)))) &&
  (decide (PySem.W.kitOne K (.ref (He.ga K (nmE i))) (.ref (He.ga K "CarpetError")) = some (decide (i < 10))) && (decide (PySem.W.kitOne K (.ref (He.ga K (nmE i))) (.type "ValueError") = some (decide (i < 10))) &&
  (decide (PySem.W.kitOne K (.ref (He.ga K (nmE i))) (.type "OverflowError") = some (decide (i = 10))) && (decide (PySem.W.kitOne K (.ref (He.ga K (nmE i))) (.type "RuntimeError") = some (decide (i = 11))) &&
  (decide (PySem.W.kitOne K (.ref (He.ga K (nmE i))) (.type "KeyError") = some (decide (i = 12))) && decide (PySem.W.kitOne K (.ref (He.ga K (nmE i))) (.type "ArithmeticError") = some (decide (i = 10 ∨ i = 13)))))))))
structure E94 (K : Frg) : Prop where
  ec : ∀ i < 14, ExcC K (He.ga K (nmE i))
  own : ∀ i < 14, ∀ j < 14, PySem.W.kitOne K (.ref (He.ga K (nmE i))) (.ref (He.ga K (nmE j))) = some (decide (j = i))
  ce : ∀ i < 14, PySem.W.kitOne K (.ref (He.ga K (nmE i))) (.ref (He.ga K "CarpetError")) = some (decide (i < 10))
  ve : ∀ i < 14, PySem.W.kitOne K (.ref (He.ga K (nmE i))) (.type "ValueError") = some (decide (i < 10))
  oe : ∀ i < 14, PySem.W.kitOne K (.ref (He.ga K (nmE i))) (.type "OverflowError") = some (decide (i = 10))
  re : ∀ i < 14, PySem.W.kitOne K (.ref (He.ga K (nmE i))) (.type "RuntimeError") = some (decide (i = 11))
  ke : ∀ i < 14, PySem.W.kitOne K (.ref (He.ga K (nmE i))) (.type "KeyError") = some (decide (i = 12))
  ae : ∀ i < 14, PySem.W.kitOne K (.ref (He.ga K (nmE i))) (.type "ArithmeticError") = some (decide (i = 10 ∨ i = 13))
theorem E94_of {K : Frg} (h : bE94 K = true) : E94 K := by
  have key : ∀ i < 14, _ := fun i hi => List.all_eq_true.mp h i (List.mem_range.mpr hi)
  refine ⟨fun i hi => ?_, fun i hi j hj => ?_, fun i hi => ?_, fun i hi => ?_, fun i hi => ?_, fun i hi => ?_, fun i hi => ?_, fun i hi => ?_⟩
  all_goals
    obtain ⟨h1, h2⟩ := He.ba (key i hi)
    obtain ⟨h2, h3⟩ := He.ba h2
    obtain ⟨h3, h4⟩ := He.ba h3
    obtain ⟨h4, h5⟩ := He.ba h4
    obtain ⟨h5, h6⟩ := He.ba h5
    obtain ⟨h6, h7⟩ := He.ba h6
    obtain ⟨h7, h8⟩ := He.ba h7
  · exact exc_of h1
  · exact of_decide_eq_true (List.all_eq_true.mp h2 j (List.mem_range.mpr hj))
  · exact of_decide_eq_true h3
  · exact of_decide_eq_true h4
  · exact of_decide_eq_true h5
  · exact of_decide_eq_true h6
  · exact of_decide_eq_true h7
  · exact of_decide_eq_true h8
/-- the fourteen errors made of d, things at ps -/
def AtE (d : D) (ps : List Addr) (γ : Gh) : Prop := ps.length = 14 ∧ ∀ i p, ps[i]? = some p → (p, Gc.exc (exE d i)) ∈ γ
def R__law_made_errors : RdFG := gar1 fun d γ Q _ => ∀ ps γ', AtE d ps γ' → Q (.lst (ps.map D.fn)) γ'
def R__law_kinds_of : RdFG := gar1 fun e γ Q _ => ∃ p d i, e = .fn p ∧ i < 14 ∧ (p, Gc.exc (exE d i)) ∈ γ ∧ Q (.lst ((List.range 14).map fun j => D.bl (decide (j = i)))) γ
def R__law_above : RdFG := gar1 fun e γ Q _ => ∃ p d i, e = .fn p ∧ i < 14 ∧ (p, Gc.exc (exE d i)) ∈ γ ∧ Q (.lst [.bl (decide (i < 10)), .bl (decide (i < 10)), .bl (decide (i = 10)), .bl (decide (i = 11)), .bl (decide (i = 12)), .bl (decide (i = 10 ∨ i = 13))]) γ
theorem exE_c (d : D) (i : Nat) : (exE d i).c = .glob (nmE i) := by
  unfold exE
  split
  · rename_i h
    subst h
    rfl
  · rfl
def things94 : List D := [.non, .int 5, .str "a", .tup [.int 1, .int 2], .lst [.int 3], .dic [.inr "a"] [.int 1], .bl true, .int (0 - 10 ^ 20)]
theorem shp94 {n : Nat} (hn : n ≤ 13) : ∀ d ∈ things94, shMP (.lst (List.replicate n d)) := by
  have kn : ∀ (d : D) (b e : Nat), shN d → (toN d).bulk ≤ b → (toN d).depth ≤ e → e ≤ 30 → b ≤ 500 → shMP (.lst (List.replicate n d)) := by
    intro d b e h1 h2 h3 h4 h5
    have key : ∀ m : Nat, shNs (List.replicate m d) ∧ PyData.bulkAll (toNs (List.replicate m d)) ≤ m * (b + 10) ∧ PyData.depthAll (toNs (List.replicate m d)) ≤ e := by
      intro m
      induction m with
      | zero => exact ⟨trivial, by simp [toNs, PyData.bulkAll], by simp [toNs, PyData.depthAll]⟩
      | succ m ih =>
        obtain ⟨i1, i2, i3⟩ := ih
        rw [List.replicate_succ]
        refine ⟨⟨h1, i1⟩, ?_, ?_⟩
        · rw [Nat.succ_mul]
          simp only [toNs, PyData.bulkAll]
          omega
        · simp only [toNs, PyData.depthAll]
          omega
    obtain ⟨k1, k2, k3⟩ := key n
    refine ⟨k1, ?_, ?_⟩
    · simp only [toN, PyData.bulk]
      have z : n * (b + 10) ≤ 13 * 510 := Nat.mul_le_mul hn (by omega)
      omega
    · simp only [toN, PyData.depth]
      omega
  intro d hd
  unfold things94 at hd
  simp only [List.mem_cons, List.not_mem_nil, or_false] at hd
  rcases hd with rfl | rfl | rfl | rfl | rfl | rfl | rfl | rfl
  · exact kn _ 50 20 trivial (by decide +kernel) (by decide +kernel) (by decide) (by decide)
  · exact kn _ 50 20 (szP (by decide) (by decide)) (by decide +kernel) (by decide +kernel) (by decide) (by decide)
  · exact kn _ 50 20 (fun c hc => by rw [show ("a" : Str).cps.toList = [97] by decide +kernel, List.mem_singleton] at hc; rw [hc]; decide) (by decide +kernel) (by decide +kernel) (by decide) (by decide)
  · exact kn _ 50 20 ⟨szP (by decide) (by decide), szP (by decide) (by decide), trivial⟩ (by decide +kernel) (by decide +kernel) (by decide) (by decide)
  · exact kn _ 50 20 ⟨szP (by decide) (by decide), trivial⟩ (by decide +kernel) (by decide +kernel) (by decide) (by decide)
  · refine kn _ 50 20 ⟨fun k hk => ?_, fun x hx => ?_, rfl⟩ (by decide +kernel) (by decide +kernel) (by decide) (by decide)
    · rw [List.mem_singleton.mp hk]
      intro c hc
      rw [show ("a" : Str).cps.toList = [97] by decide +kernel, List.mem_singleton] at hc
      rw [hc]
      decide
    · rw [List.mem_singleton.mp hx]
      exact szP (by decide) (by decide)
  · exact kn _ 50 20 trivial (by decide +kernel) (by decide +kernel) (by decide) (by decide)
  · exact kn _ 50 20 (szP (by decide +kernel) (by decide)) (by decide +kernel) (by decide +kernel) (by decide) (by decide)
theorem bls_ok (l : List Bool) : okD 8 (.lst (l.map D.bl)) = true ∧ eqD (.lst (l.map D.bl)) (.lst (l.map D.bl)) = true := by
  refine ⟨?_, ?_⟩
  · show (l.map D.bl).all (okD 7) = true
    rw [List.all_map]
    exact List.all_eq_true.mpr fun _ _ => rfl
  · show eqDs (l.map D.bl) (l.map D.bl) = true
    induction l with
    | nil => rfl
    | cons b l ih =>
      show (eqD (.bl b) (.bl b) && eqDs (l.map D.bl) (l.map D.bl)) = true
      rw [ih]
      cases b <;> rfl
theorem ne_bls {xs ys : List D} (l : List Bool) (hx : xs = l.map D.bl) (hy : ys = l.map D.bl) {Q : D → Prop} (h : Q (.bl false)) : dNe (.lst xs) (.lst ys) Q := by
  subst hx
  subst hy
  refine ⟨⟨(bls_ok l).1, (bls_ok l).1⟩, ?_⟩
  rw [(bls_ok l).2]
  exact h
theorem enum_at {ds : List D} {i : Nat} {d : D} (h : (enumD ds)[i]? = some d) : ∃ x, ds[i]? = some x ∧ d = .tup [.int (i : Nat), x] := by
  unfold enumD at h
  obtain ⟨j, hj, rfl⟩ := map_get h
  have hj2 := lt_of_get hj
  rw [List.length_range] at hj2
  rw [List.getElem?_range hj2] at hj
  cases hj
  exact ⟨ds[i], List.getElem?_eq_getElem hj2, by rw [List.getElem?_eq_getElem hj2]; rfl⟩
theorem in_1013 {i : Nat} {Q : D → Prop} (h : Q (.bl (decide (i = 10 ∨ i = 13)))) : dIn false (.int (i : Nat)) (.lst [.int 10, .int 13]) Q := by
  refine ⟨⟨rfl, rfl⟩, ?_⟩
  have e : (false != anyD (.int (i : Nat)) [.int 10, .int 13]) = decide (i = 10 ∨ i = 13) := by
    by_cases h1 : i = 10
    · subst h1; rfl
    · by_cases h2 : i = 13
      · subst h2; rfl
      · rw [decide_eq_false (by omega)]
        have e1 : ((i : Int) == 10) = false := beq_eq_false_iff_ne.mpr (by omega)
        have e2 : ((i : Int) == 13) = false := beq_eq_false_iff_ne.mpr (by omega)
        have e3 : ((10 : Int) == (i : Int)) = false := beq_eq_false_iff_ne.mpr (by omega)
        have e4 : ((13 : Int) == (i : Int)) = false := beq_eq_false_iff_ne.mpr (by omega)
        simp [anyD, eqD, e1, e2, e3, e4]
  rw [e]
  exact h
theorem len14 {ps : List Addr} (h : ps.length = 14) : ∃ p0 p1 p2 p3 p4 p5 p6 p7 p8 p9 p10 p11 p12 p13, ps = [p0, p1, p2, p3, p4, p5, p6, p7, p8, p9, p10, p11, p12, p13] := by
  match ps, h with
  | [p0, p1, p2, p3, p4, p5, p6, p7, p8, p9, p10, p11, p12, p13], _ => exact ⟨_, _, _, _, _, _, _, _, _, _, _, _, _, _, rfl⟩
end Y
namespace K94
open PySem PySem.Spec PyProof.Rows L2 Z Y
def topS (i : Nat) : Stmt := PySem.Challenge.pw_carpets_k94_kinds_of_errors.main.body.getD i (.Pass ⟨0, 0, 0, 0⟩)
abbrev s__law_tape : Stmt := (topS 17)
abbrev N__law_tape : List Str := ["_law_script"]
abbrev ps__law_tape : List Str := ["_law_script"]
theorem sc__law_tape : FnScope N__law_tape ps__law_tape (defScope s__law_tape) := ⟨rfl, rfl, rfl, by decide +kernel, rfl, by decide +kernel, by decide +kernel⟩
abbrev s__law_draw : Stmt := (topS 18)
abbrev N__law_draw : List Str := ["_law_tape_here", "_law_many", "_law_digit", "_law_cell", "_law_near"]
abbrev ps__law_draw : List Str := ["_law_tape_here", "_law_many"]
theorem sc__law_draw : FnScope N__law_draw ps__law_draw (defScope s__law_draw) := ⟨rfl, rfl, rfl, by decide +kernel, rfl, by decide +kernel, by decide +kernel⟩
abbrev s_InvalidNet_UinitU : Stmt := (inClass (topS 2) 0)
abbrev s_InvalidPlace_UinitU : Stmt := (inClass (topS 3) 0)
abbrev s_InvalidMotion_UinitU : Stmt := (inClass (topS 4) 0)
abbrev s_InvalidRows_UinitU : Stmt := (inClass (topS 5) 0)
abbrev s_InvalidColour_UinitU : Stmt := (inClass (topS 6) 0)
abbrev s_InvalidTable_UinitU : Stmt := (inClass (topS 7) 0)
abbrev s_InvalidNumber_UinitU : Stmt := (inClass (topS 8) 0)
abbrev s_InvalidObservation_UinitU : Stmt := (inClass (topS 9) 0)
abbrev s_InvalidText_UinitU : Stmt := (inClass (topS 10) 0)
abbrev s_InvalidCommand_UinitU : Stmt := (inClass (topS 11) 0)
abbrev s_LimitExceeded_UinitU : Stmt := (inClass (topS 12) 0)
abbrev s_UnknownName_UinitU : Stmt := (inClass (topS 14) 0)
abbrev s_RunFailed_UinitU : Stmt := (inClass (topS 15) 0)
abbrev s__law_made_errors : Stmt := (topS 19)
abbrev N__law_made_errors : List Str := ["_law_thing", "_law_found"]
abbrev ps__law_made_errors : List Str := ["_law_thing"]
theorem sc__law_made_errors : FnScope N__law_made_errors ps__law_made_errors (defScope s__law_made_errors) := ⟨rfl, rfl, rfl, by decide +kernel, rfl, by decide +kernel, by decide +kernel⟩
abbrev s__law_kinds_of : Stmt := (topS 20)
abbrev N__law_kinds_of : List Str := ["_law_error", "_law_found"]
abbrev ps__law_kinds_of : List Str := ["_law_error"]
theorem sc__law_kinds_of : FnScope N__law_kinds_of ps__law_kinds_of (defScope s__law_kinds_of) := ⟨rfl, rfl, rfl, by decide +kernel, rfl, by decide +kernel, by decide +kernel⟩
abbrev s__law_above : Stmt := (topS 21)
abbrev N__law_above : List Str := ["_law_error", "_law_found"]
abbrev ps__law_above : List Str := ["_law_error"]
theorem sc__law_above : FnScope N__law_above ps__law_above (defScope s__law_above) := ⟨rfl, rfl, rfl, by decide +kernel, rfl, by decide +kernel, by decide +kernel⟩
abbrev s_law : Stmt := (topS 22)
abbrev N_law : List Str := ["_law_script", "_law_tape_here", "_law_some", "_law_turn", "_law_thing", "_law_made", "_law_at", "_law_error", "_law_due", "_law_told", "_law_named", "_law_number"]
abbrev ps_law : List Str := ["_law_script"]
theorem sc_law : FnScope N_law ps_law (defScope s_law) := ⟨rfl, rfl, rfl, by decide +kernel, rfl, by decide +kernel, by decide +kernel⟩
structure Tx (w : World) (K : Frg) (mg : Str → Option Value) : Prop where
  b_ArithmeticError : mg "ArithmeticError" = none
  b_KeyError : mg "KeyError" = none
  b_OverflowError : mg "OverflowError" = none
  b_RuntimeError : mg "RuntimeError" = none
  b_ValueError : mg "ValueError" = none
  b_enumerate : mg "enumerate" = none
  b_isinstance : mg "isinstance" = none
  b_len : mg "len" = none
  b_list : mg "list" = none
  b_range : mg "range" = none
  b_repr : mg "repr" = none
  fa_E94 : E94 K
  g_CarpetError : mg "CarpetError" = some (.ref (He.ga K "CarpetError"))
  g_InvalidColour : mg "InvalidColour" = some (.ref (He.ga K "InvalidColour"))
  g_InvalidCommand : mg "InvalidCommand" = some (.ref (He.ga K "InvalidCommand"))
  g_InvalidMotion : mg "InvalidMotion" = some (.ref (He.ga K "InvalidMotion"))
  g_InvalidNet : mg "InvalidNet" = some (.ref (He.ga K "InvalidNet"))
  g_InvalidNumber : mg "InvalidNumber" = some (.ref (He.ga K "InvalidNumber"))
  g_InvalidObservation : mg "InvalidObservation" = some (.ref (He.ga K "InvalidObservation"))
  g_InvalidPlace : mg "InvalidPlace" = some (.ref (He.ga K "InvalidPlace"))
  g_InvalidRows : mg "InvalidRows" = some (.ref (He.ga K "InvalidRows"))
  g_InvalidTable : mg "InvalidTable" = some (.ref (He.ga K "InvalidTable"))
  g_InvalidText : mg "InvalidText" = some (.ref (He.ga K "InvalidText"))
  g_LimitExceeded : mg "LimitExceeded" = some (.ref (He.ga K "LimitExceeded"))
  g_NothingToUndo : mg "NothingToUndo" = some (.ref (He.ga K "NothingToUndo"))
  g_RunFailed : mg "RunFailed" = some (.ref (He.ga K "RunFailed"))
  g_UnknownName : mg "UnknownName" = some (.ref (He.ga K "UnknownName"))
  g__law_above : mg "_law_above" = some (.ref (He.ga K "_law_above"))
  g__law_draw : mg "_law_draw" = some (.ref (He.ga K "_law_draw"))
  g__law_kinds_of : mg "_law_kinds_of" = some (.ref (He.ga K "_law_kinds_of"))
  g__law_made_errors : mg "_law_made_errors" = some (.ref (He.ga K "_law_made_errors"))
  g__law_tape : mg "_law_tape" = some (.ref (He.ga K "_law_tape"))
  g_law : mg "law" = some (.ref (He.ga K "law"))
  k__law_above : PySem.W.keepIn K (.ref (He.ga K "_law_above")) = true
  k__law_draw : PySem.W.keepIn K (.ref (He.ga K "_law_draw")) = true
  k__law_kinds_of : PySem.W.keepIn K (.ref (He.ga K "_law_kinds_of")) = true
  k__law_made_errors : PySem.W.keepIn K (.ref (He.ga K "_law_made_errors")) = true
  k__law_tape : PySem.W.keepIn K (.ref (He.ga K "_law_tape")) = true
  sy : SysD K
  xc_InvalidColour : XcB K (He.ga K "InvalidColour") (He.ma K (He.ga K "InvalidColour") "__init__") "value"
  xc_InvalidCommand : XcB K (He.ga K "InvalidCommand") (He.ma K (He.ga K "InvalidCommand") "__init__") "value"
  xc_InvalidMotion : XcB K (He.ga K "InvalidMotion") (He.ma K (He.ga K "InvalidMotion") "__init__") "value"
  xc_InvalidNet : XcB K (He.ga K "InvalidNet") (He.ma K (He.ga K "InvalidNet") "__init__") "value"
  xc_InvalidNumber : XcB K (He.ga K "InvalidNumber") (He.ma K (He.ga K "InvalidNumber") "__init__") "value"
  xc_InvalidObservation : XcB K (He.ga K "InvalidObservation") (He.ma K (He.ga K "InvalidObservation") "__init__") "index"
  xc_InvalidPlace : XcB K (He.ga K "InvalidPlace") (He.ma K (He.ga K "InvalidPlace") "__init__") "value"
  xc_InvalidRows : XcB K (He.ga K "InvalidRows") (He.ma K (He.ga K "InvalidRows") "__init__") "index"
  xc_InvalidTable : XcB K (He.ga K "InvalidTable") (He.ma K (He.ga K "InvalidTable") "__init__") "value"
  xc_InvalidText : XcB K (He.ga K "InvalidText") (He.ma K (He.ga K "InvalidText") "__init__") "value"
  xc_LimitExceeded : XcB K (He.ga K "LimitExceeded") (He.ma K (He.ga K "LimitExceeded") "__init__") "limit"
  xc_RunFailed : XcB K (He.ga K "RunFailed") (He.ma K (He.ga K "RunFailed") "__init__") "index"
  xc_UnknownName : XcB K (He.ga K "UnknownName") (He.ma K (He.ga K "UnknownName") "__init__") "name"
  xk_InvalidNet : XkB K (He.ga K "InvalidNet")
  xk_InvalidRows : XkB K (He.ga K "InvalidRows")
  xk_LimitExceeded : XkB K (He.ga K "LimitExceeded")
  xk_RunFailed : XkB K (He.ga K "RunFailed")
  xk_UnknownName : XkB K (He.ga K "UnknownName")
  xn_NothingToUndo : XnB K (He.ga K "NothingToUndo")
  d__law_tape : DefAt K "_law_tape" "_law_tape" s__law_tape (He.ga K "_law_tape")
  d__law_draw : DefAt K "_law_draw" "_law_draw" s__law_draw (He.ga K "_law_draw")
  d_InvalidNet_UinitU : DefAt K "__init__" "InvalidNet.__init__" s_InvalidNet_UinitU (He.ma K (He.ga K "InvalidNet") "__init__")
  d_InvalidPlace_UinitU : DefAt K "__init__" "InvalidPlace.__init__" s_InvalidPlace_UinitU (He.ma K (He.ga K "InvalidPlace") "__init__")
  d_InvalidMotion_UinitU : DefAt K "__init__" "InvalidMotion.__init__" s_InvalidMotion_UinitU (He.ma K (He.ga K "InvalidMotion") "__init__")
  d_InvalidRows_UinitU : DefAt K "__init__" "InvalidRows.__init__" s_InvalidRows_UinitU (He.ma K (He.ga K "InvalidRows") "__init__")
  d_InvalidColour_UinitU : DefAt K "__init__" "InvalidColour.__init__" s_InvalidColour_UinitU (He.ma K (He.ga K "InvalidColour") "__init__")
  d_InvalidTable_UinitU : DefAt K "__init__" "InvalidTable.__init__" s_InvalidTable_UinitU (He.ma K (He.ga K "InvalidTable") "__init__")
  d_InvalidNumber_UinitU : DefAt K "__init__" "InvalidNumber.__init__" s_InvalidNumber_UinitU (He.ma K (He.ga K "InvalidNumber") "__init__")
  d_InvalidObservation_UinitU : DefAt K "__init__" "InvalidObservation.__init__" s_InvalidObservation_UinitU (He.ma K (He.ga K "InvalidObservation") "__init__")
  d_InvalidText_UinitU : DefAt K "__init__" "InvalidText.__init__" s_InvalidText_UinitU (He.ma K (He.ga K "InvalidText") "__init__")
  d_InvalidCommand_UinitU : DefAt K "__init__" "InvalidCommand.__init__" s_InvalidCommand_UinitU (He.ma K (He.ga K "InvalidCommand") "__init__")
  d_LimitExceeded_UinitU : DefAt K "__init__" "LimitExceeded.__init__" s_LimitExceeded_UinitU (He.ma K (He.ga K "LimitExceeded") "__init__")
  d_UnknownName_UinitU : DefAt K "__init__" "UnknownName.__init__" s_UnknownName_UinitU (He.ma K (He.ga K "UnknownName") "__init__")
  d_RunFailed_UinitU : DefAt K "__init__" "RunFailed.__init__" s_RunFailed_UinitU (He.ma K (He.ga K "RunFailed") "__init__")
  d__law_made_errors : DefAt K "_law_made_errors" "_law_made_errors" s__law_made_errors (He.ga K "_law_made_errors")
  d__law_kinds_of : DefAt K "_law_kinds_of" "_law_kinds_of" s__law_kinds_of (He.ga K "_law_kinds_of")
  d__law_above : DefAt K "_law_above" "_law_above" s__law_above (He.ga K "_law_above")
  d_law : DefAt K "law" "law" s_law (He.ga K "law")
end K94
namespace K94
open PySem PySem.Spec PyProof.Rows L2 Z Y
def fs : List (Frg → Bool) := [bFree "ArithmeticError", bFree "KeyError", bFree "OverflowError", bFree "RuntimeError", bFree "ValueError", bFree "enumerate", bFree "isinstance", bFree "len", bFree "list", bFree "range", bFree "repr", bE94, bGlo "CarpetError", bGlo "InvalidColour", bGlo "InvalidCommand", bGlo "InvalidMotion", bGlo "InvalidNet", bGlo "InvalidNumber", bGlo "InvalidObservation", bGlo "InvalidPlace", bGlo "InvalidRows", bGlo "InvalidTable", bGlo "InvalidText", bGlo "LimitExceeded", bGlo "NothingToUndo", bGlo "RunFailed", bGlo "UnknownName", bGlo "_law_above", bGlo "_law_draw", bGlo "_law_kinds_of", bGlo "_law_made_errors", bGlo "_law_tape", bGlo "law", bKeep "_law_above", bKeep "_law_draw", bKeep "_law_kinds_of", bKeep "_law_made_errors", bKeep "_law_tape", bSys, bXc "InvalidColour" "value" 0, bXc "InvalidCommand" "value" 0, bXc "InvalidMotion" "value" 0, bXc "InvalidNet" "value" 0, bXc "InvalidNumber" "value" 0, bXc "InvalidObservation" "index" 0, bXc "InvalidPlace" "value" 0, bXc "InvalidRows" "index" 0, bXc "InvalidTable" "value" 0, bXc "InvalidText" "value" 0, bXc "LimitExceeded" "limit" 1, bXc "RunFailed" "index" 2, bXc "UnknownName" "name" 3, bXk "InvalidNet" 0, bXk "InvalidRows" 0, bXk "LimitExceeded" 1, bXk "RunFailed" 2, bXk "UnknownName" 3, bXn "NothingToUndo"]
def fn : List He5.DefA := [⟨fun K => (He.ga K "_law_tape"), "_law_tape", "_law_tape", defArgs s__law_tape, defBody s__law_tape, defScope s__law_tape, [], []⟩, ⟨fun K => (He.ga K "_law_draw"), "_law_draw", "_law_draw", defArgs s__law_draw, defBody s__law_draw, defScope s__law_draw, [], []⟩, ⟨fun K => (He.ma K (He.ga K "InvalidNet") "__init__"), "__init__", "InvalidNet.__init__", defArgs s_InvalidNet_UinitU, defBody s_InvalidNet_UinitU, defScope s_InvalidNet_UinitU, [], []⟩, ⟨fun K => (He.ma K (He.ga K "InvalidPlace") "__init__"), "__init__", "InvalidPlace.__init__", defArgs s_InvalidPlace_UinitU, defBody s_InvalidPlace_UinitU, defScope s_InvalidPlace_UinitU, [], []⟩, ⟨fun K => (He.ma K (He.ga K "InvalidMotion") "__init__"), "__init__", "InvalidMotion.__init__", defArgs s_InvalidMotion_UinitU, defBody s_InvalidMotion_UinitU, defScope s_InvalidMotion_UinitU, [], []⟩, ⟨fun K => (He.ma K (He.ga K "InvalidRows") "__init__"), "__init__", "InvalidRows.__init__", defArgs s_InvalidRows_UinitU, defBody s_InvalidRows_UinitU, defScope s_InvalidRows_UinitU, [], []⟩, ⟨fun K => (He.ma K (He.ga K "InvalidColour") "__init__"), "__init__", "InvalidColour.__init__", defArgs s_InvalidColour_UinitU, defBody s_InvalidColour_UinitU, defScope s_InvalidColour_UinitU, [], []⟩, ⟨fun K => (He.ma K (He.ga K "InvalidTable") "__init__"), "__init__", "InvalidTable.__init__", defArgs s_InvalidTable_UinitU, defBody s_InvalidTable_UinitU, defScope s_InvalidTable_UinitU, [], []⟩, ⟨fun K => (He.ma K (He.ga K "InvalidNumber") "__init__"), "__init__", "InvalidNumber.__init__", defArgs s_InvalidNumber_UinitU, defBody s_InvalidNumber_UinitU, defScope s_InvalidNumber_UinitU, [], []⟩, ⟨fun K => (He.ma K (He.ga K "InvalidObservation") "__init__"), "__init__", "InvalidObservation.__init__", defArgs s_InvalidObservation_UinitU, defBody s_InvalidObservation_UinitU, defScope s_InvalidObservation_UinitU, [], []⟩, ⟨fun K => (He.ma K (He.ga K "InvalidText") "__init__"), "__init__", "InvalidText.__init__", defArgs s_InvalidText_UinitU, defBody s_InvalidText_UinitU, defScope s_InvalidText_UinitU, [], []⟩, ⟨fun K => (He.ma K (He.ga K "InvalidCommand") "__init__"), "__init__", "InvalidCommand.__init__", defArgs s_InvalidCommand_UinitU, defBody s_InvalidCommand_UinitU, defScope s_InvalidCommand_UinitU, [], []⟩, ⟨fun K => (He.ma K (He.ga K "LimitExceeded") "__init__"), "__init__", "LimitExceeded.__init__", defArgs s_LimitExceeded_UinitU, defBody s_LimitExceeded_UinitU, defScope s_LimitExceeded_UinitU, [], []⟩, ⟨fun K => (He.ma K (He.ga K "UnknownName") "__init__"), "__init__", "UnknownName.__init__", defArgs s_UnknownName_UinitU, defBody s_UnknownName_UinitU, defScope s_UnknownName_UinitU, [], []⟩, ⟨fun K => (He.ma K (He.ga K "RunFailed") "__init__"), "__init__", "RunFailed.__init__", defArgs s_RunFailed_UinitU, defBody s_RunFailed_UinitU, defScope s_RunFailed_UinitU, [], []⟩, ⟨fun K => (He.ga K "_law_made_errors"), "_law_made_errors", "_law_made_errors", defArgs s__law_made_errors, defBody s__law_made_errors, defScope s__law_made_errors, [], []⟩, ⟨fun K => (He.ga K "_law_kinds_of"), "_law_kinds_of", "_law_kinds_of", defArgs s__law_kinds_of, defBody s__law_kinds_of, defScope s__law_kinds_of, [], []⟩, ⟨fun K => (He.ga K "_law_above"), "_law_above", "_law_above", defArgs s__law_above, defBody s__law_above, defScope s__law_above, [], []⟩, ⟨fun K => (He.ga K "law"), "law", "law", defArgs s_law, defBody s_law, defScope s_law, [], []⟩]
def ask : Ask := ⟨fs, fn, [], tfAll⟩
def fs0 : List (Frg → Bool) := [bFree "ArithmeticError", bFree "KeyError", bFree "OverflowError", bFree "RuntimeError", bFree "ValueError", bFree "enumerate", bFree "isinstance", bFree "len", bFree "list", bFree "range", bFree "repr", bE94, bGlo "CarpetError", bGlo "InvalidColour", bGlo "InvalidCommand", bGlo "InvalidMotion", bGlo "InvalidNet", bGlo "InvalidNumber", bGlo "InvalidObservation", bGlo "InvalidPlace", bGlo "InvalidRows", bGlo "InvalidTable", bGlo "InvalidText", bGlo "LimitExceeded", bGlo "NothingToUndo", bGlo "RunFailed", bGlo "UnknownName", bGlo "_law_above", bGlo "_law_draw", bGlo "_law_kinds_of", bGlo "_law_made_errors", bGlo "_law_tape", bGlo "law", bKeep "_law_above", bKeep "_law_draw", bKeep "_law_kinds_of", bKeep "_law_made_errors", bKeep "_law_tape", bSys, bXc "InvalidColour" "value" 0, bXc "InvalidCommand" "value" 0, bXc "InvalidMotion" "value" 0, bXc "InvalidNet" "value" 0, bXc "InvalidNumber" "value" 0, bXc "InvalidObservation" "index" 0, bXc "InvalidPlace" "value" 0, bXc "InvalidRows" "index" 0, bXc "InvalidTable" "value" 0, bXc "InvalidText" "value" 0, bXc "LimitExceeded" "limit" 1, bXc "RunFailed" "index" 2, bXc "UnknownName" "name" 3, bXk "InvalidNet" 0, bXk "InvalidRows" 0, bXk "LimitExceeded" 1, bXk "RunFailed" 2, bXk "UnknownName" 3, bXn "NothingToUndo"]
def fn0 : List He5.DefA := [⟨fun K => (He.ga K "_law_tape"), "_law_tape", "_law_tape", defArgs s__law_tape, defBody s__law_tape, defScope s__law_tape, [], []⟩, ⟨fun K => (He.ga K "_law_draw"), "_law_draw", "_law_draw", defArgs s__law_draw, defBody s__law_draw, defScope s__law_draw, [], []⟩, ⟨fun K => (He.ma K (He.ga K "InvalidNet") "__init__"), "__init__", "InvalidNet.__init__", defArgs s_InvalidNet_UinitU, defBody s_InvalidNet_UinitU, defScope s_InvalidNet_UinitU, [], []⟩, ⟨fun K => (He.ma K (He.ga K "InvalidPlace") "__init__"), "__init__", "InvalidPlace.__init__", defArgs s_InvalidPlace_UinitU, defBody s_InvalidPlace_UinitU, defScope s_InvalidPlace_UinitU, [], []⟩, ⟨fun K => (He.ma K (He.ga K "InvalidMotion") "__init__"), "__init__", "InvalidMotion.__init__", defArgs s_InvalidMotion_UinitU, defBody s_InvalidMotion_UinitU, defScope s_InvalidMotion_UinitU, [], []⟩, ⟨fun K => (He.ma K (He.ga K "InvalidRows") "__init__"), "__init__", "InvalidRows.__init__", defArgs s_InvalidRows_UinitU, defBody s_InvalidRows_UinitU, defScope s_InvalidRows_UinitU, [], []⟩, ⟨fun K => (He.ma K (He.ga K "InvalidColour") "__init__"), "__init__", "InvalidColour.__init__", defArgs s_InvalidColour_UinitU, defBody s_InvalidColour_UinitU, defScope s_InvalidColour_UinitU, [], []⟩, ⟨fun K => (He.ma K (He.ga K "InvalidTable") "__init__"), "__init__", "InvalidTable.__init__", defArgs s_InvalidTable_UinitU, defBody s_InvalidTable_UinitU, defScope s_InvalidTable_UinitU, [], []⟩, ⟨fun K => (He.ma K (He.ga K "InvalidNumber") "__init__"), "__init__", "InvalidNumber.__init__", defArgs s_InvalidNumber_UinitU, defBody s_InvalidNumber_UinitU, defScope s_InvalidNumber_UinitU, [], []⟩, ⟨fun K => (He.ma K (He.ga K "InvalidObservation") "__init__"), "__init__", "InvalidObservation.__init__", defArgs s_InvalidObservation_UinitU, defBody s_InvalidObservation_UinitU, defScope s_InvalidObservation_UinitU, [], []⟩, ⟨fun K => (He.ma K (He.ga K "InvalidText") "__init__"), "__init__", "InvalidText.__init__", defArgs s_InvalidText_UinitU, defBody s_InvalidText_UinitU, defScope s_InvalidText_UinitU, [], []⟩, ⟨fun K => (He.ma K (He.ga K "InvalidCommand") "__init__"), "__init__", "InvalidCommand.__init__", defArgs s_InvalidCommand_UinitU, defBody s_InvalidCommand_UinitU, defScope s_InvalidCommand_UinitU, [], []⟩, ⟨fun K => (He.ma K (He.ga K "LimitExceeded") "__init__"), "__init__", "LimitExceeded.__init__", defArgs s_LimitExceeded_UinitU, defBody s_LimitExceeded_UinitU, defScope s_LimitExceeded_UinitU, [], []⟩, ⟨fun K => (He.ma K (He.ga K "UnknownName") "__init__"), "__init__", "UnknownName.__init__", defArgs s_UnknownName_UinitU, defBody s_UnknownName_UinitU, defScope s_UnknownName_UinitU, [], []⟩, ⟨fun K => (He.ma K (He.ga K "RunFailed") "__init__"), "__init__", "RunFailed.__init__", defArgs s_RunFailed_UinitU, defBody s_RunFailed_UinitU, defScope s_RunFailed_UinitU, [], []⟩, ⟨fun K => (He.ga K "_law_made_errors"), "_law_made_errors", "_law_made_errors", defArgs s__law_made_errors, defBody s__law_made_errors, defScope s__law_made_errors, [], []⟩, ⟨fun K => (He.ga K "_law_kinds_of"), "_law_kinds_of", "_law_kinds_of", defArgs s__law_kinds_of, defBody s__law_kinds_of, defScope s__law_kinds_of, [], []⟩, ⟨fun K => (He.ga K "_law_above"), "_law_above", "_law_above", defArgs s__law_above, defBody s__law_above, defScope s__law_above, [], []⟩, ⟨fun K => (He.ga K "law"), "law", "law", defArgs s_law, defBody s_law, defScope s_law, [], []⟩]
def ts : List He.Tab := []
abbrev askC : Ask := ⟨fs0, fn0, ts, tfAll⟩
theorem askC_eq : askC = ask := by kernel_rfl
theorem tx_of {w : World} {h : Heap} {K : Frg} {mg : Str → Option Value} (X : K.In h) (G : h.Ns mainGlobals mg) (c : Says ask w h K) : Tx w K mg where
  b_ArithmeticError := free_of X G (c.at 0)
  b_KeyError := free_of X G (c.at 1)
  b_OverflowError := free_of X G (c.at 2)
  b_RuntimeError := free_of X G (c.at 3)
  b_ValueError := free_of X G (c.at 4)
  b_enumerate := free_of X G (c.at 5)
  b_isinstance := free_of X G (c.at 6)
  b_len := free_of X G (c.at 7)
  b_list := free_of X G (c.at 8)
  b_range := free_of X G (c.at 9)
  b_repr := free_of X G (c.at 10)
  fa_E94 := E94_of (c.at 11)
  g_CarpetError := glo_of X G (c.at 12)
  g_InvalidColour := glo_of X G (c.at 13)
  g_InvalidCommand := glo_of X G (c.at 14)
  g_InvalidMotion := glo_of X G (c.at 15)
  g_InvalidNet := glo_of X G (c.at 16)
  g_InvalidNumber := glo_of X G (c.at 17)
  g_InvalidObservation := glo_of X G (c.at 18)
  g_InvalidPlace := glo_of X G (c.at 19)
  g_InvalidRows := glo_of X G (c.at 20)
  g_InvalidTable := glo_of X G (c.at 21)
  g_InvalidText := glo_of X G (c.at 22)
  g_LimitExceeded := glo_of X G (c.at 23)
  g_NothingToUndo := glo_of X G (c.at 24)
  g_RunFailed := glo_of X G (c.at 25)
  g_UnknownName := glo_of X G (c.at 26)
  g__law_above := glo_of X G (c.at 27)
  g__law_draw := glo_of X G (c.at 28)
  g__law_kinds_of := glo_of X G (c.at 29)
  g__law_made_errors := glo_of X G (c.at 30)
  g__law_tape := glo_of X G (c.at 31)
  g_law := glo_of X G (c.at 32)
  k__law_above := keep_of (c.at 33)
  k__law_draw := keep_of (c.at 34)
  k__law_kinds_of := keep_of (c.at 35)
  k__law_made_errors := keep_of (c.at 36)
  k__law_tape := keep_of (c.at 37)
  sy := sys_of (c.at 38)
  xc_InvalidColour := xcb_of (c.at 39)
  xc_InvalidCommand := xcb_of (c.at 40)
  xc_InvalidMotion := xcb_of (c.at 41)
  xc_InvalidNet := xcb_of (c.at 42)
  xc_InvalidNumber := xcb_of (c.at 43)
  xc_InvalidObservation := xcb_of (c.at 44)
  xc_InvalidPlace := xcb_of (c.at 45)
  xc_InvalidRows := xcb_of (c.at 46)
  xc_InvalidTable := xcb_of (c.at 47)
  xc_InvalidText := xcb_of (c.at 48)
  xc_LimitExceeded := xcb_of (c.at 49)
  xc_RunFailed := xcb_of (c.at 50)
  xc_UnknownName := xcb_of (c.at 51)
  xk_InvalidNet := xk_of (c.at 52)
  xk_InvalidRows := xk_of (c.at 53)
  xk_LimitExceeded := xk_of (c.at 54)
  xk_RunFailed := xk_of (c.at 55)
  xk_UnknownName := xk_of (c.at 56)
  xn_NothingToUndo := xn_of (c.at 57)
  d__law_tape := c.df 0
  d__law_draw := c.df 1
  d_InvalidNet_UinitU := c.df 2
  d_InvalidPlace_UinitU := c.df 3
  d_InvalidMotion_UinitU := c.df 4
  d_InvalidRows_UinitU := c.df 5
  d_InvalidColour_UinitU := c.df 6
  d_InvalidTable_UinitU := c.df 7
  d_InvalidNumber_UinitU := c.df 8
  d_InvalidObservation_UinitU := c.df 9
  d_InvalidText_UinitU := c.df 10
  d_InvalidCommand_UinitU := c.df 11
  d_LimitExceeded_UinitU := c.df 12
  d_UnknownName_UinitU := c.df 13
  d_RunFailed_UinitU := c.df 14
  d__law_made_errors := c.df 15
  d__law_kinds_of := c.df 16
  d__law_above := c.df 17
  d_law := c.df 18
abbrev R : PySem.W.OpenRow := PySem.W.OpenLaw.row PySem.Challenge.rw_carpets_k94_kinds_of_errors
abbrev hk : PySem.W.Hook := hookZ 2000 ask
def ob (s : PySem.W.SharedT) : AlZ := obsG 2000 ask (HandSHeadRun.getT s)
theorem ob_eq (s : PySem.W.SharedT) : ob s = hk.obs s.abs := obsG_eq (HandSHeadRun.getT_eq s)
def loose : List Str := (["CarpetError", "InvalidNet", "InvalidPlace", "InvalidMotion", "InvalidRows", "InvalidColour", "InvalidTable", "InvalidNumber", "InvalidObservation", "InvalidText", "InvalidCommand", "LimitExceeded", "NothingToUndo", "UnknownName", "RunFailed", "_law_tape", "_law_draw", "_law_made_errors", "_law_kinds_of", "_law_above"] : List Str)
abbrev qv : Program := PySem.W.view R.prog [22]
theorem run0_0 (w : World) : HandSHeadRun.RunEq R qv (hookZ 2000 ⟨fs0, fn0, ts, tfAll⟩) (fun s => obsG 2000 ⟨fs0, fn0, ts, tfAll⟩ (HandSHeadRun.getT s)) 12000 loose (w.withFollow "special-get-raises" false) := by
  intro os; kernel_rfl
theorem run0 (w : World) : HandSHeadRun.RunEq R qv hk ob 12000 loose (w.withFollow "special-get-raises" false) := by
  have h := run0_0 w
  have e : ∀ a : Ask, a = ask → HandSHeadRun.RunEq R qv (hookZ 2000 a) (fun s => obsG 2000 a (HandSHeadRun.getT s)) 12000 loose (w.withFollow "special-get-raises" false) → HandSHeadRun.RunEq R qv (hookZ 2000 ask) (fun s => obsG 2000 ask (HandSHeadRun.getT s)) 12000 loose (w.withFollow "special-get-raises" false) := fun a e h => e ▸ h
  exact e askC askC_eq h
theorem run1_0 (w : World) : HandSHeadRun.RunEq R qv (hookZ 2000 ⟨fs0, fn0, ts, tfAll⟩) (fun s => obsG 2000 ⟨fs0, fn0, ts, tfAll⟩ (HandSHeadRun.getT s)) 12000 loose (w.withFollow "special-get-raises" true) := by
  intro os; kernel_rfl
theorem run1 (w : World) : HandSHeadRun.RunEq R qv hk ob 12000 loose (w.withFollow "special-get-raises" true) := by
  have h := run1_0 w
  have e : ∀ a : Ask, a = ask → HandSHeadRun.RunEq R qv (hookZ 2000 a) (fun s => obsG 2000 a (HandSHeadRun.getT s)) 12000 loose (w.withFollow "special-get-raises" true) → HandSHeadRun.RunEq R qv (hookZ 2000 ask) (fun s => obsG 2000 ask (HandSHeadRun.getT s)) 12000 loose (w.withFollow "special-get-raises" true) := fun a e h => e ▸ h
  exact e askC askC_eq h
theorem run (w : World) : HandSHeadRun.RunEq R qv hk ob 12000 loose w := PySem.W.byRow2 "special-get-raises" (P := fun w => HandSHeadRun.RunEq R qv hk ob 12000 loose w) run0 run1 w
end K94
section
open PySem PySem.Spec PyProof.Rows L2 Z Y
local macro_rules | `(tactic| walk_at "s0") => `(tactic| first | assumption | exact SqT.of (by assumption) | exact SqL.of (by assumption))
local macro_rules | `(tactic| walk_at "s1") => `(tactic| first | assumption | exact SqT.of (by assumption) | exact SqL.of (by assumption) | exact sqT (Go.ff (by assumption)) (by walk_at "s0") | exact sqL (Go.ff (by assumption)) (by walk_at "s0"))
local macro_rules | `(tactic| walk_at "s2") => `(tactic| first | assumption | exact SqT.of (by assumption) | exact SqL.of (by assumption) | exact sqT (Go.ff (by assumption)) (by walk_at "s1") | exact sqL (Go.ff (by assumption)) (by walk_at "s1"))
local macro_rules | `(tactic| walk_at "s3") => `(tactic| first | assumption | exact SqT.of (by assumption) | exact SqL.of (by assumption) | exact sqT (Go.ff (by assumption)) (by walk_at "s2") | exact sqL (Go.ff (by assumption)) (by walk_at "s2"))
local macro_rules | `(tactic| walk_at "s4") => `(tactic| first | assumption | exact SqT.of (by assumption) | exact SqL.of (by assumption) | exact sqT (Go.ff (by assumption)) (by walk_at "s3") | exact sqL (Go.ff (by assumption)) (by walk_at "s3"))
local macro_rules | `(tactic| walk_at "s5") => `(tactic| first | assumption | exact SqT.of (by assumption) | exact SqL.of (by assumption) | exact sqT (Go.ff (by assumption)) (by walk_at "s4") | exact sqL (Go.ff (by assumption)) (by walk_at "s4"))
local macro_rules | `(tactic| walk_at "s6") => `(tactic| first | assumption | exact SqT.of (by assumption) | exact SqL.of (by assumption) | exact sqT (Go.ff (by assumption)) (by walk_at "s5") | exact sqL (Go.ff (by assumption)) (by walk_at "s5"))
local macro_rules | `(tactic| walk_at "s7") => `(tactic| first | assumption | exact SqT.of (by assumption) | exact SqL.of (by assumption) | exact sqT (Go.ff (by assumption)) (by walk_at "s6") | exact sqL (Go.ff (by assumption)) (by walk_at "s6"))
local macro_rules | `(tactic| walk_at "s8") => `(tactic| first | assumption | exact SqT.of (by assumption) | exact SqL.of (by assumption) | exact sqT (Go.ff (by assumption)) (by walk_at "s7") | exact sqL (Go.ff (by assumption)) (by walk_at "s7"))
local macro_rules | `(tactic| walk_at "s9") => `(tactic| first | assumption | exact SqT.of (by assumption) | exact SqL.of (by assumption) | exact sqT (Go.ff (by assumption)) (by walk_at "s8") | exact sqL (Go.ff (by assumption)) (by walk_at "s8"))
local macro_rules | `(tactic| walk_at "s10") => `(tactic| first | assumption | exact SqT.of (by assumption) | exact SqL.of (by assumption) | exact sqT (Go.ff (by assumption)) (by walk_at "s9") | exact sqL (Go.ff (by assumption)) (by walk_at "s9"))
local macro_rules | `(tactic| walk_at "sq") => `(tactic| first | assumption | exact SqT.of (by assumption) | exact SqL.of (by assumption) | exact sqT (Go.fh (by assumption)) (by walk_at "s10") | exact sqL (Go.fh (by assumption)) (by walk_at "s10") | exact sqT (F := _) (by assumption) (by walk_at "s10") | exact sqL (F := _) (by assumption) (by walk_at "s10"))
local macro_rules | `(tactic| walk_at "c") => `(tactic| ((try dsimp only); first | omega | assumption | exact ⟨by omega, by assumption⟩ | exact ⟨by assumption, by assumption⟩ | exact Or.inl ⟨by decide, by decide⟩ | exact Or.inr ⟨by decide, by decide⟩ | exact ⟨by decide, by decide, by decide⟩ | exact ⟨by decide, by decide⟩))
local macro_rules | `(tactic| walk_at "z") => `(tactic| repeat (first | refine ⟨_, rfl, ?_⟩ | refine ⟨_, _, rfl, rfl, ?_⟩ | refine ⟨_, _, _, _, rfl, rfl, by walk_at "sq", rfl, ?_⟩ | refine ⟨_, _, rfl, Or.inl (by walk_at "sq"), ?_⟩ | refine ⟨_, _, rfl, Or.inr (by walk_at "sq"), ?_⟩ | refine ⟨_, _, rfl, by walk_at "sq", rfl, ?_⟩ | refine ⟨rfl, ?_⟩ | refine And.intro (by walk_at "c") ?_ | refine ⟨lenOk rfl, ?_⟩ | refine ⟨_, _, rfl, ?_⟩))
local macro_rules | `(tactic| walk_at "p") => `(tactic| simp only [Y.rVar, Y.rC, Y.tst, Y.chn, Y.aNil, Y.aCons, Y.stN, Y.tgD, Y.rYes, Y.wipeR, Y.asO, Y.fldD, Y.dAdd, Y.dSub, Y.dMul, Y.dDiv, Y.dDivZ, Y.dMod, Y.dModZ, Y.dIsBl, Y.dInt1, Y.dPow, Y.dNeg, Y.dCmp, Y.dEq, Y.dNe, Y.isNon, Y.dIsN, Y.dNotN, Y.dIn, Y.dIx, Y.dSl, Y.asI, Y.dLen, Y.dAbs, Y.blsOf, Y.dAll, Y.dList, Y.dTuple, Y.dIsB, Y.dIs2, Y.dIsO, Y.appM, Y.frzM, Y.dBinO, Y.dEqO, Y.dInO, Y.finI, Y.putM, Y.starD, Y.rng1, Y.rng2, Y.dJoin, Y.strsOf, Y.isS, Y.rDraw, Y.ar0, Y.ar1, Y.ar2, Y.ar3, Y.ar4, Y.ar5, List.getElem?_cons_zero, List.getElem?_cons_succ, List.set_cons_zero, List.set_cons_succ, List.map_cons, List.map_nil, List.length_cons, List.length_nil, Option.map_some, List.nil_append, List.cons_append, List.mem_cons, List.not_mem_nil, or_false, true_and, and_true, if_true, Bool.false_eq_true, if_false, Bool.not_true, Bool.not_false, Nat.reduceAdd, Nat.reduceLeDiff, decide_eq_true_eq, reduceCtorEq, ite_true, ite_false, Int.cast_ofNat_Int, Int.natCast_add, eq_self, Int.reduceEq, Int.reduceLE, Int.reduceLT, Int.reduceNeg, Int.reduceSub, Int.reduceAdd, decide_true, decide_false, String.reduceBEq, Bool.or_self, Bool.or_true, Bool.true_or, Bool.or_false, Bool.false_or])
local macro_rules | `(tactic| walk_at "m") => `(tactic| simp only [Y.forP, Y.mapP, Y.rVar, Y.rC, Y.tst, Y.chn, Y.aNil, Y.aCons, Y.stN, Y.tgD, Y.rYes, Y.wipeR, Y.asO, Y.fldD, Y.dAdd, Y.dSub, Y.dMul, Y.dDiv, Y.dDivZ, Y.dMod, Y.dModZ, Y.dIsBl, Y.dInt1, Y.dPow, Y.dNeg, Y.dCmp, Y.dEq, Y.dNe, Y.isNon, Y.dIsN, Y.dNotN, Y.dIn, Y.dIx, Y.dSl, Y.asI, Y.dLen, Y.dAbs, Y.blsOf, Y.dAll, Y.dList, Y.dTuple, Y.dIsB, Y.dIs2, Y.dIsO, Y.appM, Y.frzM, Y.dBinO, Y.dEqO, Y.dInO, Y.finI, Y.putM, Y.starD, Y.rng1, Y.rng2, Y.dJoin, Y.strsOf, Y.isS, Y.rDraw, Y.ar0, Y.ar1, Y.ar2, Y.ar3, Y.ar4, Y.ar5, List.getElem?_cons_zero, List.getElem?_cons_succ, List.set_cons_zero, List.set_cons_succ, List.map_cons, List.map_nil, List.length_cons, List.length_nil, Option.map_some, List.nil_append, List.cons_append, List.mem_cons, List.not_mem_nil, or_false, true_and, and_true, if_true, Bool.false_eq_true, if_false, Bool.not_true, Bool.not_false, Nat.reduceAdd, Nat.reduceLeDiff, decide_eq_true_eq, reduceCtorEq, ite_true, ite_false, Int.cast_ofNat_Int, Int.natCast_add, eq_self, Int.reduceEq, Int.reduceLE, Int.reduceLT, Int.reduceNeg, Int.reduceSub, Int.reduceAdd, decide_true, decide_false, String.reduceBEq, Bool.or_self, Bool.or_true, Bool.true_or, Bool.or_false, Bool.false_or])
namespace K94
open PySem PySem.Spec PyProof.Rows L2 Z Y
section
variable {P : Program} {w : World} {K : Frg} {mg : Str → Option Value} {base : Heap}
theorem ok__law_tape (T : Tx w K mg) : FnR P w K mg base (L2.CX P w) 1 (He.ga K "_law_tape") (spTape K) := by
  refine zfn T.d__law_tape sc__law_tape len1 (fun _ _ _ _ _ _ us hl => match us, hl with | [_], _ => rfl) (fun cdv A outer s H vs Q E hr h => ?_)
  obtain ⟨_, rfl, F, s, ns, rfl, hs, hS, k⟩ := h
  refine ⟨_, PSs.nox (pss_one (ps_ret (pe_lstZ (pa_cons (pe_callTy call_listZ (by rfl) T.b_list (by decide +kernel) (pa_cons (pe_slice sl_listZ (pv 0) po_none (po_some pe_int)) pa_nil)) (pa_cons pe_int (pa_cons pe_int (pa_cons pe_int pa_nil))))))), ?_⟩
  have hSH := sqL hs hS
  refine ⟨_, rfl, _, rfl, _, _, rfl, hSH, ?_⟩
  intro p1 H1 hp1 e1
  obtain ⟨F1, g1, q1, r1⟩ := newE hs hp1 e1
  obtain ⟨ms, em⟩ := cut_ints ns none (some 63)
  rw [em] at q1 r1
  refine ⟨_, _, rfl, .inl (SqL.of r1), ?_⟩
  intro p2 H2 hp2 e2
  obtain ⟨F2, g2, q2, r2⟩ := newE g1.fh hp2 e2
  walk_at "z"
  intro p3 H3 hp3 e3
  obtain ⟨g3, f3, r3⟩ := newM g2.fh hp3 e3
  exact k p3 F2 H3 ((g1.trans g2).trans g3) ⟨f3, _, r3, p2, ms, 0, 0, 17, rfl, SqL.of q2, by decide, by decide, by decide, by decide⟩
end
end K94
namespace K94
open PySem PySem.Spec PyProof.Rows L2 Z Y
section
variable {P : Program} {w : World} {K : Frg} {mg : Str → Option Value} {base : Heap}
theorem ok0__law_draw (T : Tx w K mg) : FnR P w K mg base (L2.CX P w) 1 (He.ga K "_law_draw") (spDraw K) := by
  refine zfn T.d__law_draw sc__law_draw len2 (fun _ _ _ _ _ _ us hl => match us, hl with | [_, _], _ => rfl) (fun cdv A outer s H vs Q E hr h => ?_)
  obtain ⟨_, _, rfl, F, t, many, rfl, rfl, hs, ⟨ft, xs, ht, c, ns, i, b, r, rfl, hc, hi, hb, hr0, hr1⟩, hm0, hm1, k⟩ := h
  refine ⟨_, PSs.nox (pss_cons (ps_if (pt_cmpR op_gt (pe_ix ix_list (pv 0) pe_int (fun _ _ => rfl)) pe_int (nomark _))
    (pss_cons (ps_set (i := 2) sc__law_draw.nd rfl (by first | exact Or.inl rfl | exact Or.inr rfl) (pe_op op_mod (pe_ix ix_list (pv 0) pe_int (fun _ _ => rfl)) (pv 1)))
  (pss_cons (ps_asg (pe_op op_fdivW (pe_ix ix_list (pv 0) pe_int (fun _ _ => rfl)) (pv 1)) (pg_sub (pv 0) pe_int set_listZ))
  (pss_one (ps_ret (pv 2)))))
    pss_nil)
  (pss_cons (ps_set (i := 3) sc__law_draw.nd rfl (by first | exact Or.inl rfl | exact Or.inr rfl) pe_int)
  (zcut (ps_if (pt_cmpR op_lt (pe_ix ix_list (pv 0) pe_int (fun _ _ => rfl)) (pe_callB call_len_seq (by rfl) T.b_len (by decide +kernel) (pa_cons (pe_ix ix_list (pv 0) pe_int (fun _ _ => rfl)) pa_nil)) (nomark _))
    (pss_one (ps_set (i := 3) sc__law_draw.nd rfl (by first | exact Or.inl rfl | exact Or.inr rfl) (pe_ix ix_list (pe_ix ix_list (pv 0) pe_int (fun _ _ => rfl)) (pe_ix ix_list (pv 0) pe_int (fun _ _ => rfl)) (fun _ _ => rfl))))
    pss_nil)
  (pss_cons (ps_asg (pe_op op_add (pe_ix ix_list (pv 0) pe_int (fun _ _ => rfl)) pe_int) (pg_sub (pv 0) pe_int set_listZ))
  (pss_cons (ps_if (pt_cmpR op_ge (pv 3) (pe_op op_pow pe_int pe_int) (nomark _))
    (pss_cons (ps_asg (pe_op op_fdivW (pv 3) (pv 1)) (pg_sub (pv 0) pe_int set_listZ))
  (pss_one (ps_ret (pe_op op_mod (pv 3) (pv 1)))))
    pss_nil)
  (pss_cons (ps_set (i := 4) sc__law_draw.nd rfl (by first | exact Or.inl rfl | exact Or.inr rfl) (pe_op op_add (pe_op op_add (pe_op op_mod (pv 3) pe_int) (pe_op op_mul pe_int (pe_ix ix_list (pv 0) pe_int (fun _ _ => rfl)))) pe_int))
  (pss_cons (ps_asg (pe_op op_mod (pe_op op_add (pe_op op_mul (pe_ix ix_list (pv 0) pe_int (fun _ _ => rfl)) pe_int) (pv 4)) pe_int) (pg_sub (pv 0) pe_int set_listZ))
  (pss_one (ps_ret (pe_op op_mod (pe_op op_mod (pe_op op_pow (pe_ix ix_list (pv 0) pe_int (fun _ _ => rfl)) pe_int) pe_int) (pv 1))))))))))), ?_⟩
  have hT := SqL.of (K := K) ht
  walk_at "z"
  refine ite2 (fun hb0 => ?_) (fun hb0 => ?_)
  · walk_at "z"
    intro H1 e1
    obtain ⟨g1, q1⟩ := putM hs ft e1
    walk_at "z"
    have hb1 : (0 : Int) < b := of_decide_eq_true hb0
    exact k _ _ (Int.emod_nonneg _ (by omega)) (Int.emod_lt_of_pos _ hm0) g1 ⟨ft, _, q1, c, ns, i, b / many, r, rfl, hc, hi, Int.ediv_nonneg hb (by omega), hr0, hr1⟩
  · have hcH := sqL hs hc
    refine ⟨fun σ' H' => ∃ cell : Int, σ' = [some (.ref t), some (.int many), none, some (.int cell), none] ∧ H' = H, ?_, ?_⟩
    · walk_at "z"
      refine ite2 (fun hlt => ?_) (fun _ => ⟨0, rfl, rfl⟩)
      have hl : i < ((ns.map V.int).length : Int) := of_decide_eq_true hlt
      walk_at "z"
      obtain ⟨j, rfl⟩ := Int.eq_ofNat_of_zero_le hi
      have hj : j < ns.length := by simpa using hl
      refine ⟨_, _, _, _, rfl, rfl, hcH, atI_nat (by rw [List.getElem?_map, List.getElem?_eq_getElem hj]; rfl), _, rfl, rfl⟩
    · rintro σ' H' ⟨cell, rfl, rfl⟩
      walk_at "z"
      intro H1 e1
      obtain ⟨g1, q1⟩ := putM hs ft e1
      have hT1 : SqL K H1 t [V.ref c, V.int (i + 1), V.int b, V.int r] := SqL.of q1
      have hx1 : H1 t = some (.lst [V.ref c, V.int (i + 1), V.int b, V.int r]) := q1
      have hi1 : 0 ≤ i + 1 := by omega
      walk_at "z"
      refine ite2 (fun hge => ?_) (fun _ => ?_)
      · walk_at "z"
        intro H2 e2
        obtain ⟨g2, q2⟩ := putM g1.fh ft e2
        walk_at "z"
        have hc0 : (0 : Int) ≤ cell := by
          have := of_decide_eq_true hge
          have h3 : (10 : Int) ^ (Int.toNat 18) = 1000000000000000000 := by decide
          rw [h3] at this
          omega
        exact k _ _ (Int.emod_nonneg _ (by omega)) (Int.emod_lt_of_pos _ hm0) (g1.trans g2) ⟨ft, _, q2, c, ns, i + 1, cell / many, r, rfl, hc, hi1, Int.ediv_nonneg hc0 (by omega), hr0, hr1⟩
      · walk_at "z"
        intro H2 e2
        obtain ⟨g2, q2⟩ := putM g1.fh ft e2
        replace q2 : H2 t = some (.lst [V.ref c, V.int (i + 1), V.int b, V.int ((r * 48271 + (cell % 2147483647 + 7919 * (i + 1) + 11)) % 2147483647)]) := q2
        generalize hrr : (r * 48271 + (cell % 2147483647 + 7919 * (i + 1) + 11)) % 2147483647 = r2 at q2
        have hr2 : 0 ≤ r2 ∧ r2 < 2147483647 := by omega
        have hT2 : SqL K H2 t [V.ref c, V.int (i + 1), V.int b, V.int r2] := SqL.of q2
        walk_at "z"
        refine And.intro ⟨by decide, by decide, by have := hr2; omega⟩ ?_
        walk_at "z"
        exact k _ _ (Int.emod_nonneg _ (by omega)) (Int.emod_lt_of_pos _ hm0) (g1.trans g2) ⟨ft, _, q2, c, ns, i + 1, b, r2, rfl, hc, hi1, hb, hr2.1, hr2.2⟩
theorem ok__law_draw (T : Tx w K mg) : FnG P w K mg base (L2.CX P w) 1 (He.ga K "_law_draw") (spP K rDraw) := draw_of (ok0__law_draw T)
end
end K94
namespace K94
open PySem PySem.Spec PyProof.Rows L2 Z Y
section
variable {P : Program} {w : World} {K : Frg} {mg : Str → Option Value} {base : Heap}
theorem ok__law_made_errors (T : Tx w K mg) : FnG P w K mg base (L2.CX P w) 1 (He.ga K "_law_made_errors") (spG K R__law_made_errors) := by
  refine y_fnG T.d__law_made_errors sc__law_made_errors (fun ds γ Q E h => glen1 h) (fun _ _ _ _ _ _ us hl => match us, hl with | [_], _ => rfl) fun cdv A outer s H E G hG hr hx po tk => ⟨_, (g_cons (g_set (i := 1) hG sc__law_made_errors.nd rfl (by first | exact Or.inl rfl | exact Or.inr rfl) (y_lstG hG (ga_cons (g_mkX hG (T.xc_InvalidNet.t T.d_InvalidNet_UinitU ⟨_, _, rfl⟩ ⟨_, _, _, _, rfl⟩ rfl) (.inl rfl) hr (ga_of hG hx (fun B γ hB hx hγ => (a_cons (y_var (pv 0)) a_nil))) rfl T.g_InvalidNet) (ga_cons (g_mkX hG (T.xc_InvalidPlace.t T.d_InvalidPlace_UinitU ⟨_, _, rfl⟩ ⟨_, _, _, _, rfl⟩ rfl) (.inl rfl) hr (ga_of hG hx (fun B γ hB hx hγ => (a_cons (y_var (pv 0)) a_nil))) rfl T.g_InvalidPlace) (ga_cons (g_mkX hG (T.xc_InvalidMotion.t T.d_InvalidMotion_UinitU ⟨_, _, rfl⟩ ⟨_, _, _, _, rfl⟩ rfl) (.inl rfl) hr (ga_of hG hx (fun B γ hB hx hγ => (a_cons (y_var (pv 0)) a_nil))) rfl T.g_InvalidMotion) (ga_cons (g_mkX hG (T.xc_InvalidRows.t T.d_InvalidRows_UinitU ⟨_, _, rfl⟩ ⟨_, _, _, _, rfl⟩ rfl) (.inr (.inl rfl)) hr (ga_of hG hx (fun B γ hB hx hγ => (a_cons (y_var (pv 0)) a_nil))) rfl T.g_InvalidRows) (ga_cons (g_mkX hG (T.xc_InvalidColour.t T.d_InvalidColour_UinitU ⟨_, _, rfl⟩ ⟨_, _, _, _, rfl⟩ rfl) (.inl rfl) hr (ga_of hG hx (fun B γ hB hx hγ => (a_cons (y_var (pv 0)) a_nil))) rfl T.g_InvalidColour) ga_nil)))))))
  (g_cons (g_set (i := 1) hG sc__law_made_errors.nd rfl (by first | exact Or.inl rfl | exact Or.inr rfl) (y_opG hG op_addY addL (g_expr hG hx (fun B γ hB hx hγ => (y_var (pv 1)))) (y_lstG hG (ga_cons (g_mkX hG (T.xc_InvalidTable.t T.d_InvalidTable_UinitU ⟨_, _, rfl⟩ ⟨_, _, _, _, rfl⟩ rfl) (.inl rfl) hr (ga_of hG hx (fun B γ hB hx hγ => (a_cons (y_var (pv 0)) a_nil))) rfl T.g_InvalidTable) (ga_cons (g_mkX hG (T.xc_InvalidNumber.t T.d_InvalidNumber_UinitU ⟨_, _, rfl⟩ ⟨_, _, _, _, rfl⟩ rfl) (.inl rfl) hr (ga_of hG hx (fun B γ hB hx hγ => (a_cons (y_var (pv 0)) a_nil))) rfl T.g_InvalidNumber) (ga_cons (g_mkX hG (T.xc_InvalidObservation.t T.d_InvalidObservation_UinitU ⟨_, _, rfl⟩ ⟨_, _, _, _, rfl⟩ rfl) (.inr (.inl rfl)) hr (ga_of hG hx (fun B γ hB hx hγ => (a_cons (y_var (pv 0)) a_nil))) rfl T.g_InvalidObservation) (ga_cons (g_mkX hG (T.xc_InvalidText.t T.d_InvalidText_UinitU ⟨_, _, rfl⟩ ⟨_, _, _, _, rfl⟩ rfl) (.inl rfl) hr (ga_of hG hx (fun B γ hB hx hγ => (a_cons (y_var (pv 0)) a_nil))) rfl T.g_InvalidText) ga_nil)))))))
  (g_cons (g_set (i := 1) hG sc__law_made_errors.nd rfl (by first | exact Or.inl rfl | exact Or.inr rfl) (y_opG hG op_addY addL (g_expr hG hx (fun B γ hB hx hγ => (y_var (pv 1)))) (y_lstG hG (ga_cons (g_mkX hG (T.xc_InvalidCommand.t T.d_InvalidCommand_UinitU ⟨_, _, rfl⟩ ⟨_, _, _, _, rfl⟩ rfl) (.inl rfl) hr (ga_of hG hx (fun B γ hB hx hγ => (a_cons (y_var (pv 0)) a_nil))) rfl T.g_InvalidCommand) (ga_cons (g_mkX hG (T.xc_LimitExceeded.t T.d_LimitExceeded_UinitU ⟨_, _, rfl⟩ ⟨_, _, _, _, rfl⟩ rfl) (.inr (.inr (.inl rfl))) hr (ga_of hG hx (fun B γ hB hx hγ => (a_cons (y_var (pv 0)) a_nil))) rfl T.g_LimitExceeded) ga_nil)))))
  (g_one (g_ret (y_opG hG op_addY addL (g_expr hG hx (fun B γ hB hx hγ => (y_var (pv 1)))) (y_lstG hG (ga_cons (g_mkX0 hG T.xn_NothingToUndo rfl T.g_NothingToUndo) (ga_cons (g_mkX hG (T.xc_UnknownName.t T.d_UnknownName_UinitU ⟨_, _, rfl⟩ ⟨_, _, _, _, rfl⟩ rfl) (.inr (.inr (.inr rfl))) hr (ga_of hG hx (fun B γ hB hx hγ => (a_cons (y_var (pv 0)) a_nil))) rfl T.g_UnknownName) (ga_cons (g_mkX hG (T.xc_RunFailed.t T.d_RunFailed_UinitU ⟨_, _, rfl⟩ ⟨_, _, _, _, rfl⟩ rfl) (.inr (.inl rfl)) hr (ga_of hG hx (fun B γ hB hx hγ => (a_cons (y_var (pv 0)) a_nil))) rfl T.g_RunFailed) ga_nil)))))))))), fun ds γ Q h => ?_⟩
  obtain ⟨a0, e0, hh⟩ := gar1E h
  clear h
  subst e0
  have h := hh
  clear hh
  try dsimp only at h
  rw [show startE (List.length N__law_made_errors) [a0] = [.val a0, .no] from rfl]
  refine fun F0 H0 q0 n0 F1 H1 q1 n1 F2 H2 q2 n2 F3 H3 q3 n3 F4 H4 q4 n4 => ⟨leN rfl, ?_⟩
  refine fun Fa Ha => ?_
  refine fun F5 H5 q5 n5 F6 H6 q6 n6 F7 H7 q7 n7 F8 H8 q8 n8 => ⟨leN rfl, leN rfl, ?_⟩
  refine fun Fb Hb => ?_
  refine fun F9 H9 q9 n9 FA HA q10 n10 => ⟨leN rfl, leN rfl, ?_⟩
  refine fun Fc Hc => ?_
  refine fun q11 n11 FB HB q12 n12 FC HC q13 n13 => ⟨leN rfl, leN rfl, ?_⟩
  refine h [q0, q1, q2, q3, q4, q5, q6, q7, q8, q9, q10, q11, q12, q13] _ ⟨rfl, fun i p e => ?_⟩
  have hi := lt_of_get e
  match i, hi, e with
  | 0, _, e => cases e; exact .tail _ (.tail _ (.tail _ (.tail _ (.tail _ (.tail _ (.tail _ (.tail _ (.tail _ (.tail _ (.tail _ (.tail _ (.tail _ (.head _)))))))))))))
  | 1, _, e => cases e; exact .tail _ (.tail _ (.tail _ (.tail _ (.tail _ (.tail _ (.tail _ (.tail _ (.tail _ (.tail _ (.tail _ (.tail _ (.head _))))))))))))
  | 2, _, e => cases e; exact .tail _ (.tail _ (.tail _ (.tail _ (.tail _ (.tail _ (.tail _ (.tail _ (.tail _ (.tail _ (.tail _ (.head _)))))))))))
  | 3, _, e => cases e; exact .tail _ (.tail _ (.tail _ (.tail _ (.tail _ (.tail _ (.tail _ (.tail _ (.tail _ (.tail _ (.head _))))))))))
  | 4, _, e => cases e; exact .tail _ (.tail _ (.tail _ (.tail _ (.tail _ (.tail _ (.tail _ (.tail _ (.tail _ (.head _)))))))))
  | 5, _, e => cases e; exact .tail _ (.tail _ (.tail _ (.tail _ (.tail _ (.tail _ (.tail _ (.tail _ (.head _))))))))
  | 6, _, e => cases e; exact .tail _ (.tail _ (.tail _ (.tail _ (.tail _ (.tail _ (.tail _ (.head _)))))))
  | 7, _, e => cases e; exact .tail _ (.tail _ (.tail _ (.tail _ (.tail _ (.tail _ (.head _))))))
  | 8, _, e => cases e; exact .tail _ (.tail _ (.tail _ (.tail _ (.tail _ (.head _)))))
  | 9, _, e => cases e; exact .tail _ (.tail _ (.tail _ (.tail _ (.head _))))
  | 10, _, e => cases e; exact .tail _ (.tail _ (.tail _ (.head _)))
  | 11, _, e => cases e; exact .tail _ (.tail _ (.head _))
  | 12, _, e => cases e; exact .tail _ (.head _)
  | 13, _, e => cases e; exact .head _
  | n + 14, hi, _ => exact absurd hi (by show ¬ n + 14 < 14; omega)
end
end K94
namespace K94
open PySem PySem.Spec PyProof.Rows L2 Z Y
section
variable {P : Program} {w : World} {K : Frg} {mg : Str → Option Value} {base : Heap}
theorem ok__law_kinds_of (T : Tx w K mg) : FnG P w K mg base (L2.CX P w) 1 (He.ga K "_law_kinds_of") (spG K R__law_kinds_of) := by
  refine y_fnG T.d__law_kinds_of sc__law_kinds_of (fun ds γ Q E h => glen1 h) (fun _ _ _ _ _ _ us hl => match us, hl with | [_], _ => rfl) fun cdv A outer s H E G hG hr hx po tk => ⟨_, (g_cons (g_lift hG hx tk (fun B γ hB hx tk hγ => (s_set (i := 1) sc__law_kinds_of.nd rfl (by first | exact Or.inl rfl | exact Or.inr rfl) (y_lst (a_cons (y_isxT hγ (y_var (pv 0)) rfl T.g_InvalidNet (by rfl) T.b_isinstance) (a_cons (y_isxT hγ (y_var (pv 0)) rfl T.g_InvalidPlace (by rfl) T.b_isinstance) (a_cons (y_isxT hγ (y_var (pv 0)) rfl T.g_InvalidMotion (by rfl) T.b_isinstance) a_nil)))))))
  (g_cons (g_lift hG hx tk (fun B γ hB hx tk hγ => (s_set (i := 1) sc__law_kinds_of.nd rfl (by first | exact Or.inl rfl | exact Or.inr rfl) (y_op op_addY addL (y_var (pv 1)) (y_lst (a_cons (y_isxT hγ (y_var (pv 0)) rfl T.g_InvalidRows (by rfl) T.b_isinstance) (a_cons (y_isxT hγ (y_var (pv 0)) rfl T.g_InvalidColour (by rfl) T.b_isinstance) a_nil)))))))
  (g_cons (g_lift hG hx tk (fun B γ hB hx tk hγ => (s_set (i := 1) sc__law_kinds_of.nd rfl (by first | exact Or.inl rfl | exact Or.inr rfl) (y_op op_addY addL (y_var (pv 1)) (y_lst (a_cons (y_isxT hγ (y_var (pv 0)) rfl T.g_InvalidTable (by rfl) T.b_isinstance) (a_cons (y_isxT hγ (y_var (pv 0)) rfl T.g_InvalidNumber (by rfl) T.b_isinstance) a_nil)))))))
  (g_cons (g_lift hG hx tk (fun B γ hB hx tk hγ => (s_set (i := 1) sc__law_kinds_of.nd rfl (by first | exact Or.inl rfl | exact Or.inr rfl) (y_op op_addY addL (y_var (pv 1)) (y_lst (a_cons (y_isxT hγ (y_var (pv 0)) rfl T.g_InvalidObservation (by rfl) T.b_isinstance) (a_cons (y_isxT hγ (y_var (pv 0)) rfl T.g_InvalidText (by rfl) T.b_isinstance) a_nil)))))))
  (g_cons (g_lift hG hx tk (fun B γ hB hx tk hγ => (s_set (i := 1) sc__law_kinds_of.nd rfl (by first | exact Or.inl rfl | exact Or.inr rfl) (y_op op_addY addL (y_var (pv 1)) (y_lst (a_cons (y_isxT hγ (y_var (pv 0)) rfl T.g_InvalidCommand (by rfl) T.b_isinstance) (a_cons (y_isxT hγ (y_var (pv 0)) rfl T.g_LimitExceeded (by rfl) T.b_isinstance) a_nil)))))))
  (g_one (g_lift hG hx tk (fun B γ hB hx tk hγ => (s_ret (y_op op_addY addL (y_var (pv 1)) (y_lst (a_cons (y_isxT hγ (y_var (pv 0)) rfl T.g_NothingToUndo (by rfl) T.b_isinstance) (a_cons (y_isxT hγ (y_var (pv 0)) rfl T.g_UnknownName (by rfl) T.b_isinstance) (a_cons (y_isxT hγ (y_var (pv 0)) rfl T.g_RunFailed (by rfl) T.b_isinstance) a_nil)))))))))))))), fun ds γ Q h => ?_⟩
  obtain ⟨a0, e0, hh⟩ := gar1E h
  clear h
  subst e0
  have h := hh
  clear hh
  try dsimp only at h
  rw [show startE (List.length N__law_kinds_of) [a0] = [.val a0, .no] from rfl]
  obtain ⟨p, d, i, rfl, hi, hm, h⟩ := h
  have E := T.fa_E94
  have hc := exE_c d i
  intro F0 H0
  refine ⟨p, _, rfl, hm, nmE i, _, hc, E.ec i hi, E.own i hi 0 (by decide), ?_⟩
  refine ⟨p, _, rfl, hm, nmE i, _, hc, E.ec i hi, E.own i hi 1 (by decide), ?_⟩
  refine ⟨p, _, rfl, hm, nmE i, _, hc, E.ec i hi, E.own i hi 2 (by decide), ?_⟩
  refine ⟨leN rfl, ?_⟩
  intro F1 H1
  refine ⟨p, _, rfl, hm, nmE i, _, hc, E.ec i hi, E.own i hi 3 (by decide), ?_⟩
  refine ⟨p, _, rfl, hm, nmE i, _, hc, E.ec i hi, E.own i hi 4 (by decide), ?_⟩
  refine ⟨leN rfl, ?_⟩
  refine ⟨leN rfl, ?_⟩
  intro F2 H2
  refine ⟨p, _, rfl, hm, nmE i, _, hc, E.ec i hi, E.own i hi 5 (by decide), ?_⟩
  refine ⟨p, _, rfl, hm, nmE i, _, hc, E.ec i hi, E.own i hi 6 (by decide), ?_⟩
  refine ⟨leN rfl, ?_⟩
  refine ⟨leN rfl, ?_⟩
  intro F3 H3
  refine ⟨p, _, rfl, hm, nmE i, _, hc, E.ec i hi, E.own i hi 7 (by decide), ?_⟩
  refine ⟨p, _, rfl, hm, nmE i, _, hc, E.ec i hi, E.own i hi 8 (by decide), ?_⟩
  refine ⟨leN rfl, ?_⟩
  refine ⟨leN rfl, ?_⟩
  intro F4 H4
  refine ⟨p, _, rfl, hm, nmE i, _, hc, E.ec i hi, E.own i hi 9 (by decide), ?_⟩
  refine ⟨p, _, rfl, hm, nmE i, _, hc, E.ec i hi, E.own i hi 10 (by decide), ?_⟩
  refine ⟨leN rfl, ?_⟩
  refine ⟨leN rfl, ?_⟩
  intro F5 H5
  refine ⟨p, _, rfl, hm, nmE i, _, hc, E.ec i hi, E.own i hi 11 (by decide), ?_⟩
  refine ⟨p, _, rfl, hm, nmE i, _, hc, E.ec i hi, E.own i hi 12 (by decide), ?_⟩
  refine ⟨p, _, rfl, hm, nmE i, _, hc, E.ec i hi, E.own i hi 13 (by decide), ?_⟩
  refine ⟨leN rfl, ?_⟩
  refine ⟨leN rfl, ?_⟩
  exact h
end
end K94
namespace K94
open PySem PySem.Spec PyProof.Rows L2 Z Y
section
variable {P : Program} {w : World} {K : Frg} {mg : Str → Option Value} {base : Heap}
theorem ok__law_above (T : Tx w K mg) : FnG P w K mg base (L2.CX P w) 1 (He.ga K "_law_above") (spG K R__law_above) := by
  refine y_fnG T.d__law_above sc__law_above (fun ds γ Q E h => glen1 h) (fun _ _ _ _ _ _ us hl => match us, hl with | [_], _ => rfl) fun cdv A outer s H E G hG hr hx po tk => ⟨_, (g_cons (g_lift hG hx tk (fun B γ hB hx tk hγ => (s_set (i := 1) sc__law_above.nd rfl (by first | exact Or.inl rfl | exact Or.inr rfl) (y_lst (a_cons (y_isxT hγ (y_var (pv 0)) rfl T.g_CarpetError (by rfl) T.b_isinstance) (a_cons (y_isxTN (T := "ValueError") hγ (y_var (pv 0)) (by rfl) T.b_ValueError (by decide +kernel) (by decide) (by rfl) T.b_isinstance) (a_cons (y_isxTN (T := "OverflowError") hγ (y_var (pv 0)) (by rfl) T.b_OverflowError (by decide +kernel) (by decide) (by rfl) T.b_isinstance) a_nil)))))))
  (g_one (g_lift hG hx tk (fun B γ hB hx tk hγ => (s_ret (y_op op_addY addL (y_var (pv 1)) (y_lst (a_cons (y_isxTN (T := "RuntimeError") hγ (y_var (pv 0)) (by rfl) T.b_RuntimeError (by decide +kernel) (by decide) (by rfl) T.b_isinstance) (a_cons (y_isxTN (T := "KeyError") hγ (y_var (pv 0)) (by rfl) T.b_KeyError (by decide +kernel) (by decide) (by rfl) T.b_isinstance) (a_cons (y_isxTN (T := "ArithmeticError") hγ (y_var (pv 0)) (by rfl) T.b_ArithmeticError (by decide +kernel) (by decide) (by rfl) T.b_isinstance) a_nil)))))))))), fun ds γ Q h => ?_⟩
  obtain ⟨a0, e0, hh⟩ := gar1E h
  clear h
  subst e0
  have h := hh
  clear hh
  try dsimp only at h
  rw [show startE (List.length N__law_above) [a0] = [.val a0, .no] from rfl]
  obtain ⟨p, d, i, rfl, hi, hm, h⟩ := h
  have E := T.fa_E94
  have hc := exE_c d i
  intro F0 H0
  refine ⟨p, _, rfl, hm, nmE i, _, hc, E.ec i hi, E.ce i hi, ?_⟩
  refine ⟨p, _, rfl, hm, nmE i, _, hc, E.ec i hi, E.ve i hi, ?_⟩
  refine ⟨p, _, rfl, hm, nmE i, _, hc, E.ec i hi, E.oe i hi, ?_⟩
  refine ⟨leN rfl, ?_⟩
  intro F1 H1
  refine ⟨p, _, rfl, hm, nmE i, _, hc, E.ec i hi, E.re i hi, ?_⟩
  refine ⟨p, _, rfl, hm, nmE i, _, hc, E.ec i hi, E.ke i hi, ?_⟩
  refine ⟨p, _, rfl, hm, nmE i, _, hc, E.ec i hi, E.ae i hi, ?_⟩
  exact ⟨leN rfl, leN rfl, h⟩
end
end K94
namespace K94
open PySem PySem.Spec PyProof.Rows L2 Z Y
section
variable {P : Program} {w : World} {K : Frg} {mg : Str → Option Value} {base : Heap}
theorem ok_law (T : Tx w K mg) : ∀ base : Heap, FnG P w K mg base (L2.CX P w) 3 (He.ga K "law") (spLawT K) := by
  refine y_law (i := 1) T.d_law sc_law (fun _ _ _ _ _ _ us hl => match us, hl with | [_], _ => rfl) rfl (fun base => ok__law_tape T) T.g__law_tape T.k__law_tape (by decide) rfl rfl (by decide) (fun _ _ => rfl) (by first | exact Or.inl rfl | exact Or.inr (Or.inl rfl)) (by first | exact Or.inl rfl | exact Or.inr rfl) (fun _ _ => rfl) (fun _ _ => rfl) (by decide) (by decide) fun base cdv ecd A outer s H E B hB hE hr hx po => ⟨_, (g_in hB fun G hG hx tk => (g_cons (g_lift hG hx tk (fun B γ hB hx tk hγ => (s_set (i := 2) sc_law.nd rfl (by first | exact Or.inl rfl | exact Or.inr rfl) (y_lst (a_cons y_non (a_cons y_int (a_cons y_str (a_cons (y_tup (a_cons y_int (a_cons y_int a_nil))) (a_cons (y_lst (a_cons y_int a_nil)) (a_cons (y_disp (pd_cons y_str y_int pd_nil)) (a_cons y_bl (a_cons (y_op op_sub subL y_int (y_op op_pow powL y_int y_int)) a_nil))))))))))))
  (g_cons (g_for (t := .nm 3) hG po rfl (g_iter hG hx (fun B γ hB hx hγ => (i_rng1 (by rfl) T.b_range (a_cons y_int a_nil)))) (g_nm (pg_name (i := 3) sc_law.nd rfl (by first | exact Or.inl rfl | exact Or.inr rfl)))
    (g_cons (g_lift hG hx tk (fun B γ hB hx tk hγ => (s_set (i := 4) sc_law.nd rfl (by first | exact Or.inl rfl | exact Or.inr rfl) (y_ix (y_var (pv 2)) (y_call (ok__law_draw T) (hr.mono (by decide)) rfl T.g__law_draw T.k__law_draw hx (a_cons (y_var (pv 1)) (a_cons y_int a_nil))) (fun _ _ => rfl)))))
  (g_cons (g_set (i := 5) hG sc_law.nd rfl (by first | exact Or.inl rfl | exact Or.inr rfl) (y_callG hG (ok__law_made_errors T) (hr.mono (by decide)) rfl T.g__law_made_errors T.k__law_made_errors hx (ga_of hG hx (fun B γ hB hx hγ => (a_cons (y_var (pv 4)) a_nil)))))
  (g_cons (g_for (t := .tp [6, 7]) hG po rfl (g_iter hG hx (fun B γ hB hx hγ => (i_enum (by rfl) T.b_enumerate (a_cons (y_var (pv 5)) a_nil)))) (g_tp (is := [6, 7]) rfl (pgs_cons (pg_name (i := 6) sc_law.nd rfl (by first | exact Or.inl rfl | exact Or.inr rfl)) (pgs_cons (pg_name (i := 7) sc_law.nd rfl (by first | exact Or.inl rfl | exact Or.inr rfl)) pgs_nil)))
    (g_cons (g_if (z_cmpG hG (op_neY hr.units) neL (y_callG hG (ok__law_kinds_of T) (hr.mono (by decide)) rfl T.g__law_kinds_of T.k__law_kinds_of hx (ga_of hG hx (fun B γ hB hx hγ => (a_cons (y_var (pv 7)) a_nil)))) (g_expr hG hx (fun B γ hB hx hγ => (y_lc (own := [("_law_number", 11)]) (t := .nm 11) rfl sc_law.nd (i_rng1 (by rfl) T.b_range (a_cons y_int a_nil)) (blkOk_by (own := [("_law_number", 11)]) (N := N_law) (sc := defScope s_law) (by decide +kernel)) (fun _ _ _ _ _ => (g_nm (pg_name (i := 11) sc_law.nd rfl (by first | exact Or.inl rfl | exact Or.inr rfl)))) (fun _ _ _ _ _ => c_nil) (fun _ _ _ _ _ => (y_cmp (op_eqY hr.units) eqL (y_var (pv 11)) (y_var (pv 6)) (nomark _)))))) (nomark _))
    (g_one (g_lift hG hx tk (fun B γ hB hx tk hγ => (s_ret y_bl))))
    g_nil)
  (g_cons (g_lift hG hx tk (fun B γ hB hx tk hγ => (s_set (i := 8) sc_law.nd rfl (by first | exact Or.inl rfl | exact Or.inr rfl) (y_lst (a_cons (y_cmp op_lt cmpL (y_var (pv 6)) y_int (nomark _)) (a_cons (y_cmp op_lt cmpL (y_var (pv 6)) y_int (nomark _)) (a_cons (y_cmp (op_eqY hr.units) eqL (y_var (pv 6)) y_int (nomark _)) (a_cons (y_cmp (op_eqY hr.units) eqL (y_var (pv 6)) y_int (nomark _)) (a_cons (y_cmp (op_eqY hr.units) eqL (y_var (pv 6)) y_int (nomark _)) (a_cons (y_cmp (op_inY (hu65 hr)) inL (y_var (pv 6)) (y_lst (a_cons y_int (a_cons y_int a_nil))) rfl) a_nil))))))))))
  (g_one (g_if (z_cmpG hG (op_neY hr.units) neL (y_callG hG (ok__law_above T) (hr.mono (by decide)) rfl T.g__law_above T.k__law_above hx (ga_of hG hx (fun B γ hB hx hγ => (a_cons (y_var (pv 7)) a_nil)))) (g_expr hG hx (fun B γ hB hx hγ => (y_var (pv 8)))) (nomark _))
    (g_one (g_lift hG hx tk (fun B γ hB hx tk hγ => (s_ret y_bl))))
    g_nil)))))
  (g_cons (g_set (i := 9) hG sc_law.nd rfl (by first | exact Or.inl rfl | exact Or.inr rfl) (y_lstG hG (ga_cons (y_gxf (cs := ["InvalidNet", "InvalidPlace", "InvalidMotion", "InvalidColour", "InvalidTable", "InvalidNumber", "InvalidText", "InvalidCommand"]) (g_expr hG hx (fun B γ hB hx hγ => (y_ix (y_var (pv 5)) y_int (fun _ _ => rfl)))) (allC ⟨T.xc_InvalidNet.xf, T.xc_InvalidNet.noN⟩ (allC ⟨T.xc_InvalidPlace.xf, T.xc_InvalidPlace.noN⟩ (allC ⟨T.xc_InvalidMotion.xf, T.xc_InvalidMotion.noN⟩ (allC ⟨T.xc_InvalidColour.xf, T.xc_InvalidColour.noN⟩ (allC ⟨T.xc_InvalidTable.xf, T.xc_InvalidTable.noN⟩ (allC ⟨T.xc_InvalidNumber.xf, T.xc_InvalidNumber.noN⟩ (allC ⟨T.xc_InvalidText.xf, T.xc_InvalidText.noN⟩ (allC ⟨T.xc_InvalidCommand.xf, T.xc_InvalidCommand.noN⟩ all0))))))))) (ga_cons (y_gxf (cs := ["InvalidNet", "InvalidPlace", "InvalidMotion", "InvalidColour", "InvalidTable", "InvalidNumber", "InvalidText", "InvalidCommand"]) (g_expr hG hx (fun B γ hB hx hγ => (y_ix (y_var (pv 5)) y_int (fun _ _ => rfl)))) (allC ⟨T.xc_InvalidNet.xf, T.xc_InvalidNet.noN⟩ (allC ⟨T.xc_InvalidPlace.xf, T.xc_InvalidPlace.noN⟩ (allC ⟨T.xc_InvalidMotion.xf, T.xc_InvalidMotion.noN⟩ (allC ⟨T.xc_InvalidColour.xf, T.xc_InvalidColour.noN⟩ (allC ⟨T.xc_InvalidTable.xf, T.xc_InvalidTable.noN⟩ (allC ⟨T.xc_InvalidNumber.xf, T.xc_InvalidNumber.noN⟩ (allC ⟨T.xc_InvalidText.xf, T.xc_InvalidText.noN⟩ (allC ⟨T.xc_InvalidCommand.xf, T.xc_InvalidCommand.noN⟩ all0))))))))) (ga_cons (y_gxf (cs := ["InvalidNet", "InvalidPlace", "InvalidMotion", "InvalidColour", "InvalidTable", "InvalidNumber", "InvalidText", "InvalidCommand"]) (g_expr hG hx (fun B γ hB hx hγ => (y_ix (y_var (pv 5)) y_int (fun _ _ => rfl)))) (allC ⟨T.xc_InvalidNet.xf, T.xc_InvalidNet.noN⟩ (allC ⟨T.xc_InvalidPlace.xf, T.xc_InvalidPlace.noN⟩ (allC ⟨T.xc_InvalidMotion.xf, T.xc_InvalidMotion.noN⟩ (allC ⟨T.xc_InvalidColour.xf, T.xc_InvalidColour.noN⟩ (allC ⟨T.xc_InvalidTable.xf, T.xc_InvalidTable.noN⟩ (allC ⟨T.xc_InvalidNumber.xf, T.xc_InvalidNumber.noN⟩ (allC ⟨T.xc_InvalidText.xf, T.xc_InvalidText.noN⟩ (allC ⟨T.xc_InvalidCommand.xf, T.xc_InvalidCommand.noN⟩ all0))))))))) (ga_cons (y_gxf (cs := ["InvalidRows", "InvalidObservation", "RunFailed"]) (g_expr hG hx (fun B γ hB hx hγ => (y_ix (y_var (pv 5)) y_int (fun _ _ => rfl)))) (allC ⟨T.xc_InvalidRows.xf, T.xc_InvalidRows.noN⟩ (allC ⟨T.xc_InvalidObservation.xf, T.xc_InvalidObservation.noN⟩ (allC ⟨T.xc_RunFailed.xf, T.xc_RunFailed.noN⟩ all0)))) (ga_cons (y_gxf (cs := ["InvalidNet", "InvalidPlace", "InvalidMotion", "InvalidColour", "InvalidTable", "InvalidNumber", "InvalidText", "InvalidCommand"]) (g_expr hG hx (fun B γ hB hx hγ => (y_ix (y_var (pv 5)) y_int (fun _ _ => rfl)))) (allC ⟨T.xc_InvalidNet.xf, T.xc_InvalidNet.noN⟩ (allC ⟨T.xc_InvalidPlace.xf, T.xc_InvalidPlace.noN⟩ (allC ⟨T.xc_InvalidMotion.xf, T.xc_InvalidMotion.noN⟩ (allC ⟨T.xc_InvalidColour.xf, T.xc_InvalidColour.noN⟩ (allC ⟨T.xc_InvalidTable.xf, T.xc_InvalidTable.noN⟩ (allC ⟨T.xc_InvalidNumber.xf, T.xc_InvalidNumber.noN⟩ (allC ⟨T.xc_InvalidText.xf, T.xc_InvalidText.noN⟩ (allC ⟨T.xc_InvalidCommand.xf, T.xc_InvalidCommand.noN⟩ all0))))))))) (ga_cons (y_gxf (cs := ["InvalidNet", "InvalidPlace", "InvalidMotion", "InvalidColour", "InvalidTable", "InvalidNumber", "InvalidText", "InvalidCommand"]) (g_expr hG hx (fun B γ hB hx hγ => (y_ix (y_var (pv 5)) y_int (fun _ _ => rfl)))) (allC ⟨T.xc_InvalidNet.xf, T.xc_InvalidNet.noN⟩ (allC ⟨T.xc_InvalidPlace.xf, T.xc_InvalidPlace.noN⟩ (allC ⟨T.xc_InvalidMotion.xf, T.xc_InvalidMotion.noN⟩ (allC ⟨T.xc_InvalidColour.xf, T.xc_InvalidColour.noN⟩ (allC ⟨T.xc_InvalidTable.xf, T.xc_InvalidTable.noN⟩ (allC ⟨T.xc_InvalidNumber.xf, T.xc_InvalidNumber.noN⟩ (allC ⟨T.xc_InvalidText.xf, T.xc_InvalidText.noN⟩ (allC ⟨T.xc_InvalidCommand.xf, T.xc_InvalidCommand.noN⟩ all0))))))))) ga_nil))))))))
  (g_cons (g_set (i := 9) hG sc_law.nd rfl (by first | exact Or.inl rfl | exact Or.inr rfl) (y_opG hG op_addY addL (g_expr hG hx (fun B γ hB hx hγ => (y_var (pv 9)))) (y_lstG hG (ga_cons (y_gxf (cs := ["InvalidNet", "InvalidPlace", "InvalidMotion", "InvalidColour", "InvalidTable", "InvalidNumber", "InvalidText", "InvalidCommand"]) (g_expr hG hx (fun B γ hB hx hγ => (y_ix (y_var (pv 5)) y_int (fun _ _ => rfl)))) (allC ⟨T.xc_InvalidNet.xf, T.xc_InvalidNet.noN⟩ (allC ⟨T.xc_InvalidPlace.xf, T.xc_InvalidPlace.noN⟩ (allC ⟨T.xc_InvalidMotion.xf, T.xc_InvalidMotion.noN⟩ (allC ⟨T.xc_InvalidColour.xf, T.xc_InvalidColour.noN⟩ (allC ⟨T.xc_InvalidTable.xf, T.xc_InvalidTable.noN⟩ (allC ⟨T.xc_InvalidNumber.xf, T.xc_InvalidNumber.noN⟩ (allC ⟨T.xc_InvalidText.xf, T.xc_InvalidText.noN⟩ (allC ⟨T.xc_InvalidCommand.xf, T.xc_InvalidCommand.noN⟩ all0))))))))) (ga_cons (y_gxf (cs := ["InvalidRows", "InvalidObservation", "RunFailed"]) (g_expr hG hx (fun B γ hB hx hγ => (y_ix (y_var (pv 5)) y_int (fun _ _ => rfl)))) (allC ⟨T.xc_InvalidRows.xf, T.xc_InvalidRows.noN⟩ (allC ⟨T.xc_InvalidObservation.xf, T.xc_InvalidObservation.noN⟩ (allC ⟨T.xc_RunFailed.xf, T.xc_RunFailed.noN⟩ all0)))) (ga_cons (y_gxf (cs := ["InvalidNet", "InvalidPlace", "InvalidMotion", "InvalidColour", "InvalidTable", "InvalidNumber", "InvalidText", "InvalidCommand"]) (g_expr hG hx (fun B γ hB hx hγ => (y_ix (y_var (pv 5)) y_int (fun _ _ => rfl)))) (allC ⟨T.xc_InvalidNet.xf, T.xc_InvalidNet.noN⟩ (allC ⟨T.xc_InvalidPlace.xf, T.xc_InvalidPlace.noN⟩ (allC ⟨T.xc_InvalidMotion.xf, T.xc_InvalidMotion.noN⟩ (allC ⟨T.xc_InvalidColour.xf, T.xc_InvalidColour.noN⟩ (allC ⟨T.xc_InvalidTable.xf, T.xc_InvalidTable.noN⟩ (allC ⟨T.xc_InvalidNumber.xf, T.xc_InvalidNumber.noN⟩ (allC ⟨T.xc_InvalidText.xf, T.xc_InvalidText.noN⟩ (allC ⟨T.xc_InvalidCommand.xf, T.xc_InvalidCommand.noN⟩ all0))))))))) (ga_cons (y_gxf (cs := ["InvalidNet", "InvalidPlace", "InvalidMotion", "InvalidColour", "InvalidTable", "InvalidNumber", "InvalidText", "InvalidCommand"]) (g_expr hG hx (fun B γ hB hx hγ => (y_ix (y_var (pv 5)) y_int (fun _ _ => rfl)))) (allC ⟨T.xc_InvalidNet.xf, T.xc_InvalidNet.noN⟩ (allC ⟨T.xc_InvalidPlace.xf, T.xc_InvalidPlace.noN⟩ (allC ⟨T.xc_InvalidMotion.xf, T.xc_InvalidMotion.noN⟩ (allC ⟨T.xc_InvalidColour.xf, T.xc_InvalidColour.noN⟩ (allC ⟨T.xc_InvalidTable.xf, T.xc_InvalidTable.noN⟩ (allC ⟨T.xc_InvalidNumber.xf, T.xc_InvalidNumber.noN⟩ (allC ⟨T.xc_InvalidText.xf, T.xc_InvalidText.noN⟩ (allC ⟨T.xc_InvalidCommand.xf, T.xc_InvalidCommand.noN⟩ all0))))))))) (ga_cons (y_gxf (cs := ["LimitExceeded"]) (g_expr hG hx (fun B γ hB hx hγ => (y_ix (y_var (pv 5)) y_int (fun _ _ => rfl)))) (allC ⟨T.xc_LimitExceeded.xf, T.xc_LimitExceeded.noN⟩ all0)) (ga_cons (y_gxf (cs := ["UnknownName"]) (g_expr hG hx (fun B γ hB hx hγ => (y_ix (y_var (pv 5)) y_int (fun _ _ => rfl)))) (allC ⟨T.xc_UnknownName.xf, T.xc_UnknownName.noN⟩ all0)) ga_nil)))))))))
  (g_cons (g_if (z_cmpG hG (op_neY hr.units) neL (y_callBG hG (call_reprN T.sy hr.units hr.gd) reprNL (by rfl) T.b_repr (by decide +kernel) (ga_cons (y_opG hG op_addY addL (g_expr hG hx (fun B γ hB hx hγ => (y_var (pv 9)))) (y_lstG hG (ga_cons (y_gxf (cs := ["InvalidRows", "InvalidObservation", "RunFailed"]) (g_expr hG hx (fun B γ hB hx hγ => (y_ix (y_var (pv 5)) y_int (fun _ _ => rfl)))) (allC ⟨T.xc_InvalidRows.xf, T.xc_InvalidRows.noN⟩ (allC ⟨T.xc_InvalidObservation.xf, T.xc_InvalidObservation.noN⟩ (allC ⟨T.xc_RunFailed.xf, T.xc_RunFailed.noN⟩ all0)))) ga_nil))) ga_nil)) (g_expr hG hx (fun B γ hB hx hγ => (y_callB (call_reprN T.sy hr.units hr.gd) reprNL (by rfl) T.b_repr (by decide +kernel) (a_cons (y_op op_mulY mulL (y_lst (a_cons (y_var (pv 4)) a_nil)) y_int) a_nil)))) (nomark _))
    (g_one (g_lift hG hx tk (fun B γ hB hx tk hγ => (s_ret y_bl))))
    g_nil)
  (g_cons (g_set (i := 10) hG sc_law.nd rfl (by first | exact Or.inl rfl | exact Or.inr rfl) (y_lstG hG (ga_cons (y_gxf (cs := ["InvalidRows", "InvalidObservation", "RunFailed"]) (g_mkXK hG (T.xc_InvalidRows.t T.d_InvalidRows_UinitU ⟨_, _, rfl⟩ ⟨_, _, _, _, rfl⟩ rfl) T.xk_InvalidRows (.inr (.inl rfl)) hr (g_expr hG hx (fun B γ hB hx hγ => (y_var (pv 4)))) rfl T.g_InvalidRows) (allC ⟨T.xc_InvalidRows.xf, T.xc_InvalidRows.noN⟩ (allC ⟨T.xc_InvalidObservation.xf, T.xc_InvalidObservation.noN⟩ (allC ⟨T.xc_RunFailed.xf, T.xc_RunFailed.noN⟩ all0)))) (ga_cons (y_gxf (cs := ["LimitExceeded"]) (g_mkXK hG (T.xc_LimitExceeded.t T.d_LimitExceeded_UinitU ⟨_, _, rfl⟩ ⟨_, _, _, _, rfl⟩ rfl) T.xk_LimitExceeded (.inr (.inr (.inl rfl))) hr (g_expr hG hx (fun B γ hB hx hγ => (y_var (pv 4)))) rfl T.g_LimitExceeded) (allC ⟨T.xc_LimitExceeded.xf, T.xc_LimitExceeded.noN⟩ all0)) (ga_cons (y_gxf (cs := ["UnknownName"]) (g_mkXK hG (T.xc_UnknownName.t T.d_UnknownName_UinitU ⟨_, _, rfl⟩ ⟨_, _, _, _, rfl⟩ rfl) T.xk_UnknownName (.inr (.inr (.inr rfl))) hr (g_expr hG hx (fun B γ hB hx hγ => (y_var (pv 4)))) rfl T.g_UnknownName) (allC ⟨T.xc_UnknownName.xf, T.xc_UnknownName.noN⟩ all0)) ga_nil)))))
  (g_one (g_if (z_cmpG hG (op_neY hr.units) neL (y_callBG hG (call_reprN T.sy hr.units hr.gd) reprNL (by rfl) T.b_repr (by decide +kernel) (ga_cons (y_opG hG op_addY addL (g_expr hG hx (fun B γ hB hx hγ => (y_var (pv 10)))) (y_lstG hG (ga_cons (y_gxf (cs := ["InvalidNet", "InvalidPlace", "InvalidMotion", "InvalidColour", "InvalidTable", "InvalidNumber", "InvalidText", "InvalidCommand"]) (g_mkXK hG (T.xc_InvalidNet.t T.d_InvalidNet_UinitU ⟨_, _, rfl⟩ ⟨_, _, _, _, rfl⟩ rfl) T.xk_InvalidNet (.inl rfl) hr (g_expr hG hx (fun B γ hB hx hγ => (y_var (pv 4)))) rfl T.g_InvalidNet) (allC ⟨T.xc_InvalidNet.xf, T.xc_InvalidNet.noN⟩ (allC ⟨T.xc_InvalidPlace.xf, T.xc_InvalidPlace.noN⟩ (allC ⟨T.xc_InvalidMotion.xf, T.xc_InvalidMotion.noN⟩ (allC ⟨T.xc_InvalidColour.xf, T.xc_InvalidColour.noN⟩ (allC ⟨T.xc_InvalidTable.xf, T.xc_InvalidTable.noN⟩ (allC ⟨T.xc_InvalidNumber.xf, T.xc_InvalidNumber.noN⟩ (allC ⟨T.xc_InvalidText.xf, T.xc_InvalidText.noN⟩ (allC ⟨T.xc_InvalidCommand.xf, T.xc_InvalidCommand.noN⟩ all0))))))))) (ga_cons (y_gxf (cs := ["InvalidRows", "InvalidObservation", "RunFailed"]) (g_mkXK hG (T.xc_RunFailed.t T.d_RunFailed_UinitU ⟨_, _, rfl⟩ ⟨_, _, _, _, rfl⟩ rfl) T.xk_RunFailed (.inr (.inl rfl)) hr (g_expr hG hx (fun B γ hB hx hγ => (y_var (pv 4)))) rfl T.g_RunFailed) (allC ⟨T.xc_InvalidRows.xf, T.xc_InvalidRows.noN⟩ (allC ⟨T.xc_InvalidObservation.xf, T.xc_InvalidObservation.noN⟩ (allC ⟨T.xc_RunFailed.xf, T.xc_RunFailed.noN⟩ all0)))) ga_nil)))) ga_nil)) (g_expr hG hx (fun B γ hB hx hγ => (y_callB (call_reprN T.sy hr.units hr.gd) reprNL (by rfl) T.b_repr (by decide +kernel) (a_cons (y_op op_mulY mulL (y_lst (a_cons (y_var (pv 4)) a_nil)) y_int) a_nil)))) (nomark _))
    (g_one (g_lift hG hx tk (fun B γ hB hx tk hγ => (s_ret y_bl))))
    g_nil))))))))))
  (g_one (g_lift hG hx tk (fun B γ hB hx tk hγ => (s_ret y_bl))))))), ?_⟩
  rw [show (List.replicate (List.length N_law) Sl.no).set 1 (.val .tape) = [.no, .val .tape, .no, .no, .no, .no, .no, .no, .no, .no, .no, .no] from rfl]
  refine ⟨rfl, ?_⟩
  intro F0 H0
  dsimp only [aCons, aNil, rC]
  refine ⟨leN rfl, leN rfl, ?_⟩
  refine ⟨[(.inr "a", .int 1)], rfl, ⟨by decide, by decide⟩, ⟨by decide, by decide, by decide⟩, leN rfl, ?_⟩
  refine fun F1 H1 => ⟨by decide, by decide, fun i ρ γ => ∃ o3 o4 o5 o6 o7 o8 o9 o10 o11, ρ = [.no, .val .tape, .val (.lst things94), o3, o4, o5, o6, o7, o8, o9, o10, o11], ⟨_, _, _, _, _, _, _, _, _, rfl⟩, ?_, ?_⟩
  · rintro i dd ρ γ hd ⟨o3, o4, o5, o6, o7, o8, o9, o10, o11, rfl⟩
    obtain ⟨hi, rfl⟩ := rngD_at hd
    refine fun F2 H2 => ?_
    refine v_ (d := .lst things94) rfl (v_ (d := .tape) rfl ⟨⟨by decide, szP (by decide) (by decide)⟩, fun e0 z0 y0 => ?_⟩)
    obtain ⟨d, ed, hmd⟩ := atI_D (ds := things94) z0 (by show e0 < ((8 : Nat) : Int); omega)
    refine dIx_l ed ?_
    refine fun F3 H3 ps γ1 hA => ?_
    refine fun F4 H4 => ⟨fun k ρ γ => (∃ o6 o7 o8 o9 o10 o11, ρ = [.no, .val .tape, .val (.lst things94), .val (.int (0 + (i : Nat))), .val d, .val (.lst (ps.map D.fn)), o6, o7, o8, o9, o10, o11]) ∧ AtE d ps γ, ⟨⟨_, _, _, _, _, _, rfl⟩, hA⟩, ?_, ?_⟩
    · rintro k dd ρ γ hd ⟨⟨o6, o7, o8, o9, o10, o11, rfl⟩, hA⟩
      obtain ⟨x, hx, rfl⟩ := enum_at hd
      obtain ⟨p, hp, rfl⟩ := map_get hx
      have hk : k < 14 := by have := lt_of_get hp; have := hA.1; omega
      have hm := hA.2 k p hp
      refine fun F5 H5 => ⟨p, d, k, rfl, hk, hm, ?_⟩
      refine fun F6 H6 => ⟨by decide, by decide, by simp [rngD], ?_⟩
      unfold rngD
      refine mapI_fun (xs := List.range 14) (f := fun j : Nat => D.int (0 + (j : Nat))) (g := fun j : Nat => D.bl (decide (j = k))) (fun j hj K hK => ?_) ?_
      · have e : decide (0 + (j : Int) = (k : Int)) = decide (j = k) := decide_eq_decide.mpr (by omega)
        show K (.bl (decide (0 + (j : Int) = (k : Int))))
        rw [e]
        exact hK
      refine ne_bls ((List.range 14).map fun j => decide (j = k)) (by rw [List.map_map]; rfl) (by rw [List.map_map]; rfl) (ifB_F rfl ?_)
      refine fun F7 H7 => ⟨leN rfl, in_1013 ⟨leN rfl, ?_⟩⟩
      refine fun F8 H8 => ⟨p, d, k, rfl, hk, hm, ?_⟩
      intro F9 H9
      have c1 : decide ((k : Int) < 10) = decide (k < 10) := decide_eq_decide.mpr (by omega)
      have c2 : decide ((k : Int) = 10) = decide (k = 10) := decide_eq_decide.mpr (by omega)
      have c3 : decide ((k : Int) = 11) = decide (k = 11) := decide_eq_decide.mpr (by omega)
      have c4 : decide ((k : Int) = 12) = decide (k = 12) := decide_eq_decide.mpr (by omega)
      refine v_ (d := .lst [D.bl (decide ((k : Int) < 10)), .bl (decide ((k : Int) < 10)), .bl (decide ((k : Int) = 10)), .bl (decide ((k : Int) = 11)), .bl (decide ((k : Int) = 12)), .bl (decide (k = 10 ∨ k = 13))]) rfl ?_
      refine ne_bls [decide (k < 10), decide (k < 10), decide (k = 10), decide (k = 11), decide (k = 12), decide (k = 10 ∨ k = 13)] rfl ?_ (ifB_F rfl ?_)
      · show [D.bl (decide ((k : Int) < 10)), .bl (decide ((k : Int) < 10)), .bl (decide ((k : Int) = 10)), .bl (decide ((k : Int) = 11)), .bl (decide ((k : Int) = 12)), .bl (decide (k = 10 ∨ k = 13))] = _
        rw [c1, c2, c3, c4]
        rfl
      exact ⟨⟨_, _, _, _, _, _, rfl⟩, hA⟩
    rintro ρ γ ⟨⟨o6, o7, o8, o9, o10, o11, rfl⟩, hA⟩
    obtain ⟨p0, p1, p2, p3, p4, p5, p6, p7, p8, p9, p10, p11, p12, p13, rfl⟩ := len14 hA.1
    have h13 := shp94 (n := 13) (by decide) d hmd
    have h5 := shp94 (n := 5) (by decide) d hmd
    refine fun _ _ => v_ (d := .lst ([p0, p1, p2, p3, p4, p5, p6, p7, p8, p9, p10, p11, p12, p13].map D.fn)) rfl <| dIx_l (d := .fn p0) rfl ⟨p0, _, rfl, hA.2 0 p0 rfl, ⟨"InvalidNet", .head _, rfl⟩, rfl, ?_⟩
    refine fun _ _ => v_ (d := .lst ([p0, p1, p2, p3, p4, p5, p6, p7, p8, p9, p10, p11, p12, p13].map D.fn)) rfl <| dIx_l (d := .fn p1) rfl ⟨p1, _, rfl, hA.2 1 p1 rfl, ⟨"InvalidPlace", .tail _ (.head _), rfl⟩, rfl, ?_⟩
    refine fun _ _ => v_ (d := .lst ([p0, p1, p2, p3, p4, p5, p6, p7, p8, p9, p10, p11, p12, p13].map D.fn)) rfl <| dIx_l (d := .fn p2) rfl ⟨p2, _, rfl, hA.2 2 p2 rfl, ⟨"InvalidMotion", .tail _ (.tail _ (.head _)), rfl⟩, rfl, ?_⟩
    refine fun _ _ => v_ (d := .lst ([p0, p1, p2, p3, p4, p5, p6, p7, p8, p9, p10, p11, p12, p13].map D.fn)) rfl <| dIx_l (d := .fn p3) rfl ⟨p3, _, rfl, hA.2 3 p3 rfl, ⟨"InvalidRows", .head _, rfl⟩, rfl, ?_⟩
    refine fun _ _ => v_ (d := .lst ([p0, p1, p2, p3, p4, p5, p6, p7, p8, p9, p10, p11, p12, p13].map D.fn)) rfl <| dIx_l (d := .fn p4) rfl ⟨p4, _, rfl, hA.2 4 p4 rfl, ⟨"InvalidColour", .tail _ (.tail _ (.tail _ (.head _))), rfl⟩, rfl, ?_⟩
    refine fun _ _ => v_ (d := .lst ([p0, p1, p2, p3, p4, p5, p6, p7, p8, p9, p10, p11, p12, p13].map D.fn)) rfl <| dIx_l (d := .fn p5) rfl ⟨p5, _, rfl, hA.2 5 p5 rfl, ⟨"InvalidTable", .tail _ (.tail _ (.tail _ (.tail _ (.head _)))), rfl⟩, rfl, ?_⟩
    refine ⟨leN rfl, ?_⟩
    refine fun _ _ => ?_
    refine fun _ _ => v_ (d := .lst ([p0, p1, p2, p3, p4, p5, p6, p7, p8, p9, p10, p11, p12, p13].map D.fn)) rfl <| dIx_l (d := .fn p6) rfl ⟨p6, _, rfl, hA.2 6 p6 rfl, ⟨"InvalidNumber", .tail _ (.tail _ (.tail _ (.tail _ (.tail _ (.head _))))), rfl⟩, rfl, ?_⟩
    refine fun _ _ => v_ (d := .lst ([p0, p1, p2, p3, p4, p5, p6, p7, p8, p9, p10, p11, p12, p13].map D.fn)) rfl <| dIx_l (d := .fn p7) rfl ⟨p7, _, rfl, hA.2 7 p7 rfl, ⟨"InvalidObservation", .tail _ (.head _), rfl⟩, rfl, ?_⟩
    refine fun _ _ => v_ (d := .lst ([p0, p1, p2, p3, p4, p5, p6, p7, p8, p9, p10, p11, p12, p13].map D.fn)) rfl <| dIx_l (d := .fn p8) rfl ⟨p8, _, rfl, hA.2 8 p8 rfl, ⟨"InvalidText", .tail _ (.tail _ (.tail _ (.tail _ (.tail _ (.tail _ (.head _)))))), rfl⟩, rfl, ?_⟩
    refine fun _ _ => v_ (d := .lst ([p0, p1, p2, p3, p4, p5, p6, p7, p8, p9, p10, p11, p12, p13].map D.fn)) rfl <| dIx_l (d := .fn p9) rfl ⟨p9, _, rfl, hA.2 9 p9 rfl, ⟨"InvalidCommand", .tail _ (.tail _ (.tail _ (.tail _ (.tail _ (.tail _ (.tail _ (.head _))))))), rfl⟩, rfl, ?_⟩
    refine fun _ _ => v_ (d := .lst ([p0, p1, p2, p3, p4, p5, p6, p7, p8, p9, p10, p11, p12, p13].map D.fn)) rfl <| dIx_l (d := .fn p10) rfl ⟨p10, _, rfl, hA.2 10 p10 rfl, ⟨"LimitExceeded", .head _, rfl⟩, rfl, ?_⟩
    refine fun _ _ => v_ (d := .lst ([p0, p1, p2, p3, p4, p5, p6, p7, p8, p9, p10, p11, p12, p13].map D.fn)) rfl <| dIx_l (d := .fn p12) rfl ⟨p12, _, rfl, hA.2 12 p12 rfl, ⟨"UnknownName", .head _, rfl⟩, rfl, ?_⟩
    refine ⟨leN rfl, leN rfl, ?_⟩
    refine fun _ _ => ?_
    refine fun _ _ => v_ (d := .lst ([p0, p1, p2, p3, p4, p5, p6, p7, p8, p9, p10, p11, p12, p13].map D.fn)) rfl <| dIx_l (d := .fn p13) rfl ⟨p13, _, rfl, hA.2 13 p13 rfl, ⟨"RunFailed", .tail _ (.tail _ (.head _)), rfl⟩, rfl, ?_⟩
    refine ⟨leN rfl, leN rfl, h13, ?_⟩
    refine fun _ _ => ⟨leN rfl, ⟨by decide, by decide, leN rfl⟩, h13, ifB_F (by simp) ?_⟩
    refine fun _ _ q n => ⟨q, _, rfl, .head _, ⟨"InvalidRows", .head _, rfl⟩, rfl, ?_⟩
    refine fun _ _ q n => ⟨q, _, rfl, .head _, ⟨"LimitExceeded", .head _, rfl⟩, rfl, ?_⟩
    refine fun _ _ q n => ⟨q, _, rfl, .head _, ⟨"UnknownName", .head _, rfl⟩, rfl, ?_⟩
    refine ⟨leN rfl, ?_⟩
    refine fun _ _ => ?_
    refine fun _ _ q n => ⟨q, _, rfl, .head _, ⟨"InvalidNet", .head _, rfl⟩, rfl, ?_⟩
    refine fun _ _ q n => ⟨q, _, rfl, .head _, ⟨"RunFailed", .tail _ (.tail _ (.head _)), rfl⟩, rfl, ?_⟩
    refine ⟨leN rfl, leN rfl, h5, ?_⟩
    refine fun _ _ => ⟨leN rfl, ⟨by decide, by decide, leN rfl⟩, h5, ifB_F (by simp) ?_⟩
    exact ⟨_, _, _, _, _, _, _, _, _, rfl⟩
  · rintro ρ γ ⟨o3, o4, o5, o6, o7, o8, o9, o10, o11, rfl⟩
    intro F9 H9
    rfl
end
end K94
namespace K94
open PySem PySem.Spec PyProof.Rows L2 Z
theorem facts {P : Program} {w : World} {K : Frg} {h : Heap} {mg : Str → Option Value} {f : Addr} (X : K.In h) (G : h.Ns mainGlobals mg) (hfa : mg ("law" : Str) = some (.ref f)) (c : Says ask w h K) : ∀ base : Heap, FnG P w K mg base (L2.CX P w) 3 f (Y.spLawT K) := by
  have T := tx_of X G c
  have e2 : f = He.ga K "law" := by
    have e3 := hfa.symm.trans T.g_law
    injection e3 with e4
    injection e4
  rw [e2]
  exact ok_law T
end K94
end
open PySem PySem.W PySem.Calls PyProof.Rows
theorem PySem.Challenge.cw_carpets_k94_kinds_of_errors_holds : PySem.Challenge.rw_carpets_k94_kinds_of_errors.Holds := by
  w_on; o_law
  refine HandSHeadRun.head_any (r := K94.R) (q := K94.qv) (H := K94.hk) (ob := K94.ob) (M := 12000) (loose := K94.loose) (d := HandSHeadRun.topDef K94.R.prog 22) (kwd := []) K94.ob_eq
    (by kernel_rfl) (fun s => by kernel_rfl) K94.run (by kernel_rfl) (by kernel_rfl) (by kernel_rfl) (by rfl) (by first | assumption | decide +kernel) (by decide +kernel) ⟨rfl, rfl, rfl, rfl, rfl, by decide +kernel⟩ ?hw ?hc
  case hw => w_witness2
  case hc =>
    refine Z.walk_G (l := PySem.Challenge.rw_carpets_k94_kinds_of_errors) (n := 63) (k := 3) (CX := fun w => L2.CX PySem.Challenge.rw_carpets_k94_kinds_of_errors.prog w) rfl (by decide) (by kernel_rfl) ⟨rfl, by decide, by decide⟩ ?F (Z.cx_no (P := fun _ => PySem.Challenge.rw_carpets_k94_kinds_of_errors.prog))
    intro w mg fa h Y G hmg0
    obtain ⟨K, KX, c⟩ := Y
    have hmg : mg ("law" : PySem.Str) = some (.ref fa) := by
      have e : (HandSHeadRun.topDef K94.R.prog 22).name = ("law" : PySem.Str) := by kernel_rfl
      rw [← e]
      exact hmg0
    have hF := K94.facts (P := PySem.Challenge.rw_carpets_k94_kinds_of_errors.prog) (w := w) KX G hmg c
    obtain ⟨t1, t2, t3⟩ := Y.cs_says KX c rfl
    exact ⟨K, KX, Y.csOf K, Y.spLawT K, t1, t2, t3, fun H a ns hl hT hS => ⟨_, rfl, a, ns, rfl, hl, hS, Y.cs_tabs hT, fun _ => rfl⟩, fun base _ _ _ => hF base⟩
