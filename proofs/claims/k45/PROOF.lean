import PyProof.Rows.All
import Wide.All
import OpenK.AllK
import Wide.FinOn
import KE.KStateDown
import HandS.ForMost
import HandS.Exc
import HandS.TryOnly
import HandS.Defaults
import HandS.MakeKw
import HandS.MakeKwOnly
import HandS.Property
import HandS.IsInst
import HandS.Style
import HandS.Flow
import HandS.FStr
import HandS.IntHex
import HandS.SetBool
import HandS.Deep
import HandS.Walk
import HandS.Wide
import HandS.Replace
import HandS.Head0
import HandS.Head1
import HandS.Head2
import HandS.HeadEnd
import HandS.HeadHook1
import HandS.HeadHook2
import KE.GoesMore
import HandS.SetKeys
import PySem.Challenge.RW_piecetexts_k45_whole_spelled_texts_read
import KE.KEqSeq
set_option Elab.async false
set_option linter.all false
set_option maxRecDepth 100000
set_option maxHeartbeats 4000000
section
/-! Pt: what every claim over this program leans on: the head's facts by functions of the written part. -/
namespace Pt
open PySem PySem.Spec PyProof.Rows L2

/-! ### the head's facts -/
abbrev Fg := PySem.W.Frag
/-- a def: where it stands, its names, its statement, its defaults -/
structure DA where
  adr : Fg → Addr
  name : Str
  qual : Str
  st : Stmt
  dfl : List He.Dv := []
  kwd : List (Str × He.Dv) := []
def fnA (K : Fg) (a : Addr) : He.FnW := match K.lookup a with
  | some o => (match o.data with
    | .func z => some (z.name, z.qualname, z.params, z.body, z.scope, z.globals, z.closure, z.builtins)
    | _ => none)
  | none => none
def fdA (K : Fg) (a : Addr) : Option FuncData := match K.lookup a with
  | some o => (match o.data with
    | .func z => some z
    | _ => none)
  | none => none
def DA.val (d : DA) : He.FnW := some (d.name, d.qual, defArgs d.st, .stmts (defBody d.st), defScope d.st, mainGlobals, [], builtinsNs)
def DA.dvs (K : Fg) (d : DA) : List V := d.dfl.map (He.Dv.v K)
def DA.kws (K : Fg) (d : DA) : List (Str × V) := d.kwd.map fun q => (q.1, q.2.v K)
def DA.ok (K : Fg) (d : DA) : Bool := PySem.W.keepIn K (.ref (d.adr K)) && (match fdA K (d.adr K) with
  | some z => PySem.W.codeIn K z.code d.qual && (He.dflB K z.defaults (d.dvs K) && He.kwdB K z.kwdefaults (d.kws K))
  | none => false)
/-- the def as it stands -/
abbrev DA.Is (K : Fg) (d : DA) (z : FuncData) : Prop := FunD K d.name d.qual (defArgs d.st) (defBody d.st) (defScope d.st) (d.dvs K) (d.kws K) (d.adr K) z
theorem DA.is_of {K : Fg} {d : DA} (e : fnA K (d.adr K) = d.val) (c : d.ok K = true) : ∃ z, d.Is K z := by
  obtain ⟨kp, c⟩ := He.ba c
  unfold fnA at e
  unfold fdA at c
  cases q : K.lookup (d.adr K) with
  | none => rw [q] at c; cases c
  | some o =>
    obtain ⟨oc, od, dt, osl⟩ := o
    rw [q] at c e
    cases dt with
    | func z =>
      obtain ⟨z1, z2, z3, z4, z5, z6, z7, z8, z9, z10, z11, z12, z13, z14, z15⟩ := z
      obtain ⟨c1, c⟩ := He.ba c
      obtain ⟨c2, c3⟩ := He.ba c
      simp only [DA.val, Option.some.injEq, Prod.mk.injEq] at e
      obtain ⟨rfl, rfl, rfl, rfl, rfl, rfl, rfl, rfl⟩ := e
      exact ⟨_, ⟨⟨oc, od, _, _, _, _, _, _, _, osl, rfl, q, c1, He.dflB_ok c2, He.kwdB_ok c3⟩, kp⟩⟩
    | _ => cases c
/-- what is told of the written part -/
def Says (fa : List (Fg → Bool)) (ds : List DA) (K : Fg) : Prop := ((fa.all fun f => f K) && ds.all fun d => d.ok K) = true ∧ ds.map (fun d => fnA K (d.adr K)) = ds.map DA.val
abbrev Ob : Type := Bool × List He.FnW
/-! the objects that are looked at: the module's names xs, the classes among them with what stands in them, getters, code, defaults -/
def gaG (g : Addr → Option Obj) (x : Str) : List Addr := match g mainGlobals with
  | some o => (match o.data with
    | .dict es _ => (match es.toList.find? fun e => e.key.isStr x with
      | some e => He.refV e.val
      | none => [])
    | _ => [])
  | none => []
def clR (g : Addr → Option Obj) (a : Addr) : List Addr := match g a with
  | some o => (match o.data with
    | .cls cd => cd.ns :: cd.mro.flatMap He.refV
    | _ => [])
  | none => []
def nsR (g : Addr → Option Obj) (a : Addr) : List Addr := match g a with
  | some o => (match o.data with
    | .dict es _ => es.toList.flatMap fun e => He.refV e.val
    | _ => [])
  | none => []
def prR (g : Addr → Option Obj) (a : Addr) : List Addr := match g a with
  | some o => (match o.data with
    | .fields vs => vs.toList.flatMap He.refV
    | _ => [])
  | none => []
def fnR (g : Addr → Option Obj) (a : Addr) : List Addr := match g a with
  | some o => (match o.data with
    | .func z => He.refV z.code ++ (He.refV z.defaults ++ He.refV z.kwdefaults)
    | _ => [])
  | none => []
/-- l's items made plain, then k -/
def forced {β : Type} (l : List Addr) (k : List Addr → β) : β := match l with
  | [] => k []
  | a :: r => HandSHeadRun.frNat a fun a => forced r fun r => k (a :: r)
theorem forced_eq {β : Type} : ∀ (l : List Addr) (k : List Addr → β), forced l k = k l
  | [], k => rfl
  | a :: r, k => by
    show HandSHeadRun.frNat a (fun a => forced r fun r => k (a :: r)) = _
    rw [HandSHeadRun.frNat_eq, forced_eq r]
def seen {β : Type} (g : Addr → Option Obj) (xs cs : List Str) (k : List Addr → β) : β :=
  forced (xs.flatMap (gaG g)) fun l1 =>
  forced (cs.flatMap (gaG g)) fun c0 =>
  forced (c0.flatMap (clR g)) fun c1 =>
  forced (c1.flatMap (clR g)) fun c2 =>
  forced (c2.flatMap (nsR g) ++ c1.flatMap (nsR g)) fun m1 =>
  forced (m1.flatMap (prR g)) fun m2 =>
  forced ((l1 ++ m1 ++ m2).flatMap (fnR g)) fun f1 =>
  forced ((mainGlobals :: c0 ++ c1 ++ c2 ++ m1 ++ m2 ++ l1 ++ f1).eraseDups) k
def obK (fa : List (Fg → Bool)) (ds : List DA) (K : Fg) : Ob := (((fa.all fun f => f K) && ds.all fun d => d.ok K), ds.map fun d => fnA K (d.adr K))
def obs (xs cs : List Str) (fa : List (Fg → Bool)) (ds : List DA) (g : Addr → Option Obj) : Ob := seen g xs cs fun l => obK fa ds (He.frG g l)
theorem seen_eq {β : Type} (g : Addr → Option Obj) (xs cs : List Str) (k : List Addr → β) : seen g xs cs k = k (seen g xs cs fun l => l) := by
  simp only [seen, forced_eq]
def hook (xs cs : List Str) (fa : List (Fg → Bool)) (ds : List DA) : PySem.W.Hook where
  α := Ob
  obs := fun s => obs xs cs fa ds s.heap.get?
  val := fun _ => (true, ds.map DA.val)
  says := fun _ h => ∃ K : Fg, K.In h ∧ Says fa ds K
  of := fun _ s e => by
    have e2 : obK fa ds (He.frG s.heap.get? (seen s.heap.get? xs cs fun l => l)) = (true, ds.map DA.val) := (seen_eq s.heap.get? xs cs fun l => obK fa ds (He.frG s.heap.get? l)).symm.trans e
    exact ⟨_, He.frG_in, congrArg Prod.fst e2, congrArg Prod.snd e2⟩
  keeps := fun _ _ _ ⟨K, hK, c⟩ k => ⟨K, PySem.W.Frag.In.keeps hK k, c⟩
theorem obs_eq {xs cs : List Str} {fa : List (Fg → Bool)} {ds : List DA} {g : Addr → Option Obj} {s : Shared} (h : ∀ a, g a = s.heap.get? a) : obs xs cs fa ds g = (hook xs cs fa ds).obs s := by
  have e : g = s.heap.get? := funext h
  rw [e]; rfl
theorem Says.fact {fa : List (Fg → Bool)} {ds : List DA} {K : Fg} (c : Says fa ds K) (i : Nat) {f : Fg → Bool} (h : fa[i]? = some f := by rfl) : f K = true :=
  List.all_eq_true.mp (He.ba c.1).1 f (List.mem_of_getElem? h)
theorem Says.df {fa : List (Fg → Bool)} {ds : List DA} {K : Fg} (c : Says fa ds K) (i : Nat) {d : DA} (h : ds[i]? = some d := by rfl) : ∃ z, d.Is K z := by
  have e2 : (ds.map fun d => fnA K (d.adr K))[i]? = (ds.map DA.val)[i]? := by rw [c.2]
  rw [List.getElem?_map, List.getElem?_map, h] at e2
  exact DA.is_of (Option.some.inj e2) (List.all_eq_true.mp (He.ba c.1).2 d (List.mem_of_getElem? h))
/-- one kind of facts: those of He.Fa -/
def fx (f : He.Fa) : Fg → Bool := fun K => f.ok K
/-! a property: its record, its getter -/
def pad (C : Str) (f : Str) (K : Fg) : Addr := He.ma K (He.ga K C) f
def pget (C : Str) (f : Str) (K : Fg) : Addr := match PySem.W.recIn K (pad C f K) "property" with
  | some (.ref g :: _) => g
  | _ => 0
def prp (C : Str) (f : Str) : Fg → Bool := fun K => He.eqO (PySem.W.findIn K (.ref (He.ga K C)) f) (some (some (.ref (pad C f K)))) &&
  (He.eqO (PySem.W.specialIn K (.ref (pad C f K)) "__get__") (some (some (.builtin "property.__get__"))) && (decide (PySem.W.takesIn K (.ref (pad C f K)) = some true) &&
  (match PySem.W.recIn K (pad C f K) "property" with
    | some (.ref _ :: _) => true
    | _ => false)))
theorem prp_ok {K : Fg} {C f : Str} (h : prp C f K = true) : PropOf K (He.ga K C) f (pad C f K) (pget C f K) := by
  obtain ⟨h1, h⟩ := He.ba h
  obtain ⟨h2, h⟩ := He.ba h
  obtain ⟨h3, h4⟩ := He.ba h
  refine ⟨He.eqO_ok h1, He.eqO_ok h2, of_decide_eq_true h3, ?_⟩
  unfold pget
  split at h4
  · rename_i g r e
    exact ⟨r, by rw [e]⟩
  · cases h4
/-! a class that is own, seen by isinstance -/
structure Iso (K : Fg) (C : Addr) : Prop where
  at_ : PySem.W.findIn K (.ref C) "__class__" = some (some (.builtin "object.__class__"))
  get : PySem.W.specialIn K (.builtin "object.__class__") "__get__" = some (some (.builtin "getset_descriptor.__get__"))
  tak : PySem.W.takesIn K (.builtin "object.__class__") = some true
  mro : PySem.W.mroIn K C (.type "object") = some true
def isoB (C : Str) : Fg → Bool := fun K => He.eqO (PySem.W.findIn K (.ref (He.ga K C)) "__class__") (some (some (.builtin "object.__class__"))) &&
  (He.eqO (PySem.W.specialIn K (.builtin "object.__class__") "__get__") (some (some (.builtin "getset_descriptor.__get__"))) && (decide (PySem.W.takesIn K (.builtin "object.__class__") = some true) &&
  decide (PySem.W.mroIn K (He.ga K C) (.type "object") = some true)))
theorem isoB_ok {K : Fg} {C : Str} (h : isoB C K = true) : Iso K (He.ga K C) := by
  obtain ⟨h1, h⟩ := He.ba h
  obtain ⟨h2, h⟩ := He.ba h
  obtain ⟨h3, h4⟩ := He.ba h
  exact ⟨He.eqO_ok h1, He.eqO_ok h2, of_decide_eq_true h3, of_decide_eq_true h4⟩
def fAdr (C m : Str) (K : Fg) : Addr := He.ma K (He.ga K C) m
def gAdr (x : Str) (K : Fg) : Addr := He.ga K x
/-! ### a def's promise, packed -/
/-- the def keeps the promise sp, at level k; dvs fill up behind the arguments that are written -/
structure Fok (P : Program) (w : World) (K : Fg) (mg : Str → Option Value) (base : Heap) (k : Nat) (d : DA) (ps : List Str) (dvs : List V) (sp : Sp) : Prop where
  ex : ∃ fd ds, FnOk P w K mg base CX0 k (d.adr K) fd ps sp ∧ Vals dvs ds ∧ Binds K fd ps ds
  kp : PySem.W.keepIn K (.ref (d.adr K)) = true
section
variable {P : Program} {w : World} {K : Fg} {mg : Str → Option Value} {base : Heap}
/-- the rule of a def without defaults -/
theorem fok {d : DA} {N ps : List Str} {k : Nat} {sp : Sp} (z : ∃ z, FunD K d.name d.qual (defArgs d.st) (defBody d.st) (defScope d.st) [] [] (d.adr K) z) (S : FnScope N ps (defScope d.st)) (len : ∀ vs H Q E, sp vs H Q E → vs.length = ps.length)
    (bd : ∀ (kV doc pm : Value) (an : Option Addr) (cdv ct : Value) (us : List Value), us.length = ps.length → bindArgs (PySem.W.fnOf d.name d.qual (defArgs d.st) (defBody d.st) (defScope d.st) .none kV doc pm an cdv ct) ⟨us, []⟩ = pure (ps.zip us))
    (body : ∀ (cdv : Value) (A : Around) (outer : List Env) (s : Shared) (H : Hp) (vs : List V) (Q : VK) (E : XK), Room k (A.deeper (envOfC d.qual (defScope d.st) s.heap.objs.size (d.adr K) cdv)) → sp vs H Q E →
      ∃ t, PSs (cxOf CX0 P w K mg base N d.qual (defScope d.st) (d.adr K) cdv A outer s H E).nox (defBody d.st) t ∧ t { nx := fun _ H' => Q .non H', rt := Q } (start N vs) H) : Fok P w K mg base (k + 1) d ps [] sp := by
  obtain ⟨z, F⟩ := z
  refine ⟨⟨z, [], F.ok S len fun cdv A outer s H vs Q E hr h => ?_, .nil, F.bindsN bd⟩, F.kp⟩
  obtain ⟨t, h1, h2⟩ := body cdv A outer s H vs Q E hr h
  exact ⟨t, h1.nox, h2⟩
end
section
variable {X : Cx} {d : DA} {k : Nat} {ps : List Str} {dvs : List V} {sp : Sp} {x m : Str} {p pos apos : Pos} {e o : Expr} {es : List Expr} {t : TA} {te : TE} {C : Addr}
/-- f(e, ..) -/
theorem pe_cF (F : Fok X.prog X.w X.K X.mg X.base k d ps dvs sp) (hr : Room k X.A) (hm : X.mg x = some (.ref (d.adr X.K))) (ha : PA X (e :: es) t) (hg : Gl X x := by rfl)
    (hdb : (x == ("__debug__" : Str)) = false := by decide) (he : starEach (e :: es) X.env = (false, eval e X.env) :: starEach es X.env := by rfl) (hpl : (backTo pos (starEach es X.env)).any (·.1) = false := by rfl) :
    PE X (.Call (.Name x p) (e :: es) [] pos) (tCall sp dvs E0 t) := by
  obtain ⟨⟨fd, ds, F, hd, hb⟩, kp⟩ := F
  exact pe_call F hr hg hm kp hb hd pass0 ha hdb he hpl
theorem pe_cF0 (F : Fok X.prog X.w X.K X.mg X.base k d ps dvs sp) (hr : Room k X.A) (hm : X.mg x = some (.ref (d.adr X.K))) (hg : Gl X x := by rfl)
    (hdb : (x == ("__debug__" : Str)) = false := by decide) : PE X (.Call (.Name x p) [] [] pos) (tCall sp dvs E0 tNil) := by
  obtain ⟨⟨fd, ds, F, hd, hb⟩, kp⟩ := F
  exact pe_call0 F hr hg hm kp hb hd pass0 hdb
/-- o.m(e, ..) -/
theorem pe_mF {pl : Sem Bool} (F : Fok X.prog X.w X.K X.mg X.base k d ps dvs sp) (hr : Room k X.A) (c : Cls X.K C) (hm : Meth X.K C m (d.adr X.K)) (ho : PE X o te) (ha : PA X (e :: es) t)
    (hst : starEach (e :: es) X.env = (false, eval e X.env) :: starEach es X.env := by rfl) (hpl : (backTo pos (starEach es X.env)).any (·.1) = false := by rfl)
    (ht : eval (.Call (.Attribute o m apos) (e :: es) [] pos) X.env = (do
      let a ← eval o X.env
      standAt apos.atName
      let (f, first) ← holding [a] (getMethod a m pl)
      callWith pos f first (backTo pos (starEach (e :: es) X.env)) (backToKw pos (keywordEach [] X.env))) := by rfl) :
    PE X (.Call (.Attribute o m apos) (e :: es) [] pos) (tMeth C m sp dvs E0 te t) := by
  obtain ⟨⟨fd, ds, F, hd, hb⟩, kp⟩ := F
  exact pe_meth ho c hm F hr hb hd pass0 ha hst hpl ht
theorem pe_mF0 {pl : Sem Bool} (F : Fok X.prog X.w X.K X.mg X.base k d ps dvs sp) (hr : Room k X.A) (c : Cls X.K C) (hm : Meth X.K C m (d.adr X.K)) (ho : PE X o te)
    (ht : eval (.Call (.Attribute o m apos) [] [] pos) X.env = (do
      let a ← eval o X.env
      standAt apos.atName
      let (f, first) ← holding [a] (getMethod a m pl)
      callWith pos f first (backTo pos (starEach [] X.env)) (backToKw pos (keywordEach [] X.env))) := by rfl) :
    PE X (.Call (.Attribute o m apos) [] [] pos) (tMeth C m sp dvs E0 te tNil) := by
  obtain ⟨⟨fd, ds, F, hd, hb⟩, kp⟩ := F
  exact pe_meth0 ho c hm F hr hb hd pass0 ht
/-- o.f, a property -/
theorem pe_pF {f : Str} {p : Addr} (F : Fok X.prog X.w X.K X.mg X.base k d ps dvs sp) (hr : Room (k + 1) X.A) (c : Cls X.K C) (hp : PropOf X.K C f p (d.adr X.K)) (ho : PE X o te)
    (hab : attributeBase o f X.env (eval o X.env) = eval o X.env := by rfl) : PE X (.Attribute o f pos) (tProp C sp dvs E0 te) := by
  obtain ⟨⟨fd, ds, F, hd, hb⟩, kp⟩ := F
  exact pe_prop ho c hp F hr hb hd pass0 hab
/-! names of the module -/
theorem pe_gI {i : Int} (hm : ∃ t, X.mg x = some (.int i t)) (hg : Gl X x := by rfl) (hd : (x == ("__debug__" : Str)) = false := by decide) : PE X (.Name x pos) (tC (.int i)) := by
  obtain ⟨t, h⟩ := hm
  exact pe_glob hg h ⟨t, rfl⟩ hd
theorem pe_gS {z : Str} (hm : ∃ t, X.mg x = some (.str z t)) (hg : Gl X x := by rfl) (hd : (x == ("__debug__" : Str)) = false := by decide) : PE X (.Name x pos) (tC (.str z)) := by
  obtain ⟨t, h⟩ := hm
  exact pe_glob hg h ⟨t, rfl⟩ hd
theorem pe_gR {a : Addr} (hm : X.mg x = some (.ref a)) (hg : Gl X x := by rfl) (hd : (x == ("__debug__" : Str)) = false := by decide) : PE X (.Name x pos) (tC (.ref a)) := pe_glob hg hm rfl hd
theorem pe_tyN {n : String} (hm : X.mg x = none) (hv : bootBuiltins x = some (.type n)) (hg : Gl X x := by rfl) (hn : x ≠ "__name__" := by decide) (hd : (x == ("__debug__" : Str)) = false := by decide) : PE X (.Name x pos) (tC (.ty n)) :=
  pe_bltn hg hm hv rfl hn hd
end
end Pt
end
section
/-! formats of small ints: 02X, 08b -/
namespace Pt
open PySem PySem.Spec PyProof.Rows L2
open PySem.Builtin
open PySem.Builtin.Float (FormatSpec parseFormatSpec)
/-- a format by zeros from the left, of so many digits -/
def fsp (T w : Nat) : FormatSpec := { fill := 48, align := 61, width := some w, type := some T }
def dgs (T b n : Nat) : List Nat := (Nat.toDigits b n).map fun c => (if T == 88 then c.toUpper else c).toNat
def fmtOf (T b w n : Nat) : List Nat := List.replicate (w - (dgs T b n).length) 48 ++ dgs T b n
theorem parse_X : parseFormatSpec ("02X" : Str).cps.toList "int" 62 = .ok (fsp 88 2) := by first | rfl | kernel_rfl
theorem parse_b : parseFormatSpec ("08b" : Str).cps.toList "int" 62 = .ok (fsp 98 8) := by first | rfl | kernel_rfl
theorem dgs_ne {T b n : Nat} (h : (Nat.toDigits b n).isEmpty = false) : (dgs T b n).isEmpty = false := by
  unfold dgs
  cases e : Nat.toDigits b n with
  | nil => rw [e] at h; cases h
  | cons c r => rfl
section
variable {prog : Program} {w : World} {A : Around} {E : Value → Shared → Prop} {s : Shared}
theorem ret_go {M : Model} {x y : Str} {R : Fin → Shared → Prop} (e : x = y) (h : wpAny M A (retStr y) R E s) : wpAny M A (retStr x) R E s := e ▸ h
/-- a and the facts of a's format -/
theorem field_int {a : Int} {t : Tok} {z : Str} {T b wd : Nat} {Q : Value → Shared → Prop} (hT : (T = 88 ∧ b = 16) ∨ (T = 98 ∧ b = 2)) (h0 : 0 ≤ a) (hd : (Nat.toDigits b a.natAbs).isEmpty = false)
    (hp : parseFormatSpec z.cps.toList "int" 62 = .ok (fsp T wd)) (hz : (z.length == 0) = false) (hw : wd ≤ 1000)
    (hasc : ((z.cps.toList.drop 1).any (· ≥ 128) || (z.cps.getD 0 0 ≥ 128 && !([60, 62, 61, 94] : List Nat).contains (z.cps.getD 1 0))) = false)
    (hl : (fmtOf T b wd a.natAbs).length ≤ sizeLine) (hsz : z.length ≤ sizeLine)
    (h : Q (.str ⟨(fmtOf T b wd a.natAbs).toArray⟩ (s.toks + 1)) { s with toks := s.toks + 1 + 1 }) :
    wpAny (model prog w) A (formatField (.int a t) z) Q E s := by
  show wpAny _ _ (holding [.int a t] (pyFormat (.int a t) z)) Q E s
  have fin : intField' (fsp T wd) (decide (a < 0)) [] (dgs T b a.natAbs) [] 4 = ⟨(fmtOf T b wd a.natAbs).toArray⟩ := by
    rw [decide_eq_false (by omega : ¬ a < 0)]
    exact intField'_zero_nonneg (fsp T wd) _ 4 rfl rfl (dgs_ne hd) rfl rfl
  refine wpAny_holding ?_
  unfold pyFormat
  refine wpAny_bind (wpAny_mkStr ?_ hsz)
  refine wpAny_bind (m := callSpecial? (.int a t) (Str.ofString "__format__") [.str z s.toks]) (wpAny_callSpecial?_slot (name := Str.ofString "__format__") (typeIs_int _ a t) slot_int_format ?_)
  refine wpAny_call (codeAny_call_builtin slot_int_format.plain entry_int_format (slot_int_format.check _ _ _ _ _ _ _ _ (typeIs_int _ a t) (args_int_format _ _) ?_))
  unfold PySem.Builtin.«int.__format__»
  simp only [selfAndOne, noKeywords, Int.intOfSelf, asInt?, asStr?, List.isEmpty_nil, if_true, pure_bind, bind_pure, bind_assoc, hz, hasc, Bool.false_eq_true, if_false,
    show (Value.str z s.toks == Value.none) = false from rfl]
  refine wpAny_bind (wpAny_typeNameOf (T := "str") (typeIs_str _ _ _) (by decide) fun _ => ?_)
  first | refine wpAny_bind (wpAny_typeNameOfCut_int ?_) | refine wpAny_bind (wpAny_typeNameOf_int ?_)
  simp only [hp, fsp, Option.getD_some]
  rcases hT with ⟨rfl, rfl⟩ | ⟨rfl, rfl⟩
  all_goals
    rw [if_pos (by decide)]
    show wpAny _ _ (if _ then _ else _) _ _ _
    rw [if_neg (by show ¬ (wd > 100000); omega)]
    refine ret_go fin ?_
    unfold retStr
    refine wpAny_bind (wpAny_mkStr (wpAny_pure ?_) hl)
    dsimp only
    refine wpAny_bind (wpAny_isInstance (typeIs_str _ _ _) isSubtype_str_str (wpAny_pure ?_))
    exact h
end
/-- a text by its codes -/
abbrev S (l : List Nat) : Str := ⟨l.toArray⟩
def hexd (n : Nat) : Nat := if n < 10 then 48 + n else 55 + n
def hex2 (n : Nat) : List Nat := [hexd (n / 16), hexd (n % 16)]
def bin8 (n : Nat) : List Nat := [48 + n / 128 % 2, 48 + n / 64 % 2, 48 + n / 32 % 2, 48 + n / 16 % 2, 48 + n / 8 % 2, 48 + n / 4 % 2, 48 + n / 2 % 2, 48 + n % 2]
theorem hex_all : ∀ n : Fin 256, fmtOf 88 16 2 n.1 = hex2 n.1 ∧ (Nat.toDigits 16 n.1).isEmpty = false := by decide +kernel
theorem bin_all : ∀ n : Fin 256, fmtOf 98 2 8 n.1 = bin8 n.1 ∧ (Nat.toDigits 2 n.1).isEmpty = false := by decide +kernel
/-- {e:..} of a byte -/
def tFmt8 (f : Nat → List Nat) (te : TE) : TE := fun σ H Q => te σ H fun x H1 => ∃ n : Nat, x = .int n ∧ n < 256 ∧ Q (.str (S (f n))) H1
section
variable {X : Cx} {e : Expr} {te : TE} {j : Nat} {q1 q2 pos : Pos}
theorem pe_fmtX (he : PE X e te) : PE X (.FormattedValue e (-1) (some (.JoinedStr [.Constant (.str "02X") j q1] q2)) pos) (tFmt8 hex2 te) := by
  refine ⟨fun pins s σ H Q I h => wpAny_FormattedValue_spec (thn (he.run pins s σ H _ I h) fun v s1 ⟨x, H1, I1, r1, n, e1, hn, q⟩ => ?_)⟩
  subst e1
  obtain ⟨t, rfl⟩ := r1
  refine thn ((pe_joined1 (X := X) (pos := q2) (pe_str (x := "02X") (j := j) (pos := q1))).run pins s1 σ H1 (fun y H2 => y = .str "02X" ∧ H2 = H1) I1 ⟨rfl, rfl⟩) fun u s2 ⟨y, H2, I2, r2, e2, e3⟩ => ?_
  subst e2 e3
  obtain ⟨t2, rfl⟩ := r2
  obtain ⟨k1, k2⟩ := hex_all ⟨n, hn⟩
  dsimp only at k1 k2
  refine ⟨_, _, rfl, field_int (T := 88) (b := 16) (wd := 2) (.inl ⟨rfl, rfl⟩) (Int.natCast_nonneg n) (by rw [Int.natAbs_natCast]; exact k2) parse_X (by decide +kernel) (by decide) (by decide +kernel) ?_ (by decide +kernel) ?_⟩
  · rw [Int.natAbs_natCast, k1]; show 2 ≤ sizeLine; decide
  · rw [Int.natAbs_natCast, k1]
    exact ⟨.str (S (hex2 n)), H2, I2.tok _, ⟨_, rfl⟩, q⟩
theorem pe_fmtB (he : PE X e te) : PE X (.FormattedValue e (-1) (some (.JoinedStr [.Constant (.str "08b") j q1] q2)) pos) (tFmt8 bin8 te) := by
  refine ⟨fun pins s σ H Q I h => wpAny_FormattedValue_spec (thn (he.run pins s σ H _ I h) fun v s1 ⟨x, H1, I1, r1, n, e1, hn, q⟩ => ?_)⟩
  subst e1
  obtain ⟨t, rfl⟩ := r1
  refine thn ((pe_joined1 (X := X) (pos := q2) (pe_str (x := "08b") (j := j) (pos := q1))).run pins s1 σ H1 (fun y H2 => y = .str "08b" ∧ H2 = H1) I1 ⟨rfl, rfl⟩) fun u s2 ⟨y, H2, I2, r2, e2, e3⟩ => ?_
  subst e2 e3
  obtain ⟨t2, rfl⟩ := r2
  obtain ⟨k1, k2⟩ := bin_all ⟨n, hn⟩
  dsimp only at k1 k2
  refine ⟨_, _, rfl, field_int (T := 98) (b := 2) (wd := 8) (.inr ⟨rfl, rfl⟩) (Int.natCast_nonneg n) (by rw [Int.natAbs_natCast]; exact k2) parse_b (by decide +kernel) (by decide) (by decide +kernel) ?_ (by decide +kernel) ?_⟩
  · rw [Int.natAbs_natCast, k1]; show 8 ≤ sizeLine; decide
  · rw [Int.natAbs_natCast, k1]
    exact ⟨.str (S (bin8 n)), H2, I2.tok _, ⟨_, rfl⟩, q⟩
end
end Pt
end
section
/-! readings as equations, for simp; texts by their codes -/
namespace Pt
open PySem PySem.Spec PyProof.Rows L2
/-! ### texts -/
abbrev vs (l : List Nat) : V := .str (S l)
abbrev vi (n : Nat) : V := .int (n : Int)
theorem S_inj {a b : List Nat} : (S a = S b) = (a = b) := by
  refine propext ⟨fun h => ?_, fun h => by rw [h]⟩
  have e := congrArg (fun z : Str => z.cps.toList) h
  exact e
theorem S_app (a b : List Nat) : S a ++ S b = S (a ++ b) := by
  show (⟨a.toArray ++ b.toArray⟩ : Str) = ⟨(a ++ b).toArray⟩
  simp
theorem S_len (a : List Nat) : (S a).length = a.length := by
  show a.toArray.size = _
  simp
theorem S_list (a : List Nat) : (S a).cps.toList = a := rfl
theorem S_get (a : List Nat) (i : Nat) : (S a).cps[i]? = a[i]? := by simp
theorem S_one (c : Nat) : (⟨#[c]⟩ : Str) = S [c] := rfl
theorem S_empty : Str.empty = S [] := rfl
theorem lit_no : Str.ofString "" = S [] := by decide +kernel
theorem lit_sp : Str.ofString " " = S [32] := by decide +kernel
theorem lit_nl : Str.ofString "\n" = S [10] := by decide +kernel
theorem lit_eq : Str.ofString "=" = S [61] := by decide +kernel
/-- how long a text or list may be here -/
abbrev Sz {α : Type} (l : List α) : Prop := l.length ≤ 1000000
theorem Sz.line {α : Type} {l : List α} (h : Sz l) : l.length ≤ 16777216 := Nat.le_trans h (by decide)
theorem S_of (z : Str) : S z.cps.toList = z := rfl
theorem cut_nat (l : List Nat) (a b : Option Nat) : cutS (S l) (a.map Int.ofNat) (b.map Int.ofNat) = S ((l.take (min (b.getD l.length) l.length)).drop (min (a.getD 0) l.length)) := by
  unfold cutS
  have e1 : ∀ (n d : Nat) (o : Option Nat), d ≤ n → HT.sIx n d (o.map Int.ofNat) = min (o.getD d) n := by
    intro n d o h
    cases o with
    | none => simp [HT.sIx]; omega
    | some k => exact HT.sIx_nat n d k
  rw [S_len, e1 _ _ _ (Nat.zero_le _), e1 _ _ _ (Nat.le_refl _), S_list]
  congr 1
  rw [List.drop_take]
theorem cut_lo {l : List Nat} : cutS (S l) (some 1) none = S (l.drop 1) := by
  have h := cut_nat l (some 1) none
  simp at h
  rw [h]
  cases l with
  | nil => rfl
  | cons x r => simp
theorem cut_hi {l : List Nat} : cutS (S l) none (some 1) = S (l.take 1) := by
  have h := cut_nat l none (some 1)
  simp at h
  rw [h]
  cases l with
  | nil => rfl
  | cons x r => simp
/-! ### isinstance -/
section
variable {K : Fg} {H : Hp} {Q : VK}
theorem isi_of {x c : V} {t u : Value} {b : Bool} (hc : ClsV c u) (hx : TyX K H x t) (hk : PySem.W.kitOne K t u = some b) (h : Q (.bl b) H) : rIsi K [x, c] H Q := ⟨x, c, t, u, b, rfl, hc, hx, hk, h⟩
theorem kitB_fun {a b : String} {x y : Bool} (h : kitB a b = some x) (h' : kitB a b = some y) : x = y := Option.some.inj (h.symm.trans h')
theorem rIsi_ty {x : V} {m n : String} (hx : TyX K H x (.type m)) (u : ∀ t, TyX K H x t → t = .type m) : rIsi K [x, .ty n] H Q = ∃ b, kitB m n = some b ∧ Q (.bl b) H := by
  refine propext ⟨?_, fun ⟨b, h1, h2⟩ => isi_of (.ty n) hx (kit_ty h1) h2⟩
  rintro ⟨x', c, t, v, b, e, hc, ht, hk, q⟩
  simp only [List.cons.injEq, and_true] at e
  obtain ⟨e1, e2⟩ := e
  subst e1 e2
  cases hc
  cases u t ht
  exact ⟨b, hk, q⟩
theorem rIsi_int {i : Int} {n : String} : rIsi K [.int i, .ty n] H Q = ∃ b, kitB "int" n = some b ∧ Q (.bl b) H :=
  rIsi_ty (.base (.int i)) fun t h => by cases h with | base h => cases h; rfl
theorem rIsi_bl {i : Bool} {n : String} : rIsi K [.bl i, .ty n] H Q = ∃ b, kitB "bool" n = some b ∧ Q (.bl b) H :=
  rIsi_ty (.base (.bl i)) fun t h => by cases h with | base h => cases h; rfl
theorem rIsi_str {i : Str} {n : String} : rIsi K [.str i, .ty n] H Q = ∃ b, kitB "str" n = some b ∧ Q (.bl b) H :=
  rIsi_ty (.base (.str i)) fun t h => by cases h with | base h => cases h; rfl
theorem rIsi_non {n : String} : rIsi K [.non, .ty n] H Q = ∃ b, kitB "NoneType" n = some b ∧ Q (.bl b) H :=
  rIsi_ty (.base .non) fun t h => by cases h with | base h => cases h; rfl
theorem kit_ii : kitB "int" "int" = some true := by decide +kernel
theorem kit_ib : kitB "int" "bool" = some false := by decide +kernel
theorem kit_is : kitB "int" "str" = some false := by decide +kernel
theorem kit_bi : kitB "bool" "int" = some true := by decide +kernel
theorem kit_bb : kitB "bool" "bool" = some true := by decide +kernel
theorem kit_bs : kitB "bool" "str" = some false := by decide +kernel
theorem kit_si : kitB "str" "int" = some false := by decide +kernel
theorem kit_sb : kitB "str" "bool" = some false := by decide +kernel
theorem kit_ss : kitB "str" "str" = some true := by decide +kernel
theorem kit_ni : kitB "NoneType" "int" = some false := by decide +kernel
theorem kit_nb : kitB "NoneType" "bool" = some false := by decide +kernel
theorem kit_ns : kitB "NoneType" "str" = some false := by decide +kernel
end
/-! ### promises of plain defs -/
def spI (f : Int → V) : Sp := fun us H Q _ => ∃ i, us = [.int i] ∧ Q (f i) H
def spIII (f : Int → Int → Int → V) : Sp := fun us H Q _ => ∃ i j k, us = [.int i, .int j, .int k] ∧ Q (f i j k) H
def spS (pre : List Nat → Prop) (f : List Nat → V) : Sp := fun us H Q _ => ∃ l, us = [.str (S l)] ∧ pre l ∧ Q (f l) H
def spN (f : Nat → V) : Sp := fun us H Q _ => ∃ n, us = [vi n] ∧ n < 256 ∧ Q (f n) H
def spC (f : Nat → V) : Sp := fun us H Q _ => ∃ c, us = [Pt.vs [c]] ∧ Q (f c) H
section
variable {H : Hp} {Q : VK} {E : XK}
theorem rd_spN {f : Nat → V} {n : Nat} : spN f [.int (n : Int)] H Q E = (n < 256 ∧ Q (f n) H) := by
  refine propext ⟨?_, fun h => ⟨_, rfl, h⟩⟩
  rintro ⟨m, e, q⟩
  simp at e
  have e2 : n = m := by omega
  subst e2; exact q
theorem rd_spC {f : Nat → V} {c : Nat} : spC f [.str (S [c])] H Q E = Q (f c) H := by
  refine propext ⟨?_, fun h => ⟨_, rfl, h⟩⟩
  rintro ⟨m, e, q⟩
  simp [S_inj] at e
  subst e; exact q
theorem rd_spI {f : Int → V} {i : Int} : spI f [.int i] H Q E = Q (f i) H := by
  refine propext ⟨?_, fun h => ⟨_, rfl, h⟩⟩
  rintro ⟨i, e, q⟩
  cases e; exact q
theorem rd_spIII {f : Int → Int → Int → V} {i j k : Int} : spIII f [.int i, .int j, .int k] H Q E = Q (f i j k) H := by
  refine propext ⟨?_, fun h => ⟨_, _, _, rfl, h⟩⟩
  rintro ⟨i, j, k, e, q⟩
  cases e; exact q
theorem rd_spS {pre : List Nat → Prop} {f : List Nat → V} {l : List Nat} : spS pre f [.str (S l)] H Q E = (pre l ∧ Q (f l) H) := by
  refine propext ⟨?_, fun h => ⟨_, rfl, h⟩⟩
  rintro ⟨m, e, q⟩
  have e2 : S l = S m := by simpa using e
  rw [S_inj] at e2
  subst e2; exact q
end
theorem cx_K {CX : CXT} {P : Program} {w : World} {K : Fg} {mg : Str → Option Value} {base : Heap} {N : List Str} {q : Str} {sc : Scope} {f : Addr} {cd : Value} {A : Around} {o : List Env} {s : Shared} {H : Hp} {E : XK} :
    (cxOf CX P w K mg base N q sc f cd A o s H E).K = K := rfl
theorem gc_cons {t : TG} {u : TGs} {x : V} {r : List V} {σ : L2.St} {H : Hp} {Q : L2.St → Hp → Prop} : gCons t u (x :: r) σ H Q = t x σ H fun σ' H' => u r σ' H' Q := by
  refine propext ⟨?_, fun h => ⟨_, _, rfl, h⟩⟩
  rintro ⟨v, z, e, h⟩
  cases e; exact h
theorem gn_nil {σ : L2.St} {H : Hp} {Q : L2.St → Hp → Prop} : gNil [] σ H Q = Q σ H := propext ⟨fun h => h.2, fun h => ⟨rfl, h⟩⟩
theorem ex2 {α β : Type} {a : α} {b : β} {p : α → β → Prop} : (∃ x y, (a = x ∧ b = y) ∧ p x y) = p a b :=
  propext ⟨fun ⟨x, y, ⟨h1, h2⟩, h⟩ => by subst h1 h2; exact h, fun h => ⟨a, b, ⟨rfl, rfl⟩, h⟩⟩
theorem ex3 {α β γ : Type} {a : α} {b : β} {c : γ} {p : α → β → γ → Prop} : (∃ x y z, (a = x ∧ b = y ∧ c = z) ∧ p x y z) = p a b c :=
  propext ⟨fun ⟨x, y, z, ⟨h1, h2, h3⟩, h⟩ => by subst h1 h2 h3; exact h, fun h => ⟨a, b, c, ⟨rfl, rfl, rfl⟩, h⟩⟩
theorem ex2b {α β : Type} {a : α} {b : β} {p : α → β → Prop} : (∃ x y, a = x ∧ b = y ∧ p x y) = p a b :=
  propext ⟨fun ⟨x, y, h1, h2, h⟩ => by subst h1 h2; exact h, fun h => ⟨a, b, rfl, rfl, h⟩⟩
/-! ### what a def hands back -/
/-- a new tuple -/
def NewT (H : Hp) (xs : List V) (Q : VK) : Prop := ∀ p H', Same H H' → H' p = some (.tup xs) → Q (.ref p) H'
def NewL (H : Hp) (xs : List V) (Q : VK) : Prop := ∀ p H', Same H H' → H' p = some (.lst xs) → Q (.ref p) H'
/-- a value, what was tracked stands -/
def Val (H : Hp) (v : V) (Q : VK) : Prop := ∀ H', Same H H' → Q v H'
theorem same_upd {H : Hp} {p : Addr} {o : HO} (h : H p = none) : Same H (upd H p o) := fun b u e => by rw [upd_ne (ne_of_none e h)]; exact e
theorem same_put {H H' : Hp} {p : Addr} {o : HO} (h : H p = none) (s : Same H H') : Same H (upd H' p o) := fun b u e => by rw [upd_ne (ne_of_none e h)]; exact s b u e
theorem NewT.of {H : Hp} {xs : List V} {Q : VK} (h : NewT H xs Q) {p : Addr} (hp : H p = none) : Q (.ref p) (upd H p (.tup xs)) := h p _ (same_upd hp) upd_same
theorem NewL.of {H : Hp} {xs : List V} {Q : VK} (h : NewL H xs Q) {p : Addr} (hp : H p = none) : Q (.ref p) (upd H p (.lst xs)) := h p _ (same_upd hp) upd_same
/-! loops by their turns -/
theorem for_n {J : It} {n : Nat} {g : TG} {tb : TS} {D : Ends} {σ : L2.St} {H1 : Hp} (Pv : Nat → L2.St → Hp → Prop) (h0 : Pv 0 σ H1) (hgo : ∀ i σ H, i < n → Pv i σ H → J.go i H) (hst : ∀ σ H, Pv n σ H → J.stop n H)
    (hs : ∀ i σ H x H', i < n → Pv i σ H → J.yld i H x H' → g x σ H' fun σ2 H2 => tb { D with nx := Pv (i + 1), ct := Pv (i + 1), bk := D.nx } σ2 H2) (hd : ∀ σ H, Pv n σ H → D.nx σ H) :
    ∃ W : Nat → Nat → L2.St → Hp → Prop, (∃ m, W 0 m σ H1) ∧ ∀ i m σ H, W i m σ H → (J.stop i H ∧ D.nx σ H) ∨ (J.go i H ∧ ∃ Nx : L2.St → Hp → Prop, (∀ σ' H', Nx σ' H' → ∃ m', m' < m ∧ W (i + 1) m' σ' H') ∧
      ∀ x H', J.yld i H x H' → g x σ H' fun σ2 H2 => tb { D with nx := Nx, ct := Nx, bk := D.nx } σ2 H2) := by
  refine ⟨fun i m σ H => m = n - i ∧ i ≤ n ∧ Pv i σ H, ⟨n, by simp, Nat.zero_le _, h0⟩, ?_⟩
  rintro i m σ H ⟨rfl, hi, p⟩
  by_cases hlt : i < n
  · exact .inr ⟨hgo i σ H hlt p, Pv (i + 1), fun σ' H' p' => ⟨n - (i + 1), by omega, rfl, hlt, p'⟩, fun x H' y => hs i σ H x H' hlt p y⟩
  · obtain rfl : i = n := by omega
    exact .inl ⟨hst σ H p, hd σ H p⟩
theorem for_str {l : List Nat} {g : TG} {tb : TS} {D : Ends} {σ : L2.St} {H1 : Hp} (Pv : Nat → L2.St → Hp → Prop) (h0 : Pv 0 σ H1)
    (hs : ∀ i σ H c, l[i]? = some c → Pv i σ H → g (Pt.vs [c]) σ H fun σ2 H2 => tb { D with nx := Pv (i + 1), ct := Pv (i + 1), bk := D.nx } σ2 H2) (hd : ∀ σ H, Pv l.length σ H → D.nx σ H) :
    ∃ W : Nat → Nat → L2.St → Hp → Prop, (∃ m, W 0 m σ H1) ∧ ∀ i m σ H, W i m σ H → ((Its (S l)).stop i H ∧ D.nx σ H) ∨ ((Its (S l)).go i H ∧ ∃ Nx : L2.St → Hp → Prop, (∀ σ' H', Nx σ' H' → ∃ m', m' < m ∧ W (i + 1) m' σ' H') ∧
      ∀ x H', (Its (S l)).yld i H x H' → g x σ H' fun σ2 H2 => tb { D with nx := Nx, ct := Nx, bk := D.nx } σ2 H2) := by
  refine for_n (n := l.length) Pv h0 (fun i σ H hi _ => ?_) (fun σ H _ => ?_) (fun i σ H x H' hi p y => ?_) hd
  · show i < l.toArray.size; simpa using hi
  · show l.toArray.size ≤ l.length; simp
  · obtain ⟨rfl, c, e1, rfl⟩ := y
    have e2 : l[i]? = some c := by simpa using e1
    exact hs i σ H' c e2 p
theorem for_enum {K : Fg} {a : Addr} {xs : List V} {g : TG} {tb : TS} {D : Ends} {σ : L2.St} {H1 : Hp} (Pv : Nat → L2.St → Hp → Prop) (h0 : Pv 0 σ H1) (hl : ∀ i σ H, Pv i σ H → SqL K H a xs)
    (hs : ∀ i σ H x T, xs[i]? = some x → Pv i σ H → H T = none → g (.ref T) σ (upd H T (.tup [vi i, x])) fun σ2 H2 => tb { D with nx := Pv (i + 1), ct := Pv (i + 1), bk := D.nx } σ2 H2) (hd : ∀ σ H, Pv xs.length σ H → D.nx σ H) :
    ∃ W : Nat → Nat → L2.St → Hp → Prop, (∃ m, W 0 m σ H1) ∧ ∀ i m σ H, W i m σ H → ((Ite K a).stop i H ∧ D.nx σ H) ∨ ((Ite K a).go i H ∧ ∃ Nx : L2.St → Hp → Prop, (∀ σ' H', Nx σ' H' → ∃ m', m' < m ∧ W (i + 1) m' σ' H') ∧
      ∀ x H', (Ite K a).yld i H x H' → g x σ H' fun σ2 H2 => tb { D with nx := Nx, ct := Nx, bk := D.nx } σ2 H2) := by
  refine for_n (n := xs.length) Pv h0 (fun i σ H hi p => ?_) (fun σ H p => ?_) (fun i σ H x H' hi p y => ?_) hd
  · exact ⟨xs, xs[i], hl i σ H p, by simp [hi]⟩
  · exact ⟨xs, hl _ σ H p, Nat.le_refl _⟩
  · obtain ⟨T, z, rfl, hT, rfl, hz⟩ := y
    exact hs i σ H z T (hz xs (hl i σ H p)) p hT
theorem lc_n {J : It} {n : Nat} {g : TG} {tt : TT} {te : TE} {us : List Nat} {σ : L2.St} {H1 : Hp} {D : Addr} {Qd : Hp → Prop} (Pv : Nat → Hp → Prop) (h0 : Pv 0 (upd H1 D (.lst []))) (hgo : ∀ i H, i < n → Pv i H → J.go i H) (hst : ∀ H, Pv n H → J.stop n H)
    (hs : ∀ i H x H', i < n → Pv i H → J.yld i H x H' → g x (wipe σ us) H' fun σ2 H2 => wipe σ2 us = wipe σ us ∧ tt σ2 H2 fun b H3 =>
      if b = true then te σ2 H3 fun y H4 => ∃ acc, H4 D = some (.lst acc) ∧ acc.length < sizeLine ∧ Pv (i + 1) (upd H4 D (.lst (acc ++ [y]))) else Pv (i + 1) H3) (hd : ∀ H, Pv n H → Qd H) :
    ∃ W : Nat → Nat → Hp → Prop, (∃ m, W 0 m (upd H1 D (.lst []))) ∧ ∀ i m H, W i m H → (J.stop i H ∧ Qd H) ∨ (J.go i H ∧ ∃ Nx : Hp → Prop, (∀ H', Nx H' → ∃ m', m' < m ∧ W (i + 1) m' H') ∧
      ∀ x H', J.yld i H x H' → g x (wipe σ us) H' fun σ2 H2 => wipe σ2 us = wipe σ us ∧ tt σ2 H2 fun b H3 =>
        if b = true then te σ2 H3 fun y H4 => ∃ acc, H4 D = some (.lst acc) ∧ acc.length < sizeLine ∧ Nx (upd H4 D (.lst (acc ++ [y]))) else Nx H3) := by
  refine ⟨fun i m H => m = n - i ∧ i ≤ n ∧ Pv i H, ⟨n, by simp, Nat.zero_le _, h0⟩, ?_⟩
  rintro i m H ⟨rfl, hi, p⟩
  by_cases hlt : i < n
  · exact .inr ⟨hgo i H hlt p, Pv (i + 1), fun H' p' => ⟨n - (i + 1), by omega, rfl, hlt, p'⟩, fun x H' y => hs i H x H' hlt p y⟩
  · obtain rfl : i = n := by omega
    exact .inl ⟨hst H p, hd H p⟩
/-- a comprehension without a test whose element gives f i x at the i-th item x, and leaves what was tracked -/
theorem lc_pure {J : It} {n : Nat} {g : TG} {te : TE} {us : List Nat} {σ : L2.St} {H1 : Hp} {Q : VK} (xs : List V) (f : Nat → V → V) (hn : xs.length = n) (hz : n ≤ 16777216)
    (hgo : ∀ i H, i < n → Same H1 H → J.go i H) (hst : ∀ H, Same H1 H → J.stop n H) (hy : ∀ i H x H', i < n → Same H1 H → J.yld i H x H' → xs[i]? = some x ∧ Same H H')
    (hs : ∀ i x H R, xs[i]? = some x → Same H1 H → (∀ H', Same H H' → R (f i x) H') → g x (wipe σ us) H fun σ2 H2 => wipe σ2 us = wipe σ us ∧ te σ2 H2 R)
    (k : NewL H1 (xs.mapIdx f) Q) : ∀ D, H1 D = none → ∃ W : Nat → Nat → Hp → Prop, (∃ m, W 0 m (upd H1 D (.lst []))) ∧ ∀ i m H, W i m H → (J.stop i H ∧ Q (.ref D) H) ∨ (J.go i H ∧ ∃ Nx : Hp → Prop, (∀ H', Nx H' → ∃ m', m' < m ∧ W (i + 1) m' H') ∧
      ∀ x H', J.yld i H x H' → g x (wipe σ us) H' fun σ2 H2 => wipe σ2 us = wipe σ us ∧ tYes σ2 H2 fun b H3 =>
        if b = true then te σ2 H3 fun y H4 => ∃ acc, H4 D = some (.lst acc) ∧ acc.length < sizeLine ∧ Nx (upd H4 D (.lst (acc ++ [y]))) else Nx H3) := by
  intro D hD
  have st : ∀ {H}, Same (upd H1 D (.lst [])) H → Same H1 H := fun h => (same_upd hD).trans h
  refine lc_n (n := n) (tt := tYes) (fun i H => Same H1 H ∧ H D = some (.lst ((xs.mapIdx f).take i))) ⟨same_upd hD, upd_same⟩ (fun i H hi p => hgo i H hi p.1) (fun H p => hst H p.1) (fun i H x H' hi p y => ?_) (fun H p => ?_)
  · obtain ⟨e, s1⟩ := hy i H x H' hi p.1 y
    have s2 := p.1.trans s1
    have hh := hs i x H' (fun v H4 => ∃ acc, H4 D = some (.lst acc) ∧ acc.length < sizeLine ∧ (Same H1 (upd H4 D (.lst (acc ++ [v]))) ∧ upd H4 D (.lst (acc ++ [v])) D = some (.lst ((xs.mapIdx f).take (i + 1))))) e s2 (fun H4 s4 => ?_)
    · exact hh
    · refine ⟨_, s4 _ _ (s1 _ _ p.2), ?_, same_put hD (s2.trans s4), ?_⟩
      · rw [List.length_take, List.length_mapIdx, hn, sizeLine_eq]; omega
      · rw [upd_same, List.take_add_one, List.getElem?_mapIdx, e]; rfl
  · refine k D H p.1 ?_
    rw [p.2, List.take_of_length_le (by rw [List.length_mapIdx, hn]; exact Nat.le_refl _)]
theorem isi_own {K : Fg} {H : Hp} {C a dx : Addr} {fs : List (Str × V)} {Q : VK} (J : Iso K C) (c : Cls K C) (h : H a = some (.ins C dx fs)) (k : Q (.bl true) H) : rIsi K [.ref a, .ref C] H Q :=
  isi_of (t := .ref C) (.own C) (.base (.ins h c J.at_ J.get J.tak J.mro)) (by unfold PySem.W.kitOne; rw [if_pos (by simp)]) k
theorem dget_at {H : Hp} {a : Addr} {kvs : List (Key × V)} {x : Str} {v : V} (h : H a = some (.dK kvs)) (e : valV kvs (Sum.inr x) = some v) : DGet H a (.str x) (some v) := by
  rw [← e]; exact DGet.k (k := Sum.inr x) h
/-! isinstance(x, (list, tuple)) -/
theorem isiT_list {K : Fg} {H : Hp} {d p : Addr} {xs : List V} {Q : VK} (hd : H d = some (.lst xs)) (hp : H p = none) (k : Q (.bl true) (upd H p (.tup [.ty "list", .ty "tuple"]))) : rIsiT K [.ref d, .ref p] (upd H p (.tup [.ty "list", .ty "tuple"])) Q :=
  ⟨_, _, _, .type "list", [.type "list", .type "tuple"], true, rfl, upd_same, .cons (.ty _) (.cons (.ty _) .nil), .base (.lst (by rw [upd_ne (ne_of_none hd hp)]; exact hd)),
    kitAny_cons (b := true) (kit_ty (by decide +kernel)) (fun z => by cases z) (fun _ => rfl), k⟩
/-- xs.append(x), read -/
theorem append_at {K : Fg} {H : Hp} {l : Addr} {xs : List V} {v : V} {Q : VK} (h : H l = some (.lst xs)) (hz : xs.length < 16777216) (k : Q .non (upd H l (.lst (xs ++ [v])))) : tyV K "list" (.ref l) H ∧ rAppend (.ref l) [v] H Q :=
  ⟨.inl ⟨rfl, _, SqL.of h⟩, l, _, _, rfl, rfl, h, hz, k⟩
end Pt
end
section
/-! enumerate of a text -/
namespace Pt
open PySem PySem.Spec PyProof.Rows L2
/-- the pairs (place, sign) of a text, each new -/
def Ites (x : Str) : It :=
  ⟨fun i _ => i < x.cps.size, fun i H v H' => ∃ T c, v = .ref T ∧ H T = none ∧ H' = upd H T (.tup [.int (i : Nat), .str ⟨#[c]⟩]) ∧ x.cps[i]? = some c, fun i _ => i = x.cps.size⟩
theorem turn_enumS {P : Program} {w : World} {K : Fg} {elts : List Expr} {kk : Nat} {tpos : Pos} (x : Str) (t : Tok) (e it : Addr) :
    Turn P w K (.Tuple elts kk tpos) (Ites x) [e, it] e (fun i h => (∃ old, IsEnum h e it ((i : Nat) : Int) old) ∧ h.IsStrIter it (strIterType x) x t i ∧ e ≠ it) where
  mem := by simp
  obj := fun i h ⟨⟨old, he⟩, ⟨o, ho, hc, hd⟩, _⟩ b hb => by
    rcases (by simpa using hb : b = e ∨ b = it) with z | z
    · rw [z]; exact ⟨_, he, fun v q => nomatch q⟩
    · rw [z]; exact ⟨o, ho, fun v q => by rw [hd] at q; cases q⟩
  keep := fun i h h' ⟨⟨old, he⟩, ⟨o, ho, r⟩, hne⟩ k => ⟨⟨old, k e (by simp) _ he⟩, ⟨o, k it (by simp) o ho, r⟩, hne⟩
  item := by
    intro X hP hw hK hc i pins s σ H E I hf ⟨⟨old, he⟩, hit, hne⟩ hg
    subst hP hw hK
    have hel : e < s.heap.objs.size := Heap.lt_size he
    have hil : it < s.heap.objs.size := by obtain ⟨_, q, _⟩ := hit; exact Heap.lt_size q
    have D := Draws.text (prog := X.prog) (w := X.w) (A := X.A.in1) (I.ok.hd hc) it x t
    refine wpAny_pyNext_enum_itemD D he hit hg hne (by simpa using hne) fun u h' tk hP2 ho hit' hT hsz hk => ?_
    obtain ⟨c, tc, hcx, rfl⟩ := hP2
    refine ⟨_, rfl, wpAny_letOwnedTupleGo_enum (s := { s with heap := h', toks := tk + 1 }) ho fun h'' he' sb => ?_⟩
    have hT2 : h''.get? s.heap.objs.size = some { cls := .type "tuple", data := .seq #[.int i tk, .str ⟨#[c]⟩ tc] } := (sb.2 _ (Nat.ne_of_gt hel)).trans hT
    have new : ObjOk X.prog X.w (upd H s.heap.objs.size (.tup [.int (i : Nat), .str ⟨#[c]⟩])) h'' s.heap.objs.size (.tup [.int (i : Nat), .str ⟨#[c]⟩]) :=
      ⟨by show 2 ≤ sizeLine; decide, [.int i tk, .str ⟨#[c]⟩ tc], .cons ⟨_, rfl⟩ (.cons ⟨_, rfl⟩ .nil), ⟨_, hT2, rfl, _, rfl⟩⟩
    have I1 : Inv X pins σ (upd H s.heap.objs.size (.tup [.int (i : Nat), .str ⟨#[c]⟩])) { s with heap := h'', toks := tk + 1 } :=
      I.turnedNew (ch := [e, it]) (fun b ob hb q => (sb.2 b (fun z => hb (by simp [z]))).trans (hk b ob (fun z => hb (by simp [z])) (fun z => hb (by simp [z])) q)) hf (Nat.le_refl _) new
    refine ⟨.ref s.heap.objs.size, _, I1, rfl, ⟨_, c, rfl, I.hok.fresh (Nat.le_refl _), rfl, hcx⟩, ⟨⟨.str ⟨#[c]⟩ tc, ?_⟩, ?_, hne⟩, fun b hb => ?_⟩
    · have e1 : ((i + 1 : Nat) : Int) = (i : Int) + 1 := by omega
      rw [e1]; exact he'
    · obtain ⟨o, q1, q2⟩ := hit'
      exact ⟨o, (sb.2 it (Ne.symm hne)).trans q1, q2⟩
    · have hb' : b < s.heap.objs.size := by
        rcases (by simpa using hb : b = e ∨ b = it) with z | z
        · rw [z]; exact hel
        · rw [z]; exact hil
      rw [upd_ne (Nat.ne_of_lt hb')]
      exact (hf b hb).1
  done := by
    intro X hP hw hK hc i pins s σ H E I hf ⟨⟨old, he⟩, hit, hne⟩ hg
    subst hP hw hK
    obtain ⟨f0, f1, f2, f3, f4, f5⟩ := hf it (by simp)
    have D := Draws.text (prog := X.prog) (w := X.w) (A := X.A.in1) (I.ok.hd hc) it x t
    have hg' : i = x.cps.size := hg
    subst hg'
    exact wpAny_pyNext_enum_endD D he hit fun h' eb => ⟨rfl, I.turned (t' := s.toks) (fun b o hb q => eb b o hb q) f0 f1 f3 f4 f5⟩
  self := fun A i s Q E ⟨⟨_, he⟩, _⟩ h => wpAny_pyIter_enum he h
def iEnumS (ta : TA) : TI := fun σ H R => ta σ H fun us H1 => ∃ x, us = [.str x] ∧ R (Ites x) H1
theorem pi_enumS {X : Cx} {e : Expr} {ta : TA} {p pos tpos : Pos} {elts : List Expr} {kk : Nat} (hg : Gl X "enumerate") (hm : X.mg "enumerate" = none) (ha : PA X [e] ta) (hs : starEach [e] X.env = [(false, eval e X.env)] := by rfl) :
    PI X (.Tuple elts kk tpos) (.Call (.Name "enumerate" p) [e] [] pos) (iEnumS ta) := by
  refine ⟨fun pins s σ H R I h => ?_⟩
  refine Call_ (ld_blt I hg hm boot_enumerate (PyProof.Rows.callWith_type1 (thn (ha.run pos pins s σ H _ I h) fun us s1 ⟨vs, H1, I1, r1, x, ex, q⟩ => ?_) hs rfl))
  subst ex
  cases r1 with
  | cons r rr =>
    cases rr
    obtain ⟨t, rfl⟩ := r
    refine call_enumerate_str fun h' he hit hsz hk => wpAny_pyIter_enum he ?_
    have I2 : Inv X pins σ H1 { s1 with heap := h' } := I1.kept (t' := s1.toks) hk
    refine ⟨s1.heap.objs.size + 1, [s1.heap.objs.size + 1, s1.heap.objs.size], _, _, H1, rfl, I2, turn_enumS x t (s1.heap.objs.size + 1) s1.heap.objs.size, ⟨⟨.none, he⟩, hit, Nat.succ_ne_self _⟩, fun b hb => ?_, q⟩
    have hle : s1.heap.objs.size ≤ b := by
      rcases (by simpa using hb : b = s1.heap.objs.size + 1 ∨ b = s1.heap.objs.size) with z | z
      · rw [z]; exact Nat.le_add_right _ _
      · rw [z]; exact Nat.le_refl _
    exact I1.fpOk hle (I1.hok.fresh hle)
theorem for_enumS {l : List Nat} {g : TG} {tb : TS} {D : Ends} {σ : L2.St} {H1 : Hp} (Pv : Nat → L2.St → Hp → Prop) (h0 : Pv 0 σ H1)
    (hs : ∀ i σ H c T, l[i]? = some c → Pv i σ H → H T = none → g (.ref T) σ (upd H T (.tup [vi i, Pt.vs [c]])) fun σ2 H2 => tb { D with nx := Pv (i + 1), ct := Pv (i + 1), bk := D.nx } σ2 H2) (hd : ∀ σ H, Pv l.length σ H → D.nx σ H) :
    ∃ W : Nat → Nat → L2.St → Hp → Prop, (∃ m, W 0 m σ H1) ∧ ∀ i m σ H, W i m σ H → ((Ites (S l)).stop i H ∧ D.nx σ H) ∨ ((Ites (S l)).go i H ∧ ∃ Nx : L2.St → Hp → Prop, (∀ σ' H', Nx σ' H' → ∃ m', m' < m ∧ W (i + 1) m' σ' H') ∧
      ∀ x H', (Ites (S l)).yld i H x H' → g x σ H' fun σ2 H2 => tb { D with nx := Nx, ct := Nx, bk := D.nx } σ2 H2) := by
  refine for_n (n := l.length) Pv h0 (fun i σ H hi _ => ?_) (fun σ H _ => ?_) (fun i σ H x H' hi p y => ?_) hd
  · show i < l.toArray.size; simpa using hi
  · show l.length = l.toArray.size; simp
  · obtain ⟨T, c, rfl, hT, rfl, e1⟩ := y
    exact hs i σ H c T (by simpa using e1) p hT
end Pt
end
section
/-! {elt for target in iter}, elt an int or a text: by SetBool's machine steps (compLoopS_any, codeAny_compStart_set), over SetKeys' sets -/
namespace Pt
open PySem PySem.Spec PyProof.Rows L2 PpSet
section
variable {X : Cx}
theorem setK_fresh {P : Program} {w : World} (h : Heap) : (h.push { cls := .type "set", dict := none, data := .set #[] 0 (.fresh 0 0 (!w.params.followText "set-order")) }).SetOf (mixKind P w) h.objs.size (fun _ => false) 0 :=
  ⟨_, #[], 0, _, Heap.get?_push_size _ rfl, ⟨rfl, rfl, rfl⟩, rfl, (fun e he => by simp at he), (fun k => by simp), (by decide), (by rfl), rfl⟩
/-- the reading: D the new set, every item kept -/
def tScK (P : Program) (w : World) (wi : TI) (g : TG) (te : TE) (us : List Nat) : TE := fun σ H Q => wi σ H fun J H1 => ∀ D, H1 D = none → ∃ W : Nat → Nat → Hp → Prop, (∃ m, W 0 m (upd H1 D (SetK P w D (fun _ => false) 0))) ∧ ∀ i m H, W i m H →
  (J.stop i H ∧ Q (.ref D) H) ∨ (J.go i H ∧ ∃ Nx : Hp → Prop, (∀ H', Nx H' → ∃ m', m' < m ∧ W (i + 1) m' H') ∧ ∀ x H', J.yld i H x H' → g x (wipe σ us) H' fun σ2 H2 => wipe σ2 us = wipe σ us ∧
    te σ2 H2 fun y H4 => ∃ (k : Key) (S : Key → Bool) (n : Nat), y = kV k ∧ H4 D = some (SetK P w D S n) ∧ n + 1 < scanBound ∧ Nx (upd H4 D (SetK P w D (fun j => S j || decide (j = k)) (if S k = true then n else n + 1))))
theorem pe_scK {elt tg iter : Expr} {scope : Scope} {own : List (Str × Nat)} {pos : Pos} {wi : TI} {g : TG} {te : TE} (hc : X.calm = true) (hN : X.N.Nodup) (hi : PI X tg iter wi) (ok : BlkOk X.N X.env.scope scope own)
    (hg : ∀ (s : Shared) (H : Hp) (C : Addr) (cl : List (Str × Addr)) (fp : List Addr), PG (X.blk s H scope (compEnvC scope cl C X.env) fp) tg g)
    (he : ∀ (s : Shared) (H : Hp) (C : Addr) (cl : List (Str × Addr)) (fp : List Addr), PE (X.blk s H scope (compEnvC scope cl C X.env) fp) elt te) (hs : ∀ x, foldedSetIterable iter X.env x = pure x := by intro _; rfl) :
    PE X (.SetComp elt [⟨tg, iter, [], 0⟩] scope pos) (tScK X.prog X.w wi g te (own.map (·.2))) := by
  refine ⟨fun pins s σ H Q I h => ?_⟩
  rw [eval_SetComp]
  have free : ∀ y ∈ scope.names, y.2 = .free → ∃ c, X.env.cells.lookup y.1 = some c := fun y hy e => (ok.free y hy e).elim (fun k => I.ok.has _ (.inl k)) fun k => I.ok.has _ (.inr k)
  refine wpAny_comprehension_free (use := none) rfl hs (closure_ok free) ok.kind (fun y hy e => by rw [ok.uniq y hy, e]) (thn (hi.run pins s σ H _ I h) fun _ s1 hx => thn hx fun itv s2 h2 => ?_)
  obtain ⟨it, fp, tn, J, H2, rfl, I2, T, st2, f2, q⟩ := h2
  refine newSet_ok (newEnv_comp ?_)
  generalize hD : s2.heap.objs.size = D
  obtain ⟨W, ⟨m0, w0⟩, turn⟩ := q D (I2.hok.fresh (Nat.le_of_eq hD))
  generalize hs3 : ({ s2 with heap := s2.heap.push { cls := .type "set", dict := none, data := .set #[] 0 (.fresh 0 0 (!X.w.params.followText "set-order")) } } : Shared) = s3
  have h3 : s3.heap = s2.heap.push { cls := .type "set", dict := none, data := .set #[] 0 (.fresh 0 0 (!X.w.params.followText "set-order")) } := by rw [← hs3]
  have keep3 : ∀ b o, s2.heap.get? b = some o → s3.heap.get? b = some o := fun b o e => by rw [h3]; exact Heap.get?_push_of_some _ e
  have I3 : Inv X pins σ (upd H2 D (SetK X.prog X.w D (fun _ => false) 0)) s3 := by
    rw [← hs3]
    refine I2.laid (t' := s2.toks) (fun b o e => Heap.get?_push_of_some _ e) (Nat.le_of_eq hD) ?_
    rw [← hD]
    exact setK_new (setK_fresh s2.heap)
  have lt2 : ∀ b ∈ fp, b < s2.heap.objs.size := fun b hb => let ⟨_, e, _⟩ := T.obj _ _ st2 b hb; Heap.lt_size e
  have f3 : ∀ b ∈ fp, FpOk X pins (upd H2 D (SetK X.prog X.w D (fun _ => false) 0)) b ∧ b < s3.heap.objs.size := fun b hb => by
    refine ⟨⟨?_, (f2 b hb).2⟩, by rw [h3, Heap.size_push]; exact Nat.lt_succ_of_lt (lt2 b hb)⟩
    rw [upd_ne (by rw [← hD]; exact Nat.ne_of_lt (lt2 b hb))]
    exact (f2 b hb).1
  have I4 := block_start I3 ok hN f3
  have pg := hg s3 (upd H2 D (SetK X.prog X.w D (fun _ => false) 0)) s3.heap.objs.size (cellsFrom (s3.heap.objs.size + 1) scope.names (cloFrom X.env.cells scope.names [])) fp
  have pe := he s3 (upd H2 D (SetK X.prog X.w D (fun _ => false) 0)) s3.heap.objs.size (cellsFrom (s3.heap.objs.size + 1) scope.names (cloFrom X.env.cells scope.names [])) fp
  have nfp : ∀ b ∈ fp, (upd H2 D (SetK X.prog X.w D (fun _ => false) 0)) b = none := fun b hb => (f3 b hb).1.1
  have st4 : tn 0 (pushCells (s3.heap.push { cls := .type "dict", data := .dict #[] }) scope.names) := T.keep _ _ _ st2 fun b _ o e => pushCells_keeps _ _ _ _ (Heap.get?_push_of_some _ (keep3 b o e))
  show codeAny _ _ (.compStart (.SetComp elt [⟨tg, iter, [], 0⟩] scope pos) 0 (.ref it) (.ref D) (compEnvC scope (cellsFrom (s3.heap.objs.size + 1) scope.names (cloFrom X.env.cells scope.names [])) s3.heap.objs.size X.env)) (compPost (model X.prog X.w) X.A X.xe none (EP X pins σ Q) (.ref D) s3.heap.objs.size) { s3 with heap := pushCells (s3.heap.push { cls := .type "dict", data := .dict #[] }) scope.names }
  generalize hce : compEnvC scope (cellsFrom (s3.heap.objs.size + 1) scope.names (cloFrom X.env.cells scope.names [])) s3.heap.objs.size X.env = ce at I4 pg pe ⊢
  have cL : ce.locals = s3.heap.objs.size := by subst hce; rfl
  generalize hH3 : upd H2 D (SetK X.prog X.w D (fun _ => false) 0) = H3 at I3 I4 pg pe w0 nfp f3
  generalize hs4 : ({ s3 with heap := pushCells (s3.heap.push { cls := .type "dict", data := .dict #[] }) scope.names } : Shared) = s4 at I4 ⊢
  have st4' : tn 0 s4.heap := by rw [← hs4]; exact st4
  have stat : ∀ {σ' : L2.St} {H' : Hp} {s' : Shared}, Inv (X.blk s3 H3 scope ce fp) [] σ' H' s' → (∀ b ∈ fp, H' b = none) → ∀ b ∈ fp, FpOk (X.blk s3 H3 scope ce fp) [] H' b := fun {σ' H' s'} I' hn b hb =>
    ⟨hn b hb, (I'.ok.exf b hb).1, I'.ok.exfs b hb, .inl hb, fun x c e => (I'.ok.exf b hb).2 x c e, fun p hp => absurd (show p ∈ ([] : List (Addr × Obj)) ++ [] from hp) (by simp)⟩
  have loop : codeAny (model X.prog X.w) X.A (.compLoop (.SetComp elt [⟨tg, iter, [], 0⟩] scope pos) 0 (.ref it) (.ref D) ce) (compPost (model X.prog X.w) X.A X.xe none (EP X pins σ Q) (.ref D) s3.heap.objs.size) s4 := by
    refine compLoopS_any (fun n s' => ∃ i H', Inv (X.blk s3 H3 scope ce fp) [] (wipe σ (own.map (·.2))) H' s' ∧ tn i s'.heap ∧ (∀ b ∈ fp, H' b = none) ∧ W i n H') ?_ m0 ⟨0, H3, I4, st4', nfp, w0⟩
    rintro n s5 ⟨i, H5, I5, st5, n5, w5⟩
    rcases turn i n H5 w5 with ⟨stop, qq⟩ | ⟨go, Nx, hNx, step⟩
    · refine thnF (T.done (X.blk s3 H3 scope ce fp) rfl rfl rfl hc i [] s5 _ H5 (fun _ _ => False) I5 (stat I5 n5) st5 stop) fun r s6 ⟨hr, I6⟩ => ?_
      subst hr
      have I7 : Inv X pins σ H5 s6 := I3.call' (ch := fp) I6.os I6.base I6.hok I6.bare fun b hb => ⟨(f3 b hb).1.2.2.2.1, (f3 b hb).1.2.1, (f3 b hb).1.2.2.2.2.1, (f3 b hb).1.2.2.2.2.2⟩
      have nC : H5 s3.heap.objs.size = none := by
        have z : H5 ce.locals = none := I6.free
        rwa [cL] at z
      obtain ⟨m, hn, _⟩ := I6.loc
      have hn : s6.heap.Ns ce.locals m := hn
      rw [cL] at hn
      obtain ⟨e0, e1, e2, e3, e4, e5⟩ := I3.fpOk (H' := H5) (Nat.le_refl _) nC
      exact ⟨m, hn, fun h'' sb => ⟨.ref D, H5, I7.turned (t' := s6.toks) (fun b o hb e => (sb.2 b hb).trans e) e0 e1 e3 e4 e5, rfl, qq⟩⟩
    · refine thnF (T.item (X.blk s3 H3 scope ce fp) rfl rfl rfl hc i [] s5 _ H5 (fun _ _ => False) I5 (stat I5 n5) st5 go) fun r s6 ⟨u, hr, h6⟩ => ?_
      subst hr
      refine thnF h6 fun _ s7 ⟨x, H7, I7, r7, y7, st7, n7⟩ => ?_
      refine thnF (pg.run _ s7 _ H7 x u _ (I7.pinned (stat I7 n7) (T.obj _ _ st7)) r7 (step x H7 y7)) fun _ s8 ⟨σ8, H8, I8, hw8, q8⟩ => ?_
      have fin : ∀ {s' : Shared} {H' : Hp}, Inv (X.blk s3 H3 scope ce fp) ([] ++ pinsAt fp s7.heap) σ8 H' s' → Nx H' → ∃ m, m < n ∧ ∃ i H', Inv (X.blk s3 H3 scope ce fp) [] (wipe σ (own.map (·.2))) H' s' ∧ tn i s'.heap ∧ (∀ b ∈ fp, H' b = none) ∧ W i m H' := fun {s' H'} I' nx => by
        obtain ⟨m', hm, w'⟩ := hNx H' nx
        have pin' : ∀ b ∈ fp, ∀ o, s7.heap.get? b = some o → s'.heap.get? b = some o ∧ H' b = none := fun b hb o e =>
          let z := I'.pin (b, o) (List.mem_append_right _ (List.mem_append_right _ (mem_pinsAt hb e)))
          ⟨z.1, z.2.1⟩
        refine ⟨m', hm, i + 1, H', (I'.unpinned (pins := [])).weak (by rw [← hw8, wipe_length]) (fun j v e => ?_), T.keep _ _ _ st7 fun b hb o e => (pin' b hb o e).1, fun b hb => ?_, w'⟩
        · rw [← hw8] at e
          exact (wipe_some e).1
        · obtain ⟨o, e, _⟩ := T.obj _ _ st7 b hb
          exact (pin' b hb o e).2
      refine wpAny_pure ?_
      simp only [if_true]
      refine thnF (pe.run _ s8 σ8 H8 _ I8 q8) fun z s10 ⟨yv, H10, I10, r10, k, S0, n0, ey, hD10, hz10, nx⟩ => ?_
      subst ey
      refine thnF (mt_saddK (X := X.blk s3 H3 scope ce fp) _ s10 σ8 H10 (.ref D) [kV k] (.ref D) [z] (fun v H' => v = .non ∧ Nx H') I10 rfl (.cons r10 .nil) ⟨D, k, S0, n0, rfl, rfl, hD10, hz10, rfl, nx⟩) fun _ s11 ⟨v, H11, I11, _, _, nx'⟩ => fin I11 nx'
  exact codeAny_compStart_set loop (T.self X.A 0 _ _ _ st4' loop)
end
/-! len of it -/
def rLenK (P : Program) (w : World) : List V → Hp → VK → Prop := fun xs H Q => ∃ D S n, xs = [.ref D] ∧ H D = some (SetK P w D S n) ∧ n ≤ 1000000 ∧ Q (.int n) H
theorem call_lenK {X : Cx} : CallR X (.builtin "len") (rLenK X.prog X.w) := by
  intro pins s σ H xs us Q I r h
  obtain ⟨D, S, n, rfl, hD, hn, q⟩ := h
  obtain ⟨u, rfl, rx⟩ := vals1 r
  cases rx
  obtain ⟨o, es, ep, t, ho, hex, hd, _, _, _, hf, hn'⟩ := setK_get I hD
  exact call_len_set ho hex hd hf (by omega) ⟨.int n, H, I.tok _, ⟨_, by rw [hn']⟩, q⟩
theorem take_mem {l : List Nat} {i c x : Nat} (e : l[i]? = some c) : x ∈ l.take (i + 1) ↔ x ∈ l.take i ∨ x = c := by
  rw [List.take_add_one, e]; simp
theorem nodup_snoc {l : List Nat} {c : Nat} : (l ++ [c]).Nodup ↔ l.Nodup ∧ c ∉ l := by
  rw [List.nodup_append]
  simp
  intro _
  exact ⟨fun h q => h c q rfl, fun h a q e => h (e ▸ q)⟩
theorem scan_big : 4002 < scanBound := by decide +kernel
/-- {c for c in l}, l a text -/
theorem sk_str {P : Program} {w : World} {l : List Nat} {g : TG} {te : TE} {us : List Nat} {σ : L2.St} {H1 : Hp} {Q : VK} (hz : l.length ≤ 4000)
    (hs : ∀ c H R, Same H1 H → (∀ H', Same H H' → R (Pt.vs [c]) H') → g (Pt.vs [c]) (wipe σ us) H fun σ2 H2 => wipe σ2 us = wipe σ us ∧ te σ2 H2 R)
    (k : ∀ D H' S n, Same H1 H' → H' D = some (SetK P w D S n) → n ≤ 1000000 → ((n : Int) = l.length ↔ l.Nodup) → Q (.ref D) H') : ∀ D, H1 D = none → ∃ W : Nat → Nat → Hp → Prop, (∃ m, W 0 m (upd H1 D (SetK P w D (fun _ => false) 0))) ∧ ∀ i m H, W i m H →
  ((Its (S l)).stop i H ∧ Q (.ref D) H) ∨ ((Its (S l)).go i H ∧ ∃ Nx : Hp → Prop, (∀ H', Nx H' → ∃ m', m' < m ∧ W (i + 1) m' H') ∧ ∀ x H', (Its (S l)).yld i H x H' → g x (wipe σ us) H' fun σ2 H2 => wipe σ2 us = wipe σ us ∧
    te σ2 H2 fun y H4 => ∃ (k : Key) (S : Key → Bool) (n : Nat), y = kV k ∧ H4 D = some (SetK P w D S n) ∧ n + 1 < scanBound ∧ Nx (upd H4 D (SetK P w D (fun j => S j || decide (j = k)) (if S k = true then n else n + 1)))) := by
  intro D hD
  refine ⟨fun i m H => m = l.length - i ∧ i ≤ l.length ∧ Same H1 H ∧ ∃ St n, H D = some (SetK P w D St n) ∧ n ≤ i ∧ (n = i ↔ (l.take i).Nodup) ∧ ∀ c, St (Sum.inr (S [c])) = true ↔ c ∈ l.take i, ⟨l.length, by simp, Nat.zero_le _, same_upd hD, _, 0, upd_same, Nat.le_refl _, by simp, by simp⟩, ?_⟩
  rintro i m H ⟨rfl, hi, s1, St, n, hS, hn, hd, hm⟩
  by_cases hlt : i < l.length
  · refine .inr ⟨by show i < l.toArray.size; simpa using hlt, fun H' => Same H1 H' ∧ ∃ St n, H' D = some (SetK P w D St n) ∧ n ≤ i + 1 ∧ (n = i + 1 ↔ (l.take (i + 1)).Nodup) ∧ ∀ c, St (Sum.inr (S [c])) = true ↔ c ∈ l.take (i + 1), fun H' p' => ⟨l.length - (i + 1), by omega, rfl, hlt, p'⟩, ?_⟩
    intro x H' y
    obtain ⟨rfl, c, e1, rfl⟩ := y
    have e2 : l[i]? = some c := by simpa using e1
    refine hs c H' _ s1 fun H4 s4 => ⟨Sum.inr (S [c]), St, n, rfl, s4 _ _ hS, ?_, same_put hD (s1.trans s4), _, _, upd_same, ?_, ?_, ?_⟩
    · have := hz; have := scan_big; omega
    · split <;> omega
    · have e3 : l.take (i + 1) = l.take i ++ [c] := by rw [List.take_add_one, e2]; rfl
      rw [e3, nodup_snoc]
      by_cases hc : c ∈ l.take i
      · rw [if_pos ((hm c).2 hc)]
        constructor
        · intro e; omega
        · rintro ⟨_, q⟩; exact absurd hc q
      · rw [if_neg (fun q => hc ((hm c).1 q))]
        constructor
        · intro e; exact ⟨hd.1 (by omega), hc⟩
        · rintro ⟨q, _⟩
          have := hd.2 q
          omega
    · intro c'
      rw [take_mem e2, Bool.or_eq_true, hm c', decide_eq_true_iff]
      constructor
      · rintro (q | q)
        · exact .inl q
        · simp [S_inj] at q
          exact .inr q
      · rintro (q | q)
        · exact .inl q
        · subst q; exact .inr rfl
  · obtain rfl : i = l.length := by omega
    refine .inl ⟨by show l.toArray.size ≤ l.length; simp, k D H St n s1 hS (by have := hz; omega) ?_⟩
    rw [List.take_length] at hd
    rw [← hd]
    omega
/-- [f(c) for c in l], l a text -/
theorem lc_str {l : List Nat} {g : TG} {te : TE} {us : List Nat} {σ : L2.St} {H1 : Hp} {Q : VK} (f : Nat → V) (hz : Sz l)
    (hs : ∀ c H R, c ∈ l → Same H1 H → (∀ H', Same H H' → R (f c) H') → g (Pt.vs [c]) (wipe σ us) H fun σ2 H2 => wipe σ2 us = wipe σ us ∧ te σ2 H2 R)
    (k : NewL H1 (l.map f) Q) : ∀ D, H1 D = none → ∃ W : Nat → Nat → Hp → Prop, (∃ m, W 0 m (upd H1 D (.lst []))) ∧ ∀ i m H, W i m H → ((Its (S l)).stop i H ∧ Q (.ref D) H) ∨ ((Its (S l)).go i H ∧ ∃ Nx : Hp → Prop, (∀ H', Nx H' → ∃ m', m' < m ∧ W (i + 1) m' H') ∧
      ∀ x H', (Its (S l)).yld i H x H' → g x (wipe σ us) H' fun σ2 H2 => wipe σ2 us = wipe σ us ∧ tYes σ2 H2 fun b H3 =>
        if b = true then te σ2 H3 fun y H4 => ∃ acc, H4 D = some (.lst acc) ∧ acc.length < sizeLine ∧ Nx (upd H4 D (.lst (acc ++ [y]))) else Nx H3) := by
  refine lc_pure (n := l.length) (l.map fun c => Pt.vs [c]) (fun i _ => f (l.getD i 0)) (by simp) hz.line (fun i H hi _ => by show i < l.toArray.size; simpa using hi) (fun H _ => by show l.toArray.size ≤ l.length; simp) (fun i H x H' hi _ y => ?_) (fun i x H R e s1 h => ?_) ?_
  · obtain ⟨rfl, c, e1, rfl⟩ := y
    have e2 : l[i]? = some c := by simpa using e1
    exact ⟨by rw [List.getElem?_map, e2]; rfl, Same.refl _⟩
  · rw [List.getElem?_map] at e
    cases q : l[i]? with
    | none => rw [q] at e; cases e
    | some c =>
      rw [q] at e
      cases e
      exact hs c H R (List.mem_of_getElem? q) s1 (by simpa [q] using h)
  · have e : (l.map fun c => Pt.vs [c]).mapIdx (fun i _ => f (l.getD i 0)) = l.map f := by
      apply List.ext_getElem?
      intro i
      rw [List.getElem?_mapIdx, List.getElem?_map, List.getElem?_map]
      cases q : l[i]? with
      | none => rfl
      | some c => simp [q]
    rw [e]; exact k
theorem all_bl {K : Fg} {H : Hp} {Q : VK} {l : List Nat} {f : Nat → Bool} {p : Addr} (h : H p = some (.lst (l.map fun c => V.bl (f c)))) (k : Q (.bl (l.all f)) H) : rAll K [.ref p] H Q := by
  refine ⟨p, l.map f, rfl, SqL.of (by rw [h]; simp), ?_⟩
  have e : (l.map f).all id = l.all f := by simp
  rw [e]; exact k
end Pt
end
section
/-! making instances; comprehensions over texts; a value that stands in a tuple -/
namespace Pt
open PySem PySem.Spec PyProof.Rows L2
/-- the def keeps sp, called with the keywords ks alone -/
structure FokK (P : Program) (w : World) (K : Fg) (mg : Str → Option Value) (base : Heap) (k : Nat) (d : DA) (ps ks : List Str) (gV : List V → List V → List V) (sp : Sp) : Prop where
  ex : ∃ fd g, FnOk P w K mg base CX0 k (d.adr K) fd ps sp ∧ KBn K fd ps 1 ks g gV
section
variable {P : Program} {w : World} {K : Fg} {mg : Str → Option Value} {base : Heap}
theorem fnk {d : DA} {N ps : List Str} {k : Nat} {sp : Sp} {z : FuncData} {dvs : List V} {kws : List (Str × V)} (F : FunD K d.name d.qual (defArgs d.st) (defBody d.st) (defScope d.st) dvs kws (d.adr K) z) (S : FnScope N ps (defScope d.st)) (len : ∀ vs H Q E, sp vs H Q E → vs.length = ps.length)
    (body : ∀ (cdv : Value) (A : Around) (outer : List Env) (s : Shared) (H : Hp) (vs : List V) (Q : VK) (E : XK), Room k (A.deeper (envOfC d.qual (defScope d.st) s.heap.objs.size (d.adr K) cdv)) → sp vs H Q E →
      ∃ t, PSs (cxOf CX0 P w K mg base N d.qual (defScope d.st) (d.adr K) cdv A outer s H E).nox (defBody d.st) t ∧ t { nx := fun _ H' => Q .non H', rt := Q } (start N vs) H) : FnOk P w K mg base CX0 (k + 1) (d.adr K) z ps sp :=
  F.ok S len fun cdv A outer s H vs Q E hr h => by
    obtain ⟨t, h1, h2⟩ := body cdv A outer s H vs Q E hr h
    exact ⟨t, h1.nox, h2⟩
end
section
variable {X : Cx} {d : DA} {k : Nat} {ps ks : List Str} {dvs : List V} {sp : Sp} {x : Str} {p pos : Pos} {kws : List Keyword} {tk : TA} {C : Addr} {gV : List V → List V → List V}
theorem pe_mk0 (F : Fok X.prog X.w X.K X.mg X.base k d ps dvs sp) (hr : Room (k + 1) X.A) (M : Mk X.K C (d.adr X.K)) (hm : X.mg x = some (.ref C)) (hg : Gl X x := by rfl)
    (hdb : (x == ("__debug__" : Str)) = false := by decide) : PE X (.Call (.Name x p) [] [] pos) (tMake C sp dvs E0 tNil) := by
  obtain ⟨⟨fd, ds, F, hd, hb⟩, kp⟩ := F
  exact pe_make0 M F hr hg hm hb hd pass0 hdb
theorem pe_mkK0 (F : FokK X.prog X.w X.K X.mg X.base k d ps ks gV sp) (hr : Room (k + 1) X.A) (M : Mk X.K C (d.adr X.K)) (hm : X.mg x = some (.ref C)) (hkw : PK X kws tk) (hg : Gl X x := by rfl)
    (hall : (backToKw pos (keywordEach kws X.env)).all (·.1.isSome) = true := by rfl) (hks : (backToKw pos (keywordEach kws X.env)).filterMap (·.1) = ks := by rfl) (hdb : (x == ("__debug__" : Str)) = false := by decide)
    (hpl : ((backTo pos (starEach [] X.env)).any (·.1) || (backToKw pos (keywordEach kws X.env)).any (·.1.isNone)) = false := by rfl) : PE X (.Call (.Name x p) [] kws pos) (tMakeK C 0 ks.length sp gV E0 tNil tk) := by
  obtain ⟨fd, g, F, hb⟩ := F
  exact pe_makeK0 M F hr hg hm hb pass0 hkw hall hks hdb hpl
end
/-! [f(c) for c in x], {c for c in x}, x a text that a name holds -/
theorem lcS {l : List Nat} {g : TG} {te : TE} {us : List Nat} {σ : L2.St} {H : Hp} {Q : VK} {j : Nat} (f : Nat → V) (h0 : σ[j]? = some (some (Pt.vs l))) (hz : Sz l)
    (hs : ∀ c H' R, c ∈ l → Same H H' → (∀ H'', Same H' H'' → R (f c) H'') → g (Pt.vs [c]) (wipe σ us) H' fun σ2 H2 => wipe σ2 us = wipe σ us ∧ te σ2 H2 R) (k : NewL H (l.map f) Q) :
    tLc (iStr (tVar j)) g tYes te us σ H Q := ⟨_, h0, S l, rfl, lc_str f hz hs k⟩
theorem scS {P : Program} {w : World} {l : List Nat} {g : TG} {te : TE} {us : List Nat} {σ : L2.St} {H : Hp} {Q : VK} {j : Nat} (h0 : σ[j]? = some (some (Pt.vs l))) (hz : l.length ≤ 4000)
    (hs : ∀ c H' R, Same H H' → (∀ H'', Same H' H'' → R (Pt.vs [c]) H'') → g (Pt.vs [c]) (wipe σ us) H' fun σ2 H2 => wipe σ2 us = wipe σ us ∧ te σ2 H2 R)
    (k : ∀ D H' S n, Same H H' → H' D = some (SetK P w D S n) → n ≤ 1000000 → ((n : Int) = l.length ↔ l.Nodup) → Q (.ref D) H') : tScK P w (iStr (tVar j)) g te us σ H Q := ⟨_, h0, S l, rfl, sk_str hz hs k⟩
/-- [f(n) for n in range(j)] -/
theorem lcR {n : Nat} {g : TG} {te : TE} {us : List Nat} {σ : L2.St} {H : Hp} {Q : VK} (f : Nat → V) (hz : n ≤ 16777216)
    (hs : ∀ i H' R, i < n → Same H H' → (∀ H'', Same H' H'' → R (f i) H'') → g (vi i) (wipe σ us) H' fun σ2 H2 => wipe σ2 us = wipe σ us ∧ te σ2 H2 R) (k : NewL H ((List.range n).map f) Q) :
    ∀ D, H D = none → ∃ W : Nat → Nat → Hp → Prop, (∃ m, W 0 m (upd H D (.lst []))) ∧ ∀ i m H', W i m H' → ((Itr 0 n).stop i H' ∧ Q (.ref D) H') ∨ ((Itr 0 n).go i H' ∧ ∃ Nx : Hp → Prop, (∀ H', Nx H' → ∃ m', m' < m ∧ W (i + 1) m' H') ∧
      ∀ x H1, (Itr 0 n).yld i H' x H1 → g x (wipe σ us) H1 fun σ2 H2 => wipe σ2 us = wipe σ us ∧ tYes σ2 H2 fun b H3 =>
        if b = true then te σ2 H3 fun y H4 => ∃ acc, H4 D = some (.lst acc) ∧ acc.length < sizeLine ∧ Nx (upd H4 D (.lst (acc ++ [y]))) else Nx H3) := by
  refine lc_pure (n := n) ((List.range n).map vi) (fun i _ => f i) (by simp) hz (fun i H hi _ => hi) (fun H _ => Nat.le_refl n) (fun i H x H' hi _ y => ?_) (fun i x H R e s1 h => ?_) ?_
  · obtain ⟨rfl, rfl⟩ := y
    refine ⟨?_, Same.refl _⟩
    rw [List.getElem?_map, List.getElem?_range hi]
    simp
  · rw [List.getElem?_map] at e
    by_cases hi : i < n
    · rw [List.getElem?_range hi] at e
      cases e
      exact hs i H R hi s1 h
    · rw [List.getElem?_eq_none (by simpa using hi)] at e; cases e
  · have e : ((List.range n).map vi).mapIdx (fun i _ => f i) = (List.range n).map f := by
      apply List.ext_getElem?
      intro i
      rw [List.getElem?_mapIdx, List.getElem?_map, List.getElem?_map]
      by_cases hi : i < n
      · rw [List.getElem?_range hi]; rfl
      · rw [List.getElem?_eq_none (by simpa using hi)]; rfl
    rw [e]; exact k
theorem lcRng {n : Nat} {t : TA} {g : TG} {te : TE} {us : List Nat} {σ : L2.St} {H : Hp} {Q : VK} (f : Nat → V) (h0 : ∀ R, R [.int (n : Int)] H → t σ H R) (hz : n ≤ 16777216)
    (hs : ∀ i H' R, i < n → Same H H' → (∀ H'', Same H' H'' → R (f i) H'') → g (vi i) (wipe σ us) H' fun σ2 H2 => wipe σ2 us = wipe σ us ∧ te σ2 H2 R) (k : NewL H ((List.range n).map f) Q) : tLc (iRng1 t) g tYes te us σ H Q := by
  refine h0 _ ⟨n, rfl, by omega, by omega, ?_⟩
  rw [Int.toNat_natCast]
  exact lcR f hz hs k
/-- what a comprehension over range(j) asks once the range is known -/
def InnR (g : TG) (tt : TT) (te : TE) (us : List Nat) (σ : L2.St) (Q : VK) : List V → Hp → Prop := fun vs H1 => ∃ j : Int, vs = [.int j] ∧ -(2 ^ 62) ≤ j ∧ j < 2 ^ 62 ∧ ∀ D, H1 D = none → ∃ W : Nat → Nat → Hp → Prop, (∃ m, W 0 m (upd H1 D (.lst []))) ∧ ∀ i m H, W i m H →
  ((Itr 0 j.toNat).stop i H ∧ Q (.ref D) H) ∨ ((Itr 0 j.toNat).go i H ∧ ∃ Nx : Hp → Prop, (∀ H', Nx H' → ∃ m', m' < m ∧ W (i + 1) m' H') ∧ ∀ x H', (Itr 0 j.toNat).yld i H x H' → g x (wipe σ us) H' fun σ2 H2 => wipe σ2 us = wipe σ us ∧ tt σ2 H2 fun b H3 =>
    if b = true then te σ2 H3 fun y H4 => ∃ acc, H4 D = some (.lst acc) ∧ acc.length < sizeLine ∧ Nx (upd H4 D (.lst (acc ++ [y]))) else Nx H3)
theorem tLc_rng {t : TA} {g : TG} {tt : TT} {te : TE} {us : List Nat} {σ : L2.St} {H : Hp} {Q : VK} : tLc (iRng1 t) g tt te us σ H Q = t σ H (InnR g tt te us σ Q) := rfl
theorem InnR.of {n : Nat} {g : TG} {te : TE} {us : List Nat} {σ : L2.St} {H : Hp} {Q : VK} (f : Nat → V) (hz : n ≤ 16777216)
    (hs : ∀ i H' R, i < n → Same H H' → (∀ H'', Same H' H'' → R (f i) H'') → g (vi i) (wipe σ us) H' fun σ2 H2 => wipe σ2 us = wipe σ us ∧ te σ2 H2 R) (k : NewL H ((List.range n).map f) Q) : InnR g tYes te us σ Q [.int (n : Int)] H := by
  refine ⟨n, rfl, by omega, by omega, ?_⟩
  rw [Int.toNat_natCast]
  exact lcR f hz hs k
/-- what stands behind a statement, kept shut -/
theorem tSeq_cut {a b : TS} {D : Ends} {σ : L2.St} {H : Hp} (h : ∀ N : L2.St → Hp → Prop, (∀ σ' H', b D σ' H' → N σ' H') → a { D with nx := N } σ H) : tSeq a b D σ H := h (b D) fun _ _ q => q
end Pt
end
section
namespace K45
open PySem PySem.Spec PyProof.Rows L2
def top (i : Nat) : Stmt := PySem.Challenge.pw_piecetexts_k45_whole_spelled_texts_read.main.body.getD i (.Pass ⟨0, 0, 0, 0⟩)
abbrev s_is_integer : Stmt := top 18
def d_is_integer : Pt.DA := ⟨Pt.gAdr "is_integer", "is_integer", "is_integer", s_is_integer, [], []⟩
abbrev s_is_within : Stmt := top 19
def d_is_within : Pt.DA := ⟨Pt.gAdr "is_within", "is_within", "is_within", s_is_within, [], []⟩
abbrev s_is_byte : Stmt := top 20
def d_is_byte : Pt.DA := ⟨Pt.gAdr "is_byte", "is_byte", "is_byte", s_is_byte, [], []⟩
abbrev s_is_sign : Stmt := top 21
def d_is_sign : Pt.DA := ⟨Pt.gAdr "is_sign", "is_sign", "is_sign", s_is_sign, [], []⟩
abbrev s_are_signs : Stmt := top 22
def d_are_signs : Pt.DA := ⟨Pt.gAdr "are_signs", "are_signs", "are_signs", s_are_signs, [], []⟩
abbrev s_are_characters : Stmt := top 23
def d_are_characters : Pt.DA := ⟨Pt.gAdr "are_characters", "are_characters", "are_characters", s_are_characters, [], []⟩
abbrev s_character_of : Stmt := top 24
def d_character_of : Pt.DA := ⟨Pt.gAdr "character_of", "character_of", "character_of", s_character_of, [], []⟩
abbrev s_byte_of : Stmt := top 25
def d_byte_of : Pt.DA := ⟨Pt.gAdr "byte_of", "byte_of", "byte_of", s_byte_of, [], []⟩
abbrev s_data_of : Stmt := top 26
def d_data_of : Pt.DA := ⟨Pt.gAdr "data_of", "data_of", "data_of", s_data_of, [], []⟩
abbrev s_check_text : Stmt := top 27
def d_check_text : Pt.DA := ⟨Pt.gAdr "check_text", "check_text", "check_text", s_check_text, [], []⟩
abbrev s_other_case : Stmt := top 28
def d_other_case : Pt.DA := ⟨Pt.gAdr "other_case", "other_case", "other_case", s_other_case, [], []⟩
abbrev s_rules_for : Stmt := top 31
def d_rules_for : Pt.DA := ⟨Pt.gAdr "rules_for", "rules_for", "rules_for", s_rules_for, [], []⟩
abbrev s_plain_data : Stmt := top 33
def d_plain_data : Pt.DA := ⟨Pt.gAdr "plain_data", "plain_data", "plain_data", s_plain_data, [], []⟩
abbrev s_read_text : Stmt := top 34
def d_read_text : Pt.DA := ⟨Pt.gAdr "read_text", "read_text", "read_text", s_read_text, [.non], []⟩
abbrev s_is_right : Stmt := top 35
def d_is_right : Pt.DA := ⟨Pt.gAdr "is_right", "is_right", "is_right", s_is_right, [.non], []⟩
abbrev s_plain_text : Stmt := top 37
def d_plain_text : Pt.DA := ⟨Pt.gAdr "plain_text", "plain_text", "plain_text", s_plain_text, [], []⟩
abbrev s_text_of : Stmt := top 38
def d_text_of : Pt.DA := ⟨Pt.gAdr "text_of", "text_of", "text_of", s_text_of, [], []⟩
abbrev s_is_option : Stmt := top 43
def d_is_option : Pt.DA := ⟨Pt.gAdr "is_option", "is_option", "is_option", s_is_option, [], []⟩
abbrev s_Rules_init : Stmt := inClass (top 44) 0
def d_Rules_init : Pt.DA := ⟨Pt.fAdr "Rules" "__init__", "__init__", "Rules.__init__", s_Rules_init, [], [("pads", .str "full"), ("skip", .str ""), ("lines", .bl true), ("loose", .bl false), ("fold", .bl false)]⟩
abbrev s_Rules_skip : Stmt := inClass (top 44) 5
def d_Rules_skip : Pt.DA := ⟨Pt.pget "Rules" "skip", "skip", "Rules.skip", s_Rules_skip, [], []⟩
abbrev s_Rules_lines : Stmt := inClass (top 44) 6
def d_Rules_lines : Pt.DA := ⟨Pt.pget "Rules" "lines", "lines", "Rules.lines", s_Rules_lines, [], []⟩
abbrev s_Rules_loose : Stmt := inClass (top 44) 7
def d_Rules_loose : Pt.DA := ⟨Pt.pget "Rules" "loose", "loose", "Rules.loose", s_Rules_loose, [], []⟩
abbrev s_Rules_fold : Stmt := inClass (top 44) 8
def d_Rules_fold : Pt.DA := ⟨Pt.pget "Rules" "fold", "fold", "Rules.fold", s_Rules_fold, [], []⟩
abbrev s_Rules_suit : Stmt := inClass (top 44) 9
def d_Rules_suit : Pt.DA := ⟨Pt.fAdr "Rules" "suit", "suit", "Rules.suit", s_Rules_suit, [], []⟩
abbrev s_Quoted_usual : Stmt := inClass (top 46) 0
def d_Quoted_usual : Pt.DA := ⟨Pt.fAdr "Quoted" "usual", "usual", "Machine.usual", s_Quoted_usual, [], []⟩
abbrev s_Quoted_whole : Stmt := inClass (top 46) 2
def d_Quoted_whole : Pt.DA := ⟨Pt.fAdr "Quoted" "whole", "whole", "Machine.whole", s_Quoted_whole, [], []⟩
abbrev s_Quoted_whole_data : Stmt := inClass (top 46) 4
def d_Quoted_whole_data : Pt.DA := ⟨Pt.fAdr "Quoted" "whole_data", "whole_data", "Machine.whole_data", s_Quoted_whole_data, [], []⟩
abbrev s_hex_digit : Stmt := top 55
def d_hex_digit : Pt.DA := ⟨Pt.gAdr "hex_digit", "hex_digit", "hex_digit", s_hex_digit, [], []⟩
abbrev s_Quoted_init : Stmt := inClass (top 56) 0
def d_Quoted_init : Pt.DA := ⟨Pt.fAdr "Quoted" "__init__", "__init__", "Quoted.__init__", s_Quoted_init, [], [("width", .int 0), ("binary", .bl false), ("also", .str "")]⟩
abbrev s_Quoted_width : Stmt := inClass (top 56) 4
def d_Quoted_width : Pt.DA := ⟨Pt.pget "Quoted" "width", "width", "Quoted.width", s_Quoted_width, [], []⟩
abbrev s_Quoted_binary : Stmt := inClass (top 56) 5
def d_Quoted_binary : Pt.DA := ⟨Pt.pget "Quoted" "binary", "binary", "Quoted.binary", s_Quoted_binary, [], []⟩
abbrev s_Quoted_also : Stmt := inClass (top 56) 6
def d_Quoted_also : Pt.DA := ⟨Pt.pget "Quoted" "also", "also", "Quoted.also", s_Quoted_also, [], []⟩
abbrev s_Quoted_is_newline : Stmt := inClass (top 56) 7
def d_Quoted_is_newline : Pt.DA := ⟨Pt.fAdr "Quoted" "is_newline", "is_newline", "Quoted.is_newline", s_Quoted_is_newline, [], []⟩
abbrev s_Quoted_item_of : Stmt := inClass (top 56) 8
def d_Quoted_item_of : Pt.DA := ⟨Pt.fAdr "Quoted" "item_of", "item_of", "Quoted.item_of", s_Quoted_item_of, [], []⟩
abbrev s_Quoted_begin : Stmt := inClass (top 56) 9
def d_Quoted_begin : Pt.DA := ⟨Pt.fAdr "Quoted" "begin", "begin", "Quoted.begin", s_Quoted_begin, [], []⟩
abbrev s_Quoted_column_behind : Stmt := inClass (top 56) 10
def d_Quoted_column_behind : Pt.DA := ⟨Pt.fAdr "Quoted" "column_behind", "column_behind", "Quoted.column_behind", s_Quoted_column_behind, [], []⟩
abbrev s_Quoted_fits : Stmt := inClass (top 56) 11
def d_Quoted_fits : Pt.DA := ⟨Pt.fAdr "Quoted" "fits", "fits", "Quoted.fits", s_Quoted_fits, [], []⟩
abbrev s_Quoted_placed : Stmt := inClass (top 56) 12
def d_Quoted_placed : Pt.DA := ⟨Pt.fAdr "Quoted" "placed", "placed", "Quoted.placed", s_Quoted_placed, [], []⟩
abbrev s_Quoted_going_on : Stmt := inClass (top 56) 13
def d_Quoted_going_on : Pt.DA := ⟨Pt.fAdr "Quoted" "going_on", "going_on", "Quoted.going_on", s_Quoted_going_on, [], []⟩
abbrev s_Quoted_ending : Stmt := inClass (top 56) 14
def d_Quoted_ending : Pt.DA := ⟨Pt.fAdr "Quoted" "ending", "ending", "Quoted.ending", s_Quoted_ending, [], []⟩
abbrev s_Quoted_write : Stmt := inClass (top 56) 15
def d_Quoted_write : Pt.DA := ⟨Pt.fAdr "Quoted" "write", "write", "Quoted.write", s_Quoted_write, [], []⟩
abbrev s_Quoted_close : Stmt := inClass (top 56) 16
def d_Quoted_close : Pt.DA := ⟨Pt.fAdr "Quoted" "close", "close", "Quoted.close", s_Quoted_close, [], []⟩
abbrev s_Quoted_suits : Stmt := inClass (top 56) 17
def d_Quoted_suits : Pt.DA := ⟨Pt.fAdr "Quoted" "suits", "suits", "Quoted.suits", s_Quoted_suits, [], []⟩
abbrev s_Quoted_opening : Stmt := inClass (top 56) 20
def d_Quoted_opening : Pt.DA := ⟨Pt.fAdr "Quoted" "opening", "opening", "Quoted.opening", s_Quoted_opening, [], []⟩
abbrev s_Quoted_may_end : Stmt := inClass (top 56) 21
def d_Quoted_may_end : Pt.DA := ⟨Pt.fAdr "Quoted" "may_end", "may_end", "Quoted.may_end", s_Quoted_may_end, [], []⟩
abbrev s_Quoted_has_room : Stmt := inClass (top 56) 22
def d_Quoted_has_room : Pt.DA := ⟨Pt.fAdr "Quoted" "has_room", "has_room", "Quoted.has_room", s_Quoted_has_room, [], []⟩
abbrev s_Quoted_next_place : Stmt := inClass (top 56) 23
def d_Quoted_next_place : Pt.DA := ⟨Pt.fAdr "Quoted" "next_place", "next_place", "Quoted.next_place", s_Quoted_next_place, [], []⟩
abbrev s_Quoted_take_digit : Stmt := inClass (top 56) 24
def d_Quoted_take_digit : Pt.DA := ⟨Pt.fAdr "Quoted" "take_digit", "take_digit", "Quoted.take_digit", s_Quoted_take_digit, [], []⟩
abbrev s_Quoted_take : Stmt := inClass (top 56) 25
def d_Quoted_take : Pt.DA := ⟨Pt.fAdr "Quoted" "take", "take", "Quoted.take", s_Quoted_take, [], []⟩
abbrev s_law_bag : Stmt := top 58
def d_law_bag : Pt.DA := ⟨Pt.gAdr "_law_bag", "_law_bag", "_law_bag", s_law_bag, [], []⟩
abbrev s_law_take : Stmt := top 59
def d_law_take : Pt.DA := ⟨Pt.gAdr "_law_take", "_law_take", "_law_take", s_law_take, [], []⟩
abbrev s_law_of : Stmt := top 60
def d_law_of : Pt.DA := ⟨Pt.gAdr "_law_of", "_law_of", "_law_of", s_law_of, [], []⟩
abbrev s_law_all_signs : Stmt := top 61
def d_law_all_signs : Pt.DA := ⟨Pt.gAdr "_law_all_signs", "_law_all_signs", "_law_all_signs", s_law_all_signs, [], []⟩
abbrev s_law_quoted : Stmt := top 62
def d_law_quoted : Pt.DA := ⟨Pt.gAdr "_law_quoted", "_law_quoted", "_law_quoted", s_law_quoted, [], []⟩
abbrev s_law_quoting : Stmt := top 63
def d_law_quoting : Pt.DA := ⟨Pt.gAdr "_law_quoting", "_law_quoting", "_law_quoting", s_law_quoting, [], []⟩
abbrev s_law_bytes : Stmt := top 64
def d_law_bytes : Pt.DA := ⟨Pt.gAdr "_law_bytes", "_law_bytes", "_law_bytes", s_law_bytes, [], []⟩
abbrev s_law_capitals : Stmt := top 65
def d_law_capitals : Pt.DA := ⟨Pt.gAdr "_law_capitals", "_law_capitals", "_law_capitals", s_law_capitals, [], []⟩
abbrev s_law_lines : Stmt := top 66
def d_law_lines : Pt.DA := ⟨Pt.gAdr "_law_lines", "_law_lines", "_law_lines", s_law_lines, [], []⟩
abbrev s_law_rules : Stmt := top 67
def d_law_rules : Pt.DA := ⟨Pt.gAdr "_law_rules", "_law_rules", "_law_rules", s_law_rules, [], []⟩
abbrev s_law_ruling : Stmt := top 68
def d_law_ruling : Pt.DA := ⟨Pt.gAdr "_law_ruling", "_law_ruling", "_law_ruling", s_law_ruling, [], []⟩
abbrev s_law_spelled_item : Stmt := top 69
def d_law_spelled_item : Pt.DA := ⟨Pt.gAdr "_law_spelled_item", "_law_spelled_item", "_law_spelled_item", s_law_spelled_item, [], []⟩
abbrev s_law_spelled : Stmt := top 70
def d_law_spelled : Pt.DA := ⟨Pt.gAdr "_law_spelled", "_law_spelled", "_law_spelled", s_law_spelled, [], []⟩
abbrev s_law : Stmt := top 71
def d_law : Pt.DA := ⟨Pt.gAdr "law", "law", "law", s_law, [], []⟩
def ds : List Pt.DA := ([d_is_integer, d_is_within, d_is_byte, d_is_sign, d_are_signs, d_are_characters, d_character_of, d_byte_of, d_data_of, d_check_text, d_other_case, d_rules_for, d_plain_data, d_read_text, d_is_right, d_plain_text, d_text_of, d_is_option, d_Rules_init, d_Rules_skip, d_Rules_lines, d_Rules_loose, d_Rules_fold, d_Rules_suit, d_Quoted_usual, d_Quoted_whole, d_Quoted_whole_data, d_hex_digit, d_Quoted_init, d_Quoted_width] : List Pt.DA) ++ ([d_Quoted_binary, d_Quoted_also, d_Quoted_is_newline, d_Quoted_item_of, d_Quoted_begin, d_Quoted_column_behind, d_Quoted_fits, d_Quoted_placed, d_Quoted_going_on, d_Quoted_ending, d_Quoted_write, d_Quoted_close, d_Quoted_suits, d_Quoted_opening, d_Quoted_may_end, d_Quoted_has_room, d_Quoted_next_place, d_Quoted_take_digit, d_Quoted_take, d_law_bag, d_law_take, d_law_of, d_law_all_signs, d_law_quoted, d_law_quoting, d_law_bytes, d_law_capitals, d_law_lines, d_law_rules, d_law_ruling] : List Pt.DA) ++ ([d_law_spelled_item, d_law_spelled, d_law] : List Pt.DA)
def k_PRINTED : List Nat := [32, 33, 34, 35, 36, 38, 39, 40, 41, 42, 43, 44, 45, 46, 47, 48, 49, 50, 51, 52, 53, 54, 55, 56, 57, 58, 59, 60, 61, 62, 63, 64, 65, 66, 67, 68, 69, 70, 71, 72, 73, 74, 75, 76, 77, 78, 79, 80, 81, 82, 83, 84, 85, 86, 87, 88, 89, 90, 91, 92, 93, 94, 95, 96, 97, 98, 99, 100, 101, 102, 103, 104, 105, 106, 107, 108, 109, 110, 111, 112, 113, 114, 115, 116, 117, 118, 119, 120, 121, 122, 123, 124, 125, 126]
def k_CHARACTERS : List Nat := [10, 32, 33, 34, 35, 36, 38, 39, 40, 41, 42, 43, 44, 45, 46, 47, 48, 49, 50, 51, 52, 53, 54, 55, 56, 57, 58, 59, 60, 61, 62, 63, 64, 65, 66, 67, 68, 69, 70, 71, 72, 73, 74, 75, 76, 77, 78, 79, 80, 81, 82, 83, 84, 85, 86, 87, 88, 89, 90, 91, 92, 93, 94, 95, 96, 97, 98, 99, 100, 101, 102, 103, 104, 105, 106, 107, 108, 109, 110, 111, 112, 113, 114, 115, 116, 117, 118, 119, 120, 121, 122, 123, 124, 125, 126]
def k_CAPITALS : List Nat := [65, 66, 67, 68, 69, 70, 71, 72, 73, 74, 75, 76, 77, 78, 79, 80, 81, 82, 83, 84, 85, 86, 87, 88, 89, 90]
def k_SMALLS : List Nat := [97, 98, 99, 100, 101, 102, 103, 104, 105, 106, 107, 108, 109, 110, 111, 112, 113, 114, 115, 116, 117, 118, 119, 120, 121, 122]
def k_HEX_DIGITS : List Nat := [48, 49, 50, 51, 52, 53, 54, 55, 56, 57, 65, 66, 67, 68, 69, 70]
def k_NEWLINE : List Nat := [10]
def k_BLANK : List Nat := [32]
def k_ESCAPE : List Nat := [61]
def k_SOFT_BREAK : List Nat := [61, 10]
def fa : List (Pt.Fg → Bool) := ([Pt.fx (.glo "is_integer"), Pt.fx (.glo "is_within"), Pt.fx (.glo "is_byte"), Pt.fx (.glo "is_sign"), Pt.fx (.glo "are_signs"), Pt.fx (.glo "are_characters"), Pt.fx (.glo "character_of"), Pt.fx (.glo "byte_of"), Pt.fx (.glo "data_of"), Pt.fx (.glo "check_text"), Pt.fx (.glo "other_case"), Pt.fx (.glo "rules_for"), Pt.fx (.glo "plain_data"), Pt.fx (.glo "read_text"), Pt.fx (.glo "is_right"), Pt.fx (.glo "plain_text"), Pt.fx (.glo "text_of"), Pt.fx (.glo "is_option"), Pt.fx (.mkr "Rules"), Pt.prp "Rules" "skip", Pt.prp "Rules" "lines", Pt.prp "Rules" "loose", Pt.prp "Rules" "fold", Pt.fx (.meth "Rules" "suit"), Pt.fx (.meth "Quoted" "usual"), Pt.fx (.meth "Quoted" "whole"), Pt.fx (.meth "Quoted" "whole_data"), Pt.fx (.glo "hex_digit"), Pt.fx (.mkr "Quoted"), Pt.prp "Quoted" "width"] : List (Pt.Fg → Bool)) ++ ([Pt.prp "Quoted" "binary", Pt.prp "Quoted" "also", Pt.fx (.meth "Quoted" "is_newline"), Pt.fx (.meth "Quoted" "item_of"), Pt.fx (.meth "Quoted" "begin"), Pt.fx (.meth "Quoted" "column_behind"), Pt.fx (.meth "Quoted" "fits"), Pt.fx (.meth "Quoted" "placed"), Pt.fx (.meth "Quoted" "going_on"), Pt.fx (.meth "Quoted" "ending"), Pt.fx (.meth "Quoted" "write"), Pt.fx (.meth "Quoted" "close"), Pt.fx (.meth "Quoted" "suits"), Pt.fx (.meth "Quoted" "opening"), Pt.fx (.meth "Quoted" "may_end"), Pt.fx (.meth "Quoted" "has_room"), Pt.fx (.meth "Quoted" "next_place"), Pt.fx (.meth "Quoted" "take_digit"), Pt.fx (.meth "Quoted" "take"), Pt.fx (.glo "_law_bag"), Pt.fx (.glo "_law_take"), Pt.fx (.glo "_law_of"), Pt.fx (.glo "_law_all_signs"), Pt.fx (.glo "_law_quoted"), Pt.fx (.glo "_law_quoting"), Pt.fx (.glo "_law_bytes"), Pt.fx (.glo "_law_capitals"), Pt.fx (.glo "_law_lines"), Pt.fx (.glo "_law_rules"), Pt.fx (.glo "_law_ruling")] : List (Pt.Fg → Bool)) ++ ([Pt.fx (.glo "_law_spelled_item"), Pt.fx (.glo "_law_spelled"), Pt.fx (.glo "law"), Pt.fx (.cls "Rules"), Pt.fx (.glo "Rules"), Pt.fx (.cls "Quoted"), Pt.fx (.glo "Quoted"), Pt.fx (.noat "Rules" "options"), Pt.fx (.noat "Quoted" "ways"), Pt.fx (.noat "Quoted" "known_items"), Pt.fx (.free "len"), Pt.fx (.free "isinstance"), Pt.fx (.free "int"), Pt.fx (.free "str"), Pt.fx (.free "bool"), Pt.fx (.free "list"), Pt.fx (.free "tuple"), Pt.fx (.free "ord"), Pt.fx (.free "range"), Pt.fx (.free "enumerate"), Pt.fx (.free "all"), Pt.fx (.free "abs"), Pt.fx (.free "max"), Pt.fx (.free "min"), Pt.fx (.str "PRINTED" (Pt.S k_PRINTED)), Pt.fx (.str "CHARACTERS" (Pt.S k_CHARACTERS)), Pt.fx (.str "CAPITALS" (Pt.S k_CAPITALS)), Pt.fx (.str "SMALLS" (Pt.S k_SMALLS)), Pt.fx (.str "HEX_DIGITS" (Pt.S k_HEX_DIGITS)), Pt.fx (.int "SPACE" 32)] : List (Pt.Fg → Bool)) ++ ([Pt.fx (.int "LINE_FEED" 10), Pt.fx (.int "GAP" 37), Pt.fx (.int "MOST_BYTES" 600), Pt.fx (.int "MOST_CHARACTERS" 12000), Pt.fx (.glo "PADS"), (fun K => He.tupB K "PADS" [.str "full", .str "none", .str "optional", .str "any"]), Pt.fx (.glo "OPTIONS"), (fun K => He.tupB K "OPTIONS" [.str "pads", .str "skip", .str "lines", .str "loose", .str "fold"]), Pt.fx (.str "NEWLINE" (Pt.S k_NEWLINE)), Pt.fx (.str "BLANK" (Pt.S k_BLANK)), Pt.fx (.str "ESCAPE" (Pt.S k_ESCAPE)), Pt.fx (.str "SOFT_BREAK" (Pt.S k_SOFT_BREAK)), Pt.fx (.int "LEAST_WIDTH" 4), Pt.fx (.int "WIDEST" 76), Pt.fx (.int "CODED" 3), Pt.isoB "Rules"] : List (Pt.Fg → Bool))
/-- what the top leaves, by names -/
structure Tx (K : Pt.Fg) (mg : Str → Option Value) : Prop where
  F_is_integer : ∃ z, d_is_integer.Is K z
  F_is_within : ∃ z, d_is_within.Is K z
  F_is_byte : ∃ z, d_is_byte.Is K z
  F_is_sign : ∃ z, d_is_sign.Is K z
  F_are_signs : ∃ z, d_are_signs.Is K z
  F_are_characters : ∃ z, d_are_characters.Is K z
  F_character_of : ∃ z, d_character_of.Is K z
  F_byte_of : ∃ z, d_byte_of.Is K z
  F_data_of : ∃ z, d_data_of.Is K z
  F_check_text : ∃ z, d_check_text.Is K z
  F_other_case : ∃ z, d_other_case.Is K z
  F_rules_for : ∃ z, d_rules_for.Is K z
  F_plain_data : ∃ z, d_plain_data.Is K z
  F_read_text : ∃ z, d_read_text.Is K z
  F_is_right : ∃ z, d_is_right.Is K z
  F_plain_text : ∃ z, d_plain_text.Is K z
  F_text_of : ∃ z, d_text_of.Is K z
  F_is_option : ∃ z, d_is_option.Is K z
  F_Rules_init : ∃ z, d_Rules_init.Is K z
  F_Rules_skip : ∃ z, d_Rules_skip.Is K z
  F_Rules_lines : ∃ z, d_Rules_lines.Is K z
  F_Rules_loose : ∃ z, d_Rules_loose.Is K z
  F_Rules_fold : ∃ z, d_Rules_fold.Is K z
  F_Rules_suit : ∃ z, d_Rules_suit.Is K z
  F_Quoted_usual : ∃ z, d_Quoted_usual.Is K z
  F_Quoted_whole : ∃ z, d_Quoted_whole.Is K z
  F_Quoted_whole_data : ∃ z, d_Quoted_whole_data.Is K z
  F_hex_digit : ∃ z, d_hex_digit.Is K z
  F_Quoted_init : ∃ z, d_Quoted_init.Is K z
  F_Quoted_width : ∃ z, d_Quoted_width.Is K z
  F_Quoted_binary : ∃ z, d_Quoted_binary.Is K z
  F_Quoted_also : ∃ z, d_Quoted_also.Is K z
  F_Quoted_is_newline : ∃ z, d_Quoted_is_newline.Is K z
  F_Quoted_item_of : ∃ z, d_Quoted_item_of.Is K z
  F_Quoted_begin : ∃ z, d_Quoted_begin.Is K z
  F_Quoted_column_behind : ∃ z, d_Quoted_column_behind.Is K z
  F_Quoted_fits : ∃ z, d_Quoted_fits.Is K z
  F_Quoted_placed : ∃ z, d_Quoted_placed.Is K z
  F_Quoted_going_on : ∃ z, d_Quoted_going_on.Is K z
  F_Quoted_ending : ∃ z, d_Quoted_ending.Is K z
  F_Quoted_write : ∃ z, d_Quoted_write.Is K z
  F_Quoted_close : ∃ z, d_Quoted_close.Is K z
  F_Quoted_suits : ∃ z, d_Quoted_suits.Is K z
  F_Quoted_opening : ∃ z, d_Quoted_opening.Is K z
  F_Quoted_may_end : ∃ z, d_Quoted_may_end.Is K z
  F_Quoted_has_room : ∃ z, d_Quoted_has_room.Is K z
  F_Quoted_next_place : ∃ z, d_Quoted_next_place.Is K z
  F_Quoted_take_digit : ∃ z, d_Quoted_take_digit.Is K z
  F_Quoted_take : ∃ z, d_Quoted_take.Is K z
  F_law_bag : ∃ z, d_law_bag.Is K z
  F_law_take : ∃ z, d_law_take.Is K z
  F_law_of : ∃ z, d_law_of.Is K z
  F_law_all_signs : ∃ z, d_law_all_signs.Is K z
  F_law_quoted : ∃ z, d_law_quoted.Is K z
  F_law_quoting : ∃ z, d_law_quoting.Is K z
  F_law_bytes : ∃ z, d_law_bytes.Is K z
  F_law_capitals : ∃ z, d_law_capitals.Is K z
  F_law_lines : ∃ z, d_law_lines.Is K z
  F_law_rules : ∃ z, d_law_rules.Is K z
  F_law_ruling : ∃ z, d_law_ruling.Is K z
  F_law_spelled_item : ∃ z, d_law_spelled_item.Is K z
  F_law_spelled : ∃ z, d_law_spelled.Is K z
  F_law : ∃ z, d_law.Is K z
  g_is_integer : mg "is_integer" = some (.ref (d_is_integer.adr K))
  g_is_within : mg "is_within" = some (.ref (d_is_within.adr K))
  g_is_byte : mg "is_byte" = some (.ref (d_is_byte.adr K))
  g_is_sign : mg "is_sign" = some (.ref (d_is_sign.adr K))
  g_are_signs : mg "are_signs" = some (.ref (d_are_signs.adr K))
  g_are_characters : mg "are_characters" = some (.ref (d_are_characters.adr K))
  g_character_of : mg "character_of" = some (.ref (d_character_of.adr K))
  g_byte_of : mg "byte_of" = some (.ref (d_byte_of.adr K))
  g_data_of : mg "data_of" = some (.ref (d_data_of.adr K))
  g_check_text : mg "check_text" = some (.ref (d_check_text.adr K))
  g_other_case : mg "other_case" = some (.ref (d_other_case.adr K))
  g_rules_for : mg "rules_for" = some (.ref (d_rules_for.adr K))
  g_plain_data : mg "plain_data" = some (.ref (d_plain_data.adr K))
  g_read_text : mg "read_text" = some (.ref (d_read_text.adr K))
  g_is_right : mg "is_right" = some (.ref (d_is_right.adr K))
  g_plain_text : mg "plain_text" = some (.ref (d_plain_text.adr K))
  g_text_of : mg "text_of" = some (.ref (d_text_of.adr K))
  g_is_option : mg "is_option" = some (.ref (d_is_option.adr K))
  k_Rules : Mk K (He.ga K "Rules") (d_Rules_init.adr K)
  p_Rules_skip : PropOf K (He.ga K "Rules") "skip" (Pt.pad "Rules" "skip" K) (d_Rules_skip.adr K)
  p_Rules_lines : PropOf K (He.ga K "Rules") "lines" (Pt.pad "Rules" "lines" K) (d_Rules_lines.adr K)
  p_Rules_loose : PropOf K (He.ga K "Rules") "loose" (Pt.pad "Rules" "loose" K) (d_Rules_loose.adr K)
  p_Rules_fold : PropOf K (He.ga K "Rules") "fold" (Pt.pad "Rules" "fold" K) (d_Rules_fold.adr K)
  m_Rules_suit : Meth K (He.ga K "Rules") "suit" (d_Rules_suit.adr K)
  m_Quoted_usual : Meth K (He.ga K "Quoted") "usual" (d_Quoted_usual.adr K)
  m_Quoted_whole : Meth K (He.ga K "Quoted") "whole" (d_Quoted_whole.adr K)
  m_Quoted_whole_data : Meth K (He.ga K "Quoted") "whole_data" (d_Quoted_whole_data.adr K)
  g_hex_digit : mg "hex_digit" = some (.ref (d_hex_digit.adr K))
  k_Quoted : Mk K (He.ga K "Quoted") (d_Quoted_init.adr K)
  p_Quoted_width : PropOf K (He.ga K "Quoted") "width" (Pt.pad "Quoted" "width" K) (d_Quoted_width.adr K)
  p_Quoted_binary : PropOf K (He.ga K "Quoted") "binary" (Pt.pad "Quoted" "binary" K) (d_Quoted_binary.adr K)
  p_Quoted_also : PropOf K (He.ga K "Quoted") "also" (Pt.pad "Quoted" "also" K) (d_Quoted_also.adr K)
  m_Quoted_is_newline : Meth K (He.ga K "Quoted") "is_newline" (d_Quoted_is_newline.adr K)
  m_Quoted_item_of : Meth K (He.ga K "Quoted") "item_of" (d_Quoted_item_of.adr K)
  m_Quoted_begin : Meth K (He.ga K "Quoted") "begin" (d_Quoted_begin.adr K)
  m_Quoted_column_behind : Meth K (He.ga K "Quoted") "column_behind" (d_Quoted_column_behind.adr K)
  m_Quoted_fits : Meth K (He.ga K "Quoted") "fits" (d_Quoted_fits.adr K)
  m_Quoted_placed : Meth K (He.ga K "Quoted") "placed" (d_Quoted_placed.adr K)
  m_Quoted_going_on : Meth K (He.ga K "Quoted") "going_on" (d_Quoted_going_on.adr K)
  m_Quoted_ending : Meth K (He.ga K "Quoted") "ending" (d_Quoted_ending.adr K)
  m_Quoted_write : Meth K (He.ga K "Quoted") "write" (d_Quoted_write.adr K)
  m_Quoted_close : Meth K (He.ga K "Quoted") "close" (d_Quoted_close.adr K)
  m_Quoted_suits : Meth K (He.ga K "Quoted") "suits" (d_Quoted_suits.adr K)
  m_Quoted_opening : Meth K (He.ga K "Quoted") "opening" (d_Quoted_opening.adr K)
  m_Quoted_may_end : Meth K (He.ga K "Quoted") "may_end" (d_Quoted_may_end.adr K)
  m_Quoted_has_room : Meth K (He.ga K "Quoted") "has_room" (d_Quoted_has_room.adr K)
  m_Quoted_next_place : Meth K (He.ga K "Quoted") "next_place" (d_Quoted_next_place.adr K)
  m_Quoted_take_digit : Meth K (He.ga K "Quoted") "take_digit" (d_Quoted_take_digit.adr K)
  m_Quoted_take : Meth K (He.ga K "Quoted") "take" (d_Quoted_take.adr K)
  g__law_bag : mg "_law_bag" = some (.ref (d_law_bag.adr K))
  g__law_take : mg "_law_take" = some (.ref (d_law_take.adr K))
  g__law_of : mg "_law_of" = some (.ref (d_law_of.adr K))
  g__law_all_signs : mg "_law_all_signs" = some (.ref (d_law_all_signs.adr K))
  g__law_quoted : mg "_law_quoted" = some (.ref (d_law_quoted.adr K))
  g__law_quoting : mg "_law_quoting" = some (.ref (d_law_quoting.adr K))
  g__law_bytes : mg "_law_bytes" = some (.ref (d_law_bytes.adr K))
  g__law_capitals : mg "_law_capitals" = some (.ref (d_law_capitals.adr K))
  g__law_lines : mg "_law_lines" = some (.ref (d_law_lines.adr K))
  g__law_rules : mg "_law_rules" = some (.ref (d_law_rules.adr K))
  g__law_ruling : mg "_law_ruling" = some (.ref (d_law_ruling.adr K))
  g__law_spelled_item : mg "_law_spelled_item" = some (.ref (d_law_spelled_item.adr K))
  g__law_spelled : mg "_law_spelled" = some (.ref (d_law_spelled.adr K))
  g_law : mg "law" = some (.ref (d_law.adr K))
  c_Rules : Cls K (He.ga K "Rules")
  g_Rules : mg "Rules" = some (.ref (He.ga K "Rules"))
  c_Quoted : Cls K (He.ga K "Quoted")
  g_Quoted : mg "Quoted" = some (.ref (He.ga K "Quoted"))
  a_Rules_options : NoAttr K (He.ga K "Rules") "options"
  a_Quoted_ways : NoAttr K (He.ga K "Quoted") "ways"
  a_Quoted_known_items : NoAttr K (He.ga K "Quoted") "known_items"
  n_len : mg "len" = none
  n_isinstance : mg "isinstance" = none
  n_int : mg "int" = none
  n_str : mg "str" = none
  n_bool : mg "bool" = none
  n_list : mg "list" = none
  n_tuple : mg "tuple" = none
  n_ord : mg "ord" = none
  n_range : mg "range" = none
  n_enumerate : mg "enumerate" = none
  n_all : mg "all" = none
  n_abs : mg "abs" = none
  n_max : mg "max" = none
  n_min : mg "min" = none
  s_PRINTED : ∃ t, mg "PRINTED" = some (.str (Pt.S k_PRINTED) t)
  s_CHARACTERS : ∃ t, mg "CHARACTERS" = some (.str (Pt.S k_CHARACTERS) t)
  s_CAPITALS : ∃ t, mg "CAPITALS" = some (.str (Pt.S k_CAPITALS) t)
  s_SMALLS : ∃ t, mg "SMALLS" = some (.str (Pt.S k_SMALLS) t)
  s_HEX_DIGITS : ∃ t, mg "HEX_DIGITS" = some (.str (Pt.S k_HEX_DIGITS) t)
  i_SPACE : ∃ t, mg "SPACE" = some (.int 32 t)
  i_LINE_FEED : ∃ t, mg "LINE_FEED" = some (.int 10 t)
  i_GAP : ∃ t, mg "GAP" = some (.int 37 t)
  i_MOST_BYTES : ∃ t, mg "MOST_BYTES" = some (.int 600 t)
  i_MOST_CHARACTERS : ∃ t, mg "MOST_CHARACTERS" = some (.int 12000 t)
  g_PADS : mg "PADS" = some (.ref (He.ga K "PADS"))
  t_PADS : ∀ H : Hp, SqT K H (He.ga K "PADS") [.str "full", .str "none", .str "optional", .str "any"]
  g_OPTIONS : mg "OPTIONS" = some (.ref (He.ga K "OPTIONS"))
  t_OPTIONS : ∀ H : Hp, SqT K H (He.ga K "OPTIONS") [.str "pads", .str "skip", .str "lines", .str "loose", .str "fold"]
  s_NEWLINE : ∃ t, mg "NEWLINE" = some (.str (Pt.S k_NEWLINE) t)
  s_BLANK : ∃ t, mg "BLANK" = some (.str (Pt.S k_BLANK) t)
  s_ESCAPE : ∃ t, mg "ESCAPE" = some (.str (Pt.S k_ESCAPE) t)
  s_SOFT_BREAK : ∃ t, mg "SOFT_BREAK" = some (.str (Pt.S k_SOFT_BREAK) t)
  i_LEAST_WIDTH : ∃ t, mg "LEAST_WIDTH" = some (.int 4 t)
  i_WIDEST : ∃ t, mg "WIDEST" = some (.int 76 t)
  i_CODED : ∃ t, mg "CODED" = some (.int 3 t)
  j_Rules : Pt.Iso K (He.ga K "Rules")
theorem Tx.of {K : Pt.Fg} {h : Heap} {mg : Str → Option Value} (X : K.In h) (G : h.Ns mainGlobals mg) (c : Pt.Says fa ds K) : Tx K mg where
  F_is_integer := c.df 0 (d := d_is_integer) rfl
  F_is_within := c.df 1 (d := d_is_within) rfl
  F_is_byte := c.df 2 (d := d_is_byte) rfl
  F_is_sign := c.df 3 (d := d_is_sign) rfl
  F_are_signs := c.df 4 (d := d_are_signs) rfl
  F_are_characters := c.df 5 (d := d_are_characters) rfl
  F_character_of := c.df 6 (d := d_character_of) rfl
  F_byte_of := c.df 7 (d := d_byte_of) rfl
  F_data_of := c.df 8 (d := d_data_of) rfl
  F_check_text := c.df 9 (d := d_check_text) rfl
  F_other_case := c.df 10 (d := d_other_case) rfl
  F_rules_for := c.df 11 (d := d_rules_for) rfl
  F_plain_data := c.df 12 (d := d_plain_data) rfl
  F_read_text := c.df 13 (d := d_read_text) rfl
  F_is_right := c.df 14 (d := d_is_right) rfl
  F_plain_text := c.df 15 (d := d_plain_text) rfl
  F_text_of := c.df 16 (d := d_text_of) rfl
  F_is_option := c.df 17 (d := d_is_option) rfl
  F_Rules_init := c.df 18 (d := d_Rules_init) rfl
  F_Rules_skip := c.df 19 (d := d_Rules_skip) rfl
  F_Rules_lines := c.df 20 (d := d_Rules_lines) rfl
  F_Rules_loose := c.df 21 (d := d_Rules_loose) rfl
  F_Rules_fold := c.df 22 (d := d_Rules_fold) rfl
  F_Rules_suit := c.df 23 (d := d_Rules_suit) rfl
  F_Quoted_usual := c.df 24 (d := d_Quoted_usual) rfl
  F_Quoted_whole := c.df 25 (d := d_Quoted_whole) rfl
  F_Quoted_whole_data := c.df 26 (d := d_Quoted_whole_data) rfl
  F_hex_digit := c.df 27 (d := d_hex_digit) rfl
  F_Quoted_init := c.df 28 (d := d_Quoted_init) rfl
  F_Quoted_width := c.df 29 (d := d_Quoted_width) rfl
  F_Quoted_binary := c.df 30 (d := d_Quoted_binary) rfl
  F_Quoted_also := c.df 31 (d := d_Quoted_also) rfl
  F_Quoted_is_newline := c.df 32 (d := d_Quoted_is_newline) rfl
  F_Quoted_item_of := c.df 33 (d := d_Quoted_item_of) rfl
  F_Quoted_begin := c.df 34 (d := d_Quoted_begin) rfl
  F_Quoted_column_behind := c.df 35 (d := d_Quoted_column_behind) rfl
  F_Quoted_fits := c.df 36 (d := d_Quoted_fits) rfl
  F_Quoted_placed := c.df 37 (d := d_Quoted_placed) rfl
  F_Quoted_going_on := c.df 38 (d := d_Quoted_going_on) rfl
  F_Quoted_ending := c.df 39 (d := d_Quoted_ending) rfl
  F_Quoted_write := c.df 40 (d := d_Quoted_write) rfl
  F_Quoted_close := c.df 41 (d := d_Quoted_close) rfl
  F_Quoted_suits := c.df 42 (d := d_Quoted_suits) rfl
  F_Quoted_opening := c.df 43 (d := d_Quoted_opening) rfl
  F_Quoted_may_end := c.df 44 (d := d_Quoted_may_end) rfl
  F_Quoted_has_room := c.df 45 (d := d_Quoted_has_room) rfl
  F_Quoted_next_place := c.df 46 (d := d_Quoted_next_place) rfl
  F_Quoted_take_digit := c.df 47 (d := d_Quoted_take_digit) rfl
  F_Quoted_take := c.df 48 (d := d_Quoted_take) rfl
  F_law_bag := c.df 49 (d := d_law_bag) rfl
  F_law_take := c.df 50 (d := d_law_take) rfl
  F_law_of := c.df 51 (d := d_law_of) rfl
  F_law_all_signs := c.df 52 (d := d_law_all_signs) rfl
  F_law_quoted := c.df 53 (d := d_law_quoted) rfl
  F_law_quoting := c.df 54 (d := d_law_quoting) rfl
  F_law_bytes := c.df 55 (d := d_law_bytes) rfl
  F_law_capitals := c.df 56 (d := d_law_capitals) rfl
  F_law_lines := c.df 57 (d := d_law_lines) rfl
  F_law_rules := c.df 58 (d := d_law_rules) rfl
  F_law_ruling := c.df 59 (d := d_law_ruling) rfl
  F_law_spelled_item := c.df 60 (d := d_law_spelled_item) rfl
  F_law_spelled := c.df 61 (d := d_law_spelled) rfl
  F_law := c.df 62 (d := d_law) rfl
  g_is_integer := He.glo_ok X G (c.fact 0 (f := Pt.fx (.glo "is_integer")) rfl)
  g_is_within := He.glo_ok X G (c.fact 1 (f := Pt.fx (.glo "is_within")) rfl)
  g_is_byte := He.glo_ok X G (c.fact 2 (f := Pt.fx (.glo "is_byte")) rfl)
  g_is_sign := He.glo_ok X G (c.fact 3 (f := Pt.fx (.glo "is_sign")) rfl)
  g_are_signs := He.glo_ok X G (c.fact 4 (f := Pt.fx (.glo "are_signs")) rfl)
  g_are_characters := He.glo_ok X G (c.fact 5 (f := Pt.fx (.glo "are_characters")) rfl)
  g_character_of := He.glo_ok X G (c.fact 6 (f := Pt.fx (.glo "character_of")) rfl)
  g_byte_of := He.glo_ok X G (c.fact 7 (f := Pt.fx (.glo "byte_of")) rfl)
  g_data_of := He.glo_ok X G (c.fact 8 (f := Pt.fx (.glo "data_of")) rfl)
  g_check_text := He.glo_ok X G (c.fact 9 (f := Pt.fx (.glo "check_text")) rfl)
  g_other_case := He.glo_ok X G (c.fact 10 (f := Pt.fx (.glo "other_case")) rfl)
  g_rules_for := He.glo_ok X G (c.fact 11 (f := Pt.fx (.glo "rules_for")) rfl)
  g_plain_data := He.glo_ok X G (c.fact 12 (f := Pt.fx (.glo "plain_data")) rfl)
  g_read_text := He.glo_ok X G (c.fact 13 (f := Pt.fx (.glo "read_text")) rfl)
  g_is_right := He.glo_ok X G (c.fact 14 (f := Pt.fx (.glo "is_right")) rfl)
  g_plain_text := He.glo_ok X G (c.fact 15 (f := Pt.fx (.glo "plain_text")) rfl)
  g_text_of := He.glo_ok X G (c.fact 16 (f := Pt.fx (.glo "text_of")) rfl)
  g_is_option := He.glo_ok X G (c.fact 17 (f := Pt.fx (.glo "is_option")) rfl)
  k_Rules := He.mkr_ok (c.fact 18 (f := Pt.fx (.mkr "Rules")) rfl)
  p_Rules_skip := Pt.prp_ok (c.fact 19 (f := Pt.prp "Rules" "skip") rfl)
  p_Rules_lines := Pt.prp_ok (c.fact 20 (f := Pt.prp "Rules" "lines") rfl)
  p_Rules_loose := Pt.prp_ok (c.fact 21 (f := Pt.prp "Rules" "loose") rfl)
  p_Rules_fold := Pt.prp_ok (c.fact 22 (f := Pt.prp "Rules" "fold") rfl)
  m_Rules_suit := He.meth_ok (c.fact 23 (f := Pt.fx (.meth "Rules" "suit")) rfl)
  m_Quoted_usual := He.meth_ok (c.fact 24 (f := Pt.fx (.meth "Quoted" "usual")) rfl)
  m_Quoted_whole := He.meth_ok (c.fact 25 (f := Pt.fx (.meth "Quoted" "whole")) rfl)
  m_Quoted_whole_data := He.meth_ok (c.fact 26 (f := Pt.fx (.meth "Quoted" "whole_data")) rfl)
  g_hex_digit := He.glo_ok X G (c.fact 27 (f := Pt.fx (.glo "hex_digit")) rfl)
  k_Quoted := He.mkr_ok (c.fact 28 (f := Pt.fx (.mkr "Quoted")) rfl)
  p_Quoted_width := Pt.prp_ok (c.fact 29 (f := Pt.prp "Quoted" "width") rfl)
  p_Quoted_binary := Pt.prp_ok (c.fact 30 (f := Pt.prp "Quoted" "binary") rfl)
  p_Quoted_also := Pt.prp_ok (c.fact 31 (f := Pt.prp "Quoted" "also") rfl)
  m_Quoted_is_newline := He.meth_ok (c.fact 32 (f := Pt.fx (.meth "Quoted" "is_newline")) rfl)
  m_Quoted_item_of := He.meth_ok (c.fact 33 (f := Pt.fx (.meth "Quoted" "item_of")) rfl)
  m_Quoted_begin := He.meth_ok (c.fact 34 (f := Pt.fx (.meth "Quoted" "begin")) rfl)
  m_Quoted_column_behind := He.meth_ok (c.fact 35 (f := Pt.fx (.meth "Quoted" "column_behind")) rfl)
  m_Quoted_fits := He.meth_ok (c.fact 36 (f := Pt.fx (.meth "Quoted" "fits")) rfl)
  m_Quoted_placed := He.meth_ok (c.fact 37 (f := Pt.fx (.meth "Quoted" "placed")) rfl)
  m_Quoted_going_on := He.meth_ok (c.fact 38 (f := Pt.fx (.meth "Quoted" "going_on")) rfl)
  m_Quoted_ending := He.meth_ok (c.fact 39 (f := Pt.fx (.meth "Quoted" "ending")) rfl)
  m_Quoted_write := He.meth_ok (c.fact 40 (f := Pt.fx (.meth "Quoted" "write")) rfl)
  m_Quoted_close := He.meth_ok (c.fact 41 (f := Pt.fx (.meth "Quoted" "close")) rfl)
  m_Quoted_suits := He.meth_ok (c.fact 42 (f := Pt.fx (.meth "Quoted" "suits")) rfl)
  m_Quoted_opening := He.meth_ok (c.fact 43 (f := Pt.fx (.meth "Quoted" "opening")) rfl)
  m_Quoted_may_end := He.meth_ok (c.fact 44 (f := Pt.fx (.meth "Quoted" "may_end")) rfl)
  m_Quoted_has_room := He.meth_ok (c.fact 45 (f := Pt.fx (.meth "Quoted" "has_room")) rfl)
  m_Quoted_next_place := He.meth_ok (c.fact 46 (f := Pt.fx (.meth "Quoted" "next_place")) rfl)
  m_Quoted_take_digit := He.meth_ok (c.fact 47 (f := Pt.fx (.meth "Quoted" "take_digit")) rfl)
  m_Quoted_take := He.meth_ok (c.fact 48 (f := Pt.fx (.meth "Quoted" "take")) rfl)
  g__law_bag := He.glo_ok X G (c.fact 49 (f := Pt.fx (.glo "_law_bag")) rfl)
  g__law_take := He.glo_ok X G (c.fact 50 (f := Pt.fx (.glo "_law_take")) rfl)
  g__law_of := He.glo_ok X G (c.fact 51 (f := Pt.fx (.glo "_law_of")) rfl)
  g__law_all_signs := He.glo_ok X G (c.fact 52 (f := Pt.fx (.glo "_law_all_signs")) rfl)
  g__law_quoted := He.glo_ok X G (c.fact 53 (f := Pt.fx (.glo "_law_quoted")) rfl)
  g__law_quoting := He.glo_ok X G (c.fact 54 (f := Pt.fx (.glo "_law_quoting")) rfl)
  g__law_bytes := He.glo_ok X G (c.fact 55 (f := Pt.fx (.glo "_law_bytes")) rfl)
  g__law_capitals := He.glo_ok X G (c.fact 56 (f := Pt.fx (.glo "_law_capitals")) rfl)
  g__law_lines := He.glo_ok X G (c.fact 57 (f := Pt.fx (.glo "_law_lines")) rfl)
  g__law_rules := He.glo_ok X G (c.fact 58 (f := Pt.fx (.glo "_law_rules")) rfl)
  g__law_ruling := He.glo_ok X G (c.fact 59 (f := Pt.fx (.glo "_law_ruling")) rfl)
  g__law_spelled_item := He.glo_ok X G (c.fact 60 (f := Pt.fx (.glo "_law_spelled_item")) rfl)
  g__law_spelled := He.glo_ok X G (c.fact 61 (f := Pt.fx (.glo "_law_spelled")) rfl)
  g_law := He.glo_ok X G (c.fact 62 (f := Pt.fx (.glo "law")) rfl)
  c_Rules := He.cls_ok (c.fact 63 (f := Pt.fx (.cls "Rules")) rfl)
  g_Rules := He.glo_ok X G (c.fact 64 (f := Pt.fx (.glo "Rules")) rfl)
  c_Quoted := He.cls_ok (c.fact 65 (f := Pt.fx (.cls "Quoted")) rfl)
  g_Quoted := He.glo_ok X G (c.fact 66 (f := Pt.fx (.glo "Quoted")) rfl)
  a_Rules_options := He.noat_ok (c.fact 67 (f := Pt.fx (.noat "Rules" "options")) rfl)
  a_Quoted_ways := He.noat_ok (c.fact 68 (f := Pt.fx (.noat "Quoted" "ways")) rfl)
  a_Quoted_known_items := He.noat_ok (c.fact 69 (f := Pt.fx (.noat "Quoted" "known_items")) rfl)
  n_len := He.free_ok X G (c.fact 70 (f := Pt.fx (.free "len")) rfl)
  n_isinstance := He.free_ok X G (c.fact 71 (f := Pt.fx (.free "isinstance")) rfl)
  n_int := He.free_ok X G (c.fact 72 (f := Pt.fx (.free "int")) rfl)
  n_str := He.free_ok X G (c.fact 73 (f := Pt.fx (.free "str")) rfl)
  n_bool := He.free_ok X G (c.fact 74 (f := Pt.fx (.free "bool")) rfl)
  n_list := He.free_ok X G (c.fact 75 (f := Pt.fx (.free "list")) rfl)
  n_tuple := He.free_ok X G (c.fact 76 (f := Pt.fx (.free "tuple")) rfl)
  n_ord := He.free_ok X G (c.fact 77 (f := Pt.fx (.free "ord")) rfl)
  n_range := He.free_ok X G (c.fact 78 (f := Pt.fx (.free "range")) rfl)
  n_enumerate := He.free_ok X G (c.fact 79 (f := Pt.fx (.free "enumerate")) rfl)
  n_all := He.free_ok X G (c.fact 80 (f := Pt.fx (.free "all")) rfl)
  n_abs := He.free_ok X G (c.fact 81 (f := Pt.fx (.free "abs")) rfl)
  n_max := He.free_ok X G (c.fact 82 (f := Pt.fx (.free "max")) rfl)
  n_min := He.free_ok X G (c.fact 83 (f := Pt.fx (.free "min")) rfl)
  s_PRINTED := He.str_ok X G (c.fact 84 (f := Pt.fx (.str "PRINTED" (Pt.S k_PRINTED))) rfl)
  s_CHARACTERS := He.str_ok X G (c.fact 85 (f := Pt.fx (.str "CHARACTERS" (Pt.S k_CHARACTERS))) rfl)
  s_CAPITALS := He.str_ok X G (c.fact 86 (f := Pt.fx (.str "CAPITALS" (Pt.S k_CAPITALS))) rfl)
  s_SMALLS := He.str_ok X G (c.fact 87 (f := Pt.fx (.str "SMALLS" (Pt.S k_SMALLS))) rfl)
  s_HEX_DIGITS := He.str_ok X G (c.fact 88 (f := Pt.fx (.str "HEX_DIGITS" (Pt.S k_HEX_DIGITS))) rfl)
  i_SPACE := He.int_ok X G (c.fact 89 (f := Pt.fx (.int "SPACE" 32)) rfl)
  i_LINE_FEED := He.int_ok X G (c.fact 90 (f := Pt.fx (.int "LINE_FEED" 10)) rfl)
  i_GAP := He.int_ok X G (c.fact 91 (f := Pt.fx (.int "GAP" 37)) rfl)
  i_MOST_BYTES := He.int_ok X G (c.fact 92 (f := Pt.fx (.int "MOST_BYTES" 600)) rfl)
  i_MOST_CHARACTERS := He.int_ok X G (c.fact 93 (f := Pt.fx (.int "MOST_CHARACTERS" 12000)) rfl)
  g_PADS := He.glo_ok X G (c.fact 94 (f := Pt.fx (.glo "PADS")) rfl)
  t_PADS := He.tupB_ok (c.fact 95 (f := (fun K => He.tupB K "PADS" [.str "full", .str "none", .str "optional", .str "any"])) rfl)
  g_OPTIONS := He.glo_ok X G (c.fact 96 (f := Pt.fx (.glo "OPTIONS")) rfl)
  t_OPTIONS := He.tupB_ok (c.fact 97 (f := (fun K => He.tupB K "OPTIONS" [.str "pads", .str "skip", .str "lines", .str "loose", .str "fold"])) rfl)
  s_NEWLINE := He.str_ok X G (c.fact 98 (f := Pt.fx (.str "NEWLINE" (Pt.S k_NEWLINE))) rfl)
  s_BLANK := He.str_ok X G (c.fact 99 (f := Pt.fx (.str "BLANK" (Pt.S k_BLANK))) rfl)
  s_ESCAPE := He.str_ok X G (c.fact 100 (f := Pt.fx (.str "ESCAPE" (Pt.S k_ESCAPE))) rfl)
  s_SOFT_BREAK := He.str_ok X G (c.fact 101 (f := Pt.fx (.str "SOFT_BREAK" (Pt.S k_SOFT_BREAK))) rfl)
  i_LEAST_WIDTH := He.int_ok X G (c.fact 102 (f := Pt.fx (.int "LEAST_WIDTH" 4)) rfl)
  i_WIDEST := He.int_ok X G (c.fact 103 (f := Pt.fx (.int "WIDEST" 76)) rfl)
  i_CODED := He.int_ok X G (c.fact 104 (f := Pt.fx (.int "CODED" 3)) rfl)
  j_Rules := Pt.isoB_ok (c.fact 105 (f := Pt.isoB "Rules") rfl)
abbrev R : PySem.W.OpenRow := PySem.W.OpenLaw.row PySem.Challenge.rw_piecetexts_k45_whole_spelled_texts_read
def xs : List Str := (["is_integer", "is_within", "is_byte", "is_sign", "are_signs", "are_characters", "character_of", "byte_of", "data_of", "check_text", "other_case", "rules_for", "plain_data", "read_text", "is_right", "plain_text", "text_of", "is_option", "hex_digit", "_law_bag", "_law_take", "_law_of", "_law_all_signs", "_law_quoted", "_law_quoting", "_law_bytes", "_law_capitals", "_law_lines", "_law_rules", "_law_ruling"] : List Str) ++ (["_law_spelled_item", "_law_spelled", "law", "PADS", "OPTIONS"] : List Str)
def cs : List Str := ["Rules", "Quoted"]
abbrev hk : PySem.W.Hook := Pt.hook xs cs fa ds
def ob (s : PySem.W.SharedT) : Pt.Ob := Pt.obs xs cs fa ds (HandSHeadRun.getT s)
theorem ob_eq (s : PySem.W.SharedT) : ob s = hk.obs s.abs := Pt.obs_eq (HandSHeadRun.getT_eq s)
def names : List PySem.Str := (["_wall", "BadOption", "NoByte", "NoCharacter", "Wrong", "Unfit", "PRINTED", "CHARACTERS", "CAPITALS", "SMALLS", "HEX_DIGITS", "SPACE", "LINE_FEED", "GAP", "MOST_BYTES", "MOST_CHARACTERS", "is_integer", "is_within", "is_byte", "is_sign", "are_signs", "are_characters", "character_of", "byte_of", "data_of", "check_text", "other_case", "END", "rules_for", "state_behind"] : List PySem.Str) ++ (["plain_data", "read_text", "is_right", "plain_text", "text_of", "PADS", "SWITCHES", "OPTIONS", "is_option", "Rules", "Machine", "NEWLINE", "BLANK", "ESCAPE", "SOFT_BREAK", "LEAST_WIDTH", "WIDEST", "CODED", "hex_digit", "Quoted", "_law_bag", "_law_take", "_law_of", "_law_all_signs", "_law_quoted", "_law_quoting", "_law_bytes", "_law_capitals", "_law_lines", "_law_rules"] : List PySem.Str) ++ (["_law_ruling", "_law_spelled_item", "_law_spelled"] : List PySem.Str)
end K45
end
section
namespace K45
open PySem PySem.Spec PyProof.Rows L2 Pt
theorem kNL : k_NEWLINE = [10] := rfl
theorem kBL : k_BLANK = [32] := rfl
theorem kES : k_ESCAPE = [61] := rfl
theorem kSB : k_SOFT_BREAK = [61, 10] := rfl
/-! ### plain sides -/
def isSign (c : Nat) : Bool := decide (33 ≤ c ∧ c ≤ 126 ∧ c ≠ 37)
def isSignS : List Nat → Bool
  | [c] => isSign c
  | _ => false
theorem mem_iff {l : List Nat} {p : Nat → Bool} (N : Nat) (h1 : ∀ c ∈ l, p c = true) (h2 : ∀ c : Fin N, p c.1 = true → c.1 ∈ l) (h3 : ∀ c, p c = true → c < N) (c : Nat) : (c ∈ l) = (p c = true) :=
  propext ⟨h1 c, fun h => h2 ⟨c, h3 c h⟩ h⟩
def prP (c : Nat) : Bool := decide (32 ≤ c ∧ c ≤ 126 ∧ c ≠ 37)
theorem mem_PRINTED (c : Nat) : (c ∈ k_PRINTED) = (prP c = true) := mem_iff 127 (by decide +kernel) (by decide +kernel) (by intro c h; simp [prP] at h; omega) c
theorem mem_CHARACTERS (c : Nat) : (c ∈ k_CHARACTERS) = (c = 10 ∨ prP c = true) := by
  have e : k_CHARACTERS = 10 :: k_PRINTED := by decide +kernel
  rw [e, List.mem_cons, mem_PRINTED]
def hxP (c : Nat) : Bool := decide ((48 ≤ c ∧ c ≤ 57) ∨ (65 ≤ c ∧ c ≤ 70))
theorem mem_HEX (c : Nat) : (c ∈ k_HEX_DIGITS) = (hxP c = true) := mem_iff 127 (by decide +kernel) (by decide +kernel) (by intro c h; simp [hxP] at h; omega) c
def capP (c : Nat) : Bool := decide (65 ≤ c ∧ c ≤ 90)
theorem mem_CAPITALS (c : Nat) : (c ∈ k_CAPITALS) = (capP c = true) := mem_iff 127 (by decide +kernel) (by decide +kernel) (by intro c h; simp [capP] at h; omega) c
def smlP (c : Nat) : Bool := decide (97 ≤ c ∧ c ≤ 122)
theorem mem_SMALLS (c : Nat) : (c ∈ k_SMALLS) = (smlP c = true) := mem_iff 127 (by decide +kernel) (by decide +kernel) (by intro c h; simp [smlP] at h; omega) c
/-- character_of -/
def chr (n : Nat) : List Nat := if n = 10 then [10] else if prP n then [n] else []
theorem get_PRINTED : ∀ n : Fin 256, prP n.1 = true → k_PRINTED[n.1 - 32 - (if 37 < n.1 then 1 else 0)]? = some n.1 := by decide +kernel
theorem ix_CAP : ∀ c : Fin 127, capP c.1 = true → Builtin.Str.occurrences (Pt.S k_CAPITALS) (Pt.S [c.1]) 0 k_CAPITALS.length 1 = [c.1 - 65] := by decide +kernel
theorem ix_SML : ∀ c : Fin 127, smlP c.1 = true → Builtin.Str.occurrences (Pt.S k_SMALLS) (Pt.S [c.1]) 0 k_SMALLS.length 1 = [c.1 - 97] := by decide +kernel
theorem get_SML : ∀ c : Fin 127, capP c.1 = true → k_SMALLS[c.1 - 65]? = some (c.1 + 32) := by decide +kernel
theorem get_CAP : ∀ c : Fin 127, smlP c.1 = true → k_CAPITALS[c.1 - 97]? = some (c.1 - 32) := by decide +kernel
def other (c : Nat) : List Nat := if capP c then [c + 32] else if smlP c then [c - 32] else []
section
variable {P : Program} {w : World} {K : Fg} {mg : Str → Option Value} {base : Heap}
theorem sc_is_integer : FnScope ["value"] ["value"] (defScope s_is_integer) := ⟨rfl, rfl, rfl, by decide +kernel, rfl, by decide +kernel, by decide +kernel⟩
theorem ok_is_integer (T : Tx K mg) : Fok P w K mg base 1 d_is_integer ["value"] [] (spI fun _ => .bl true) := by
  refine fok T.F_is_integer sc_is_integer (fun vs H Q E h => ?_) (fun _ _ _ _ _ _ us hl => match us, hl with | [_], _ => rfl) (fun cdv A outer s H vs Q E hr h => ?_)
  · obtain ⟨i, rfl, _⟩ := h; rfl
  · obtain ⟨i, rfl, k⟩ := h
    have hu := hu_of hr
    refine ⟨_, (pss_one (ps_ret (pe_and (pe_callB call_isi (by rfl) T.n_isinstance (by decide +kernel) (pa_cons (pv 0) (pa_cons (pe_tyN (n := "int") T.n_int (by decide +kernel)) pa_nil))) (pe_one (pe_not (pe_callB call_isi (by rfl) T.n_isinstance (by decide +kernel) (pa_cons (pv 0) (pa_cons (pe_tyN (n := "bool") T.n_bool (by decide +kernel)) pa_nil)))))))), ?_⟩
    simp [tPar, tPar3, -List.lookup_eq_none_iff, sizeLine_eq, tSl, tPart, tNoPart, rSlS, cut_lo, cut_hi, gc_cons, gn_nil, tJs, tFmt8, S_empty, tTup, tNever, tNext, tM1, tM0, tRet, tRetN, tAndV, tOrV, tNotV, tCall, tMeth, tProp, tVar, tC, tCons, tNil, L2.start, tChain, tTest, rI, rI0, tOp, tUn, tSeq, tIfS, tAnd, tOr, tNot, tB, tIf, tAsg, gName, tDrop, tCB, tFld, rEq, rNe, scal, rIsi_int, rIsi_bl, rIsi_str, rIsi_non, kit_ii, kit_ib, kit_is, kit_bi, kit_bb, kit_bs, kit_si, kit_sb, kit_ss, kit_ni, kit_nb, kit_ns, S_inj, S_app, S_len, S_list, S_one, lit_no, lit_sp, lit_nl, lit_eq, cx_K, ex2, ex3, ex2b, rd_spN, rd_spC, rd_spI, rd_spIII, rd_spS, kNL, kBL, kES, kSB, k]
theorem sc_is_within : FnScope ["value", "low", "high"] ["value", "low", "high"] (defScope s_is_within) := ⟨rfl, rfl, rfl, by decide +kernel, rfl, by decide +kernel, by decide +kernel⟩
theorem ok_is_within (T : Tx K mg) : Fok P w K mg base 2 d_is_within ["value", "low", "high"] [] (spIII fun i a b => .bl (decide (a ≤ i ∧ i ≤ b))) := by
  refine fok T.F_is_within sc_is_within (fun vs H Q E h => ?_) (fun _ _ _ _ _ _ us hl => match us, hl with | [_, _, _], _ => rfl) (fun cdv A outer s H vs Q E hr h => ?_)
  · obtain ⟨i, a, b, rfl, _⟩ := h; rfl
  · obtain ⟨i, a, b, rfl, k⟩ := h
    have hu := hu_of hr
    refine ⟨_, (pss_one (ps_ret (pe_and (pe_cF (ok_is_integer T) (hr.mono (by decide)) T.g_is_integer (pa_cons (pv 0) pa_nil)) (pe_one (pe_chain op_le op_le (pv 1) (pv 0) (pv 2)))))), ?_⟩
    simp [tPar, tPar3, -List.lookup_eq_none_iff, sizeLine_eq, tSl, tPart, tNoPart, rSlS, cut_lo, cut_hi, gc_cons, gn_nil, tJs, tFmt8, S_empty, tTup, tNever, tNext, tM1, tM0, tRet, tRetN, tAndV, tOrV, tNotV, tCall, tMeth, tProp, tVar, tC, tCons, tNil, L2.start, tChain, tTest, rI, rI0, tOp, tUn, tSeq, tIfS, tAnd, tOr, tNot, tB, tIf, tAsg, gName, tDrop, tCB, tFld, rEq, rNe, scal, rIsi_int, rIsi_bl, rIsi_str, rIsi_non, kit_ii, kit_ib, kit_is, kit_bi, kit_bb, kit_bs, kit_si, kit_sb, kit_ss, kit_ni, kit_nb, kit_ns, S_inj, S_app, S_len, S_list, S_one, lit_no, lit_sp, lit_nl, lit_eq, cx_K, ex2, ex3, ex2b, rd_spN, rd_spC, rd_spI, rd_spIII, rd_spS, kNL, kBL, kES, kSB]
    split <;> simp_all
theorem sc_is_byte : FnScope ["value"] ["value"] (defScope s_is_byte) := ⟨rfl, rfl, rfl, by decide +kernel, rfl, by decide +kernel, by decide +kernel⟩
theorem ok_is_byte (T : Tx K mg) : Fok P w K mg base 3 d_is_byte ["value"] [] (spI fun i => .bl (decide (0 ≤ i ∧ i ≤ 255))) := by
  refine fok T.F_is_byte sc_is_byte (fun vs H Q E h => ?_) (fun _ _ _ _ _ _ us hl => match us, hl with | [_], _ => rfl) (fun cdv A outer s H vs Q E hr h => ?_)
  · obtain ⟨i, rfl, _⟩ := h; rfl
  · obtain ⟨i, rfl, k⟩ := h
    have hu := hu_of hr
    refine ⟨_, (pss_one (ps_ret (pe_cF (ok_is_within T) (hr.mono (by decide)) T.g_is_within (pa_cons (pv 0) (pa_cons pe_int (pa_cons pe_int pa_nil)))))), ?_⟩
    simp at k
    simp [tPar, tPar3, -List.lookup_eq_none_iff, sizeLine_eq, tSl, tPart, tNoPart, rSlS, cut_lo, cut_hi, gc_cons, gn_nil, tJs, tFmt8, S_empty, tTup, tNever, tNext, tM1, tM0, tRet, tRetN, tAndV, tOrV, tNotV, tCall, tMeth, tProp, tVar, tC, tCons, tNil, L2.start, tChain, tTest, rI, rI0, tOp, tUn, tSeq, tIfS, tAnd, tOr, tNot, tB, tIf, tAsg, gName, tDrop, tCB, tFld, rEq, rNe, scal, rIsi_int, rIsi_bl, rIsi_str, rIsi_non, kit_ii, kit_ib, kit_is, kit_bi, kit_bb, kit_bs, kit_si, kit_sb, kit_ss, kit_ni, kit_nb, kit_ns, S_inj, S_app, S_len, S_list, S_one, lit_no, lit_sp, lit_nl, lit_eq, cx_K, ex2, ex3, ex2b, rd_spN, rd_spC, rd_spI, rd_spIII, rd_spS, kNL, kBL, kES, kSB, k]
theorem sc_is_sign : FnScope ["value"] ["value"] (defScope s_is_sign) := ⟨rfl, rfl, rfl, by decide +kernel, rfl, by decide +kernel, by decide +kernel⟩
theorem ok_is_sign (T : Tx K mg) : Fok P w K mg base 1 d_is_sign ["value"] [] (spS Sz fun l => .bl (isSignS l)) := by
  refine fok T.F_is_sign sc_is_sign (fun vs H Q E h => ?_) (fun _ _ _ _ _ _ us hl => match us, hl with | [_], _ => rfl) (fun cdv A outer s H vs Q E hr h => ?_)
  · obtain ⟨i, rfl, _⟩ := h; rfl
  · obtain ⟨l, rfl, hz, k⟩ := h
    have hu := hu_of hr
    refine ⟨_, (pss_one (ps_ret (pe_and (pe_callB call_isi (by rfl) T.n_isinstance (by decide +kernel) (pa_cons (pv 0) (pa_cons (pe_tyN (n := "str") T.n_str (by decide +kernel)) pa_nil))) (pe_and (pe_cmpR op_eq (pe_callB call_len_str (by rfl) T.n_len PySem.boot_len (pa_cons (pv 0) pa_nil)) pe_int (nomark _)) (pe_and (pe_cmpR op_in_sign (pv 0) (pe_gS T.s_PRINTED) (by with_unfolding_all rfl)) (pe_one (pe_cmpR op_ne (pv 0) pe_str (nomark _)))))))), ?_⟩
    simp [tPar, tPar3, -List.lookup_eq_none_iff, sizeLine_eq, tSl, tPart, tNoPart, rSlS, cut_lo, cut_hi, gc_cons, gn_nil, tJs, tFmt8, S_empty, tTup, tNever, tNext, tM1, tM0, tRet, tRetN, tAndV, tOrV, tNotV, tCall, tMeth, tProp, tVar, tC, tCons, tNil, L2.start, tChain, tTest, rI, rI0, tOp, tUn, tSeq, tIfS, tAnd, tOr, tNot, tB, tIf, tAsg, gName, tDrop, tCB, tFld, rEq, rNe, scal, rIsi_int, rIsi_bl, rIsi_str, rIsi_non, kit_ii, kit_ib, kit_is, kit_bi, kit_bb, kit_bs, kit_si, kit_sb, kit_ss, kit_ni, kit_nb, kit_ns, S_inj, S_app, S_len, S_list, S_one, lit_no, lit_sp, lit_nl, lit_eq, cx_K, ex2, ex3, ex2b, rd_spN, rd_spC, rd_spI, rd_spIII, rd_spS, kNL, kBL, kES, kSB, mem_PRINTED, hz.line]
    match l, k with
    | [], k => exact k
    | [c], k =>
      simp
      by_cases h : prP c = true
      · rw [if_pos h]
        have e : isSignS [c] = !decide (c = 32) := by rw [Bool.eq_iff_iff]; simp [isSignS, isSign, prP] at h ⊢; omega
        simpa [e] using k
      · rw [if_neg h]
        have e : isSignS [c] = false := by simp [isSignS, isSign, prP] at h ⊢; omega
        simpa [e] using k
    | a :: b :: r, k =>
      rw [if_neg (by simp; omega)]
      exact k
theorem sc_character_of : FnScope ["byte"] ["byte"] (defScope s_character_of) := ⟨rfl, rfl, rfl, by decide +kernel, rfl, by decide +kernel, by decide +kernel⟩
theorem ok_character_of (T : Tx K mg) : Fok P w K mg base 1 d_character_of ["byte"] [] (spN fun n => Pt.vs (chr n)) := by
  refine fok T.F_character_of sc_character_of (fun vs H Q E h => ?_) (fun _ _ _ _ _ _ us hl => match us, hl with | [_], _ => rfl) (fun cdv A outer s H vs Q E hr h => ?_)
  · obtain ⟨i, rfl, _⟩ := h; rfl
  · obtain ⟨n, rfl, hn, k⟩ := h
    dsimp only at k
    have hu := hu_of hr
    refine ⟨_, (pss_cons (ps_if (pt_cmpR op_eq (pv 0) (pe_gI T.i_LINE_FEED) (nomark _)) (pss_one (ps_ret pe_str)) pss_nil)
        (pss_cons (ps_if ((pw_or (pt_not (pt_chain op_le op_le (pe_gI T.i_SPACE) (pv 0) pe_int)) (pw_or1 (pt_cmpR op_eq (pv 0) (pe_gI T.i_GAP) (nomark _))))).pt (pss_one (ps_ret pe_str)) pss_nil)
        (pss_one (ps_ret (pe_item_str (pe_gS T.s_PRINTED) (pe_op op_sub (pe_op op_sub (pv 0) (pe_gI T.i_SPACE)) (pe_callTy call_int1 (by rfl) T.n_int (by decide +kernel) (pa_cons (pe_cmpR op_gt (pv 0) (pe_gI T.i_GAP) (nomark _)) pa_nil))) (fun _ _ => rfl)))))), ?_⟩
    by_cases h10 : n = 10
    · subst h10
      simp [tPar, tPar3, -List.lookup_eq_none_iff, sizeLine_eq, tSl, tPart, tNoPart, rSlS, cut_lo, cut_hi, gc_cons, gn_nil, tJs, tFmt8, S_empty, tTup, tNever, tNext, tM1, tM0, tRet, tRetN, tAndV, tOrV, tNotV, tCall, tMeth, tProp, tVar, tC, tCons, tNil, L2.start, tChain, tTest, rI, rI0, tOp, tUn, tSeq, tIfS, tAnd, tOr, tNot, tB, tIf, tAsg, gName, tDrop, tCB, tFld, rEq, rNe, scal, rIsi_int, rIsi_bl, rIsi_str, rIsi_non, kit_ii, kit_ib, kit_is, kit_bi, kit_bb, kit_bs, kit_si, kit_sb, kit_ss, kit_ni, kit_nb, kit_ns, S_inj, S_app, S_len, S_list, S_one, lit_no, lit_sp, lit_nl, lit_eq, cx_K, ex2, ex3, ex2b, rd_spN, rd_spC, rd_spI, rd_spIII, rd_spS, kNL, kBL, kES, kSB]
      simpa [chr] using k
    · have h1 : ¬ ((n : Int) = 10) := by omega
      by_cases hp : prP n = true
      · have g1 : 32 ≤ n ∧ n ≤ 126 ∧ n ≠ 37 := by simpa [prP] using hp
        have g2 := get_PRINTED ⟨n, hn⟩ hp
        have e1 : (32 : Int) ≤ n := by omega
        have e2 : (n : Int) ≤ 126 := by omega
        have e3 : ¬ ((n : Int) = 37) := by omega
        have e4 : chr n = [n] := by simp [chr, h10, hp]
        have e5 : ((n : Int) - 32 - if 37 < (n : Int) then 1 else 0) = ((n - 32 - (if 37 < n then 1 else 0) : Nat) : Int) := by
          split <;> split <;> omega
        simp [tPar, tPar3, -List.lookup_eq_none_iff, sizeLine_eq, tSl, tPart, tNoPart, rSlS, cut_lo, cut_hi, gc_cons, gn_nil, tJs, tFmt8, S_empty, tTup, tNever, tNext, tM1, tM0, tRet, tRetN, tAndV, tOrV, tNotV, tCall, tMeth, tProp, tVar, tC, tCons, tNil, L2.start, tChain, tTest, rI, rI0, tOp, tUn, tSeq, tIfS, tAnd, tOr, tNot, tB, tIf, tAsg, gName, tDrop, tCB, tFld, rEq, rNe, scal, rIsi_int, rIsi_bl, rIsi_str, rIsi_non, kit_ii, kit_ib, kit_is, kit_bi, kit_bb, kit_bs, kit_si, kit_sb, kit_ss, kit_ni, kit_nb, kit_ns, S_inj, S_app, S_len, S_list, S_one, lit_no, lit_sp, lit_nl, lit_eq, cx_K, ex2, ex3, ex2b, rd_spN, rd_spC, rd_spI, rd_spIII, rd_spS, kNL, kBL, kES, kSB, h1, e1, e2, e3]
        refine ⟨by split <;> omega, by rw [e5]; omega, ?_, n, ?_, by rw [e4] at k; exact k⟩
        · rw [e5]
          have := (List.getElem?_eq_some_iff.mp g2).1
          exact Int.ofNat_lt.mpr this
        · rw [e5, Int.toNat_natCast]
          exact g2
      · have e4 : chr n = [] := by simp [chr, h10, hp]
        rw [e4] at k
        have g1 : ¬ (32 ≤ n ∧ n ≤ 126 ∧ n ≠ 37) := by simpa [prP] using hp
        simp [tPar, tPar3, -List.lookup_eq_none_iff, sizeLine_eq, tSl, tPart, tNoPart, rSlS, cut_lo, cut_hi, gc_cons, gn_nil, tJs, tFmt8, S_empty, tTup, tNever, tNext, tM1, tM0, tRet, tRetN, tAndV, tOrV, tNotV, tCall, tMeth, tProp, tVar, tC, tCons, tNil, L2.start, tChain, tTest, rI, rI0, tOp, tUn, tSeq, tIfS, tAnd, tOr, tNot, tB, tIf, tAsg, gName, tDrop, tCB, tFld, rEq, rNe, scal, rIsi_int, rIsi_bl, rIsi_str, rIsi_non, kit_ii, kit_ib, kit_is, kit_bi, kit_bb, kit_bs, kit_si, kit_sb, kit_ss, kit_ni, kit_nb, kit_ns, S_inj, S_app, S_len, S_list, S_one, lit_no, lit_sp, lit_nl, lit_eq, cx_K, ex2, ex3, ex2b, rd_spN, rd_spC, rd_spI, rd_spIII, rd_spS, kNL, kBL, kES, kSB, h1]
        split
        · split
          · rw [if_pos (by omega)]; exact k
          · exact k
        · exact k
theorem sc_byte_of : FnScope ["character"] ["character"] (defScope s_byte_of) := ⟨rfl, rfl, rfl, by decide +kernel, rfl, by decide +kernel, by decide +kernel⟩
theorem ok_byte_of (T : Tx K mg) : Fok P w K mg base 1 d_byte_of ["character"] [] (spC fun c => vi c) := by
  refine fok T.F_byte_of sc_byte_of (fun vs H Q E h => ?_) (fun _ _ _ _ _ _ us hl => match us, hl with | [_], _ => rfl) (fun cdv A outer s H vs Q E hr h => ?_)
  · obtain ⟨i, rfl, _⟩ := h; rfl
  · obtain ⟨n, rfl, k⟩ := h
    dsimp only at k
    have hu := hu_of hr
    refine ⟨_, (pss_one (ps_ret (pe_callB call_ord (by rfl) T.n_ord (by decide +kernel) (pa_cons (pv 0) pa_nil)))), ?_⟩
    simp [tPar, tPar3, -List.lookup_eq_none_iff, sizeLine_eq, tSl, tPart, tNoPart, rSlS, cut_lo, cut_hi, gc_cons, gn_nil, tJs, tFmt8, S_empty, tTup, tNever, tNext, tM1, tM0, tRet, tRetN, tAndV, tOrV, tNotV, tCall, tMeth, tProp, tVar, tC, tCons, tNil, L2.start, tChain, tTest, rI, rI0, tOp, tUn, tSeq, tIfS, tAnd, tOr, tNot, tB, tIf, tAsg, gName, tDrop, tCB, tFld, rEq, rNe, scal, rIsi_int, rIsi_bl, rIsi_str, rIsi_non, kit_ii, kit_ib, kit_is, kit_bi, kit_bb, kit_bs, kit_si, kit_sb, kit_ss, kit_ni, kit_nb, kit_ns, S_inj, S_app, S_len, S_list, S_one, lit_no, lit_sp, lit_nl, lit_eq, cx_K, ex2, ex3, ex2b, rd_spN, rd_spC, rd_spI, rd_spIII, rd_spS, kNL, kBL, kES, kSB]
    exact k
theorem sc_other_case : FnScope ["letter"] ["letter"] (defScope s_other_case) := ⟨rfl, rfl, rfl, by decide +kernel, rfl, by decide +kernel, by decide +kernel⟩
theorem ok_other_case (T : Tx K mg) : Fok P w K mg base 1 d_other_case ["letter"] [] (spC fun c => Pt.vs (other c)) := by
  refine fok T.F_other_case sc_other_case (fun vs H Q E h => ?_) (fun _ _ _ _ _ _ us hl => match us, hl with | [_], _ => rfl) (fun cdv A outer s H vs Q E hr h => ?_)
  · obtain ⟨i, rfl, _⟩ := h; rfl
  · obtain ⟨n, rfl, k⟩ := h
    dsimp only at k
    have hu := hu_of hr
    refine ⟨_, (pss_cons (ps_if ((pw_and (pt_cmpR op_ne (pv 0) pe_str (nomark _)) (pw_and1 (pt_cmpR op_in_sign (pv 0) (pe_gS T.s_CAPITALS) (by with_unfolding_all rfl))))).pt (pss_one (ps_ret (pe_item_str (pe_gS T.s_SMALLS) (pe_m1 PySem.F.slot_str_index PySem.F.type_str_index mt_sindex (pe_gS T.s_CAPITALS) (pv 0)) (fun _ _ => rfl)))) pss_nil)
        (pss_one (ps_ret (pe_ifExp (pt_cmpR op_in_sign (pv 0) (pe_gS T.s_SMALLS) (by with_unfolding_all rfl)) (pe_item_str (pe_gS T.s_CAPITALS) (pe_m1 PySem.F.slot_str_index PySem.F.type_str_index mt_sindex (pe_gS T.s_SMALLS) (pv 0)) (fun _ _ => rfl)) pe_str)))), ?_⟩
    simp [tPar, tPar3, -List.lookup_eq_none_iff, sizeLine_eq, tSl, tPart, tNoPart, rSlS, cut_lo, cut_hi, gc_cons, gn_nil, tJs, tFmt8, S_empty, tTup, tNever, tNext, tM1, tM0, tRet, tRetN, tAndV, tOrV, tNotV, tCall, tMeth, tProp, tVar, tC, tCons, tNil, L2.start, tChain, tTest, rI, rI0, tOp, tUn, tSeq, tIfS, tAnd, tOr, tNot, tB, tIf, tAsg, gName, tDrop, tCB, tFld, rEq, rNe, scal, rIsi_int, rIsi_bl, rIsi_str, rIsi_non, kit_ii, kit_ib, kit_is, kit_bi, kit_bb, kit_bs, kit_si, kit_sb, kit_ss, kit_ni, kit_nb, kit_ns, S_inj, S_app, S_len, S_list, S_one, lit_no, lit_sp, lit_nl, lit_eq, cx_K, ex2, ex3, ex2b, rd_spN, rd_spC, rd_spI, rd_spIII, rd_spS, kNL, kBL, kES, kSB, mem_CAPITALS, mem_SMALLS]
    by_cases h1 : capP n = true
    · rw [if_pos h1]
      have b : n < 127 := by simp [capP] at h1; omega
      have g1 := ix_CAP ⟨n, b⟩ h1
      have g2 := get_SML ⟨n, b⟩ h1
      have b2 : n ≤ 90 := by simp [capP] at h1; omega
      refine ⟨n - 65, ⟨_, g1⟩, by omega, (List.getElem?_eq_some_iff.mp g2).1, n + 32, g2, ?_⟩
      simpa [other, h1] using k
    · rw [if_neg h1]
      by_cases h2 : smlP n = true
      · rw [if_pos h2]
        have b : n < 127 := by simp [smlP] at h2; omega
        have g1 := ix_SML ⟨n, b⟩ h2
        have g2 := get_CAP ⟨n, b⟩ h2
        refine ⟨n - 97, ⟨_, g1⟩, by omega, (List.getElem?_eq_some_iff.mp g2).1, n - 32, g2, ?_⟩
        simpa [other, h1, h2] using k
      · rw [if_neg h2]
        simpa [other, h1, h2] using k
end
end K45
end
section
namespace K45
open PySem PySem.Spec PyProof.Rows L2 Pt
/-- a quoted code -/
structure QC where
  w : Int
  b : Bool
  a : List Nat
def isNl (q : QC) (n : Nat) : Bool := decide ((n : Int) = 10) && !q.b
def plainB (q : QC) (n : Nat) : Bool := decide (n = 32) || (isSign n && decide (n ≠ 61) && decide (n ∉ q.a))
def item (q : QC) (n : Nat) : List Nat := if isNl q n then [10] else if plainB q n then [n] else 61 :: hex2 n
def fits (q : QC) (c s : Int) : Bool := decide (q.w = 0) || decide (c + s ≤ q.w)
def colb (q : QC) (c s : Int) : Int := if 0 < q.w then c + s else 0
abbrev CQ (K : Fg) : Addr := He.ga K "Quoted"
/-- the attributes hide no method -/
structure NoM (fs : List (Str × V)) : Prop where
  all : ∀ m ∈ (["fits", "is_newline", "column_behind", "placed", "going_on", "ending", "write", "close", "item_of", "take_digit", "has_room", "next_place", "begin", "opening", "take", "may_end", "whole", "whole_data", "suits", "usual"] : List Str), fs.lookup m = none
theorem NoM.fits {fs : List (Str × V)} (h : NoM fs) : fs.lookup ("fits" : Str) = none := h.all _ (by decide +kernel)
theorem NoM.is_newline {fs : List (Str × V)} (h : NoM fs) : fs.lookup ("is_newline" : Str) = none := h.all _ (by decide +kernel)
theorem NoM.column_behind {fs : List (Str × V)} (h : NoM fs) : fs.lookup ("column_behind" : Str) = none := h.all _ (by decide +kernel)
theorem NoM.placed {fs : List (Str × V)} (h : NoM fs) : fs.lookup ("placed" : Str) = none := h.all _ (by decide +kernel)
theorem NoM.going_on {fs : List (Str × V)} (h : NoM fs) : fs.lookup ("going_on" : Str) = none := h.all _ (by decide +kernel)
theorem NoM.ending {fs : List (Str × V)} (h : NoM fs) : fs.lookup ("ending" : Str) = none := h.all _ (by decide +kernel)
theorem NoM.write {fs : List (Str × V)} (h : NoM fs) : fs.lookup ("write" : Str) = none := h.all _ (by decide +kernel)
theorem NoM.close {fs : List (Str × V)} (h : NoM fs) : fs.lookup ("close" : Str) = none := h.all _ (by decide +kernel)
theorem NoM.item_of {fs : List (Str × V)} (h : NoM fs) : fs.lookup ("item_of" : Str) = none := h.all _ (by decide +kernel)
theorem NoM.take_digit {fs : List (Str × V)} (h : NoM fs) : fs.lookup ("take_digit" : Str) = none := h.all _ (by decide +kernel)
theorem NoM.has_room {fs : List (Str × V)} (h : NoM fs) : fs.lookup ("has_room" : Str) = none := h.all _ (by decide +kernel)
theorem NoM.next_place {fs : List (Str × V)} (h : NoM fs) : fs.lookup ("next_place" : Str) = none := h.all _ (by decide +kernel)
theorem NoM.begin {fs : List (Str × V)} (h : NoM fs) : fs.lookup ("begin" : Str) = none := h.all _ (by decide +kernel)
theorem NoM.opening {fs : List (Str × V)} (h : NoM fs) : fs.lookup ("opening" : Str) = none := h.all _ (by decide +kernel)
theorem NoM.take {fs : List (Str × V)} (h : NoM fs) : fs.lookup ("take" : Str) = none := h.all _ (by decide +kernel)
theorem NoM.may_end {fs : List (Str × V)} (h : NoM fs) : fs.lookup ("may_end" : Str) = none := h.all _ (by decide +kernel)
theorem NoM.whole {fs : List (Str × V)} (h : NoM fs) : fs.lookup ("whole" : Str) = none := h.all _ (by decide +kernel)
theorem NoM.whole_data {fs : List (Str × V)} (h : NoM fs) : fs.lookup ("whole_data" : Str) = none := h.all _ (by decide +kernel)
theorem NoM.suits {fs : List (Str × V)} (h : NoM fs) : fs.lookup ("suits" : Str) = none := h.all _ (by decide +kernel)
theorem NoM.usual {fs : List (Str × V)} (h : NoM fs) : fs.lookup ("usual" : Str) = none := h.all _ (by decide +kernel)
/-- a quoted code stands at c (its items not yet asked) -/
def Wy (K : Fg) (H : Hp) (c : Addr) (q : QC) : Prop := ∃ dx fs t, H c = some (.ins (CQ K) dx fs) ∧ fs.lookup ("ways" : Str) = some (.ref t) ∧ H t = some (.tup [.int q.w, .bl q.b, .str (S q.a)]) ∧ NoM fs
theorem Wy.same {K : Fg} {H H' : Hp} {c : Addr} {q : QC} (h : Wy K H c q) (s : Same H H') : Wy K H' c q := by
  obtain ⟨dx, fs, t, h1, h2, h3, h4⟩ := h
  exact ⟨dx, fs, t, s _ _ h1, h2, s _ _ h3, h4⟩
theorem Wy.inj {K : Fg} {H : Hp} {c : Addr} {q q' : QC} (h : Wy K H c q) (h' : Wy K H c q') : q = q' := by
  obtain ⟨dx, fs, t, h1, h2, h3, h4⟩ := h
  obtain ⟨dx', fs', t', h1', h2', h3', h4'⟩ := h'
  rw [h1] at h1'
  obtain ⟨_, _, rfl⟩ : CQ K = CQ K ∧ dx = dx' ∧ fs = fs' := by simpa using h1'
  rw [h2] at h2'
  cases h2'
  rw [h3] at h3'
  obtain ⟨w, b, a⟩ := q
  obtain ⟨w', b', a'⟩ := q'
  simp at h3'
  obtain ⟨rfl, rfl, rfl⟩ := h3'
  rfl
theorem ix_tup_at {K : Fg} {H : Hp} {t : Addr} {xs : List V} {i : Int} {v : V} {Q : VK} (h : H t = some (.tup xs)) (e : atI xs i = some v) (k : Q v H) : rIxT K (.ref t) (.int i) H Q := ⟨_, _, _, _, rfl, rfl, SqT.of h, e, k⟩
theorem gTup_at {K : Fg} {H : Hp} {t : Addr} {xs : List V} {n : Nat} {g : TGs} {σ : L2.St} {Q : L2.St → Hp → Prop} (h : H t = some (.tup xs)) (e : xs.length = n) (k : g xs σ H Q) : gTup K n g (.ref t) σ H Q := ⟨_, _, rfl, SqT.of h, e, k⟩
/-! promises of methods -/
def spQ (K : Fg) (f : QC → V) : Sp := fun us H Q _ => ∃ c q, us = [.ref c] ∧ Wy K H c q ∧ Q (f q) H
def spQI (K : Fg) (f : QC → Int → V) : Sp := fun us H Q _ => ∃ c q i, us = [.ref c, .int i] ∧ Wy K H c q ∧ Q (f q i) H
def spQII (K : Fg) (f : QC → Int → Int → V) : Sp := fun us H Q _ => ∃ c q i j, us = [.ref c, .int i, .int j] ∧ Wy K H c q ∧ Q (f q i j) H
def spQN (K : Fg) (f : QC → Nat → V) : Sp := fun us H Q _ => ∃ c q n, us = [.ref c, vi n] ∧ Wy K H c q ∧ n < 256 ∧ Q (f q n) H
section
variable {K : Fg} {H : Hp} {c : Addr} {q : QC} {Q : VK} {E : XK}
theorem rd_spQ {f : QC → V} (W : Wy K H c q) : spQ K f [.ref c] H Q E = Q (f q) H := by
  refine propext ⟨?_, fun h => ⟨_, _, rfl, W, h⟩⟩
  rintro ⟨c', q', e, W', h⟩
  cases e
  rw [W.inj W']; exact h
theorem rd_spQI {f : QC → Int → V} {i : Int} (W : Wy K H c q) : spQI K f [.ref c, .int i] H Q E = Q (f q i) H := by
  refine propext ⟨?_, fun h => ⟨_, _, _, rfl, W, h⟩⟩
  rintro ⟨c', q', i', e, W', h⟩
  cases e
  rw [W.inj W']; exact h
theorem rd_spQII {f : QC → Int → Int → V} {i j : Int} (W : Wy K H c q) : spQII K f [.ref c, .int i, .int j] H Q E = Q (f q i j) H := by
  refine propext ⟨?_, fun h => ⟨_, _, _, _, rfl, W, h⟩⟩
  rintro ⟨c', q', i', j', e, W', h⟩
  cases e
  rw [W.inj W']; exact h
theorem rd_spQN {f : QC → Nat → V} {n : Nat} (W : Wy K H c q) : spQN K f [.ref c, .int (n : Int)] H Q E = (n < 256 ∧ Q (f q n) H) := by
  refine propext ⟨?_, fun h => ⟨_, _, _, rfl, W, h⟩⟩
  rintro ⟨c', q', m, e, W', h⟩
  simp at e
  obtain ⟨rfl, e2⟩ := e
  have e3 : n = m := by omega
  subst e3
  rw [W.inj W']; exact h
end
section
variable {P : Program} {w : World} {K : Fg} {mg : Str → Option Value} {base : Heap}
theorem sc_Quoted_width : FnScope ["self"] ["self"] (defScope s_Quoted_width) := ⟨rfl, rfl, rfl, by decide +kernel, rfl, by decide +kernel, by decide +kernel⟩
theorem ok_Quoted_width (T : Tx K mg) : Fok P w K mg base 1 d_Quoted_width ["self"] [] (spQ K fun q => .int q.w) := by
  refine fok T.F_Quoted_width sc_Quoted_width (fun vs H Q E h => ?_) (fun _ _ _ _ _ _ us hl => match us, hl with | [_], _ => rfl) (fun cdv A outer s H vs Q E hr h => ?_)
  · obtain ⟨c, q, rfl, _⟩ := h; rfl
  · obtain ⟨c, q, rfl, ⟨dx, fs, t, h1, h2, h3, h4⟩, k⟩ := h
    refine ⟨_, (pss_one (ps_ret (pe_ix ix_tup (pe_fld (pv 0) rfl) pe_int (fun _ _ => rfl)))), ?_⟩
    simp [tPar, tPar3, -List.lookup_eq_none_iff, sizeLine_eq, tSl, tPart, tNoPart, rSlS, cut_lo, cut_hi, gc_cons, gn_nil, tJs, tFmt8, S_empty, tTup, tNever, tNext, tM1, tM0, tRet, tRetN, tAndV, tOrV, tNotV, tCall, tMeth, tProp, tVar, tC, tCons, tNil, L2.start, tChain, tTest, rI, rI0, tOp, tUn, tSeq, tIfS, tAnd, tOr, tNot, tB, tIf, tAsg, gName, tDrop, tCB, tFld, rEq, rNe, scal, rIsi_int, rIsi_bl, rIsi_str, rIsi_non, kit_ii, kit_ib, kit_is, kit_bi, kit_bb, kit_bs, kit_si, kit_sb, kit_ss, kit_ni, kit_nb, kit_ns, S_inj, S_app, S_len, S_list, S_one, lit_no, lit_sp, lit_nl, lit_eq, cx_K, ex2, ex3, ex2b, rd_spN, rd_spC, rd_spI, rd_spIII, rd_spS, kNL, kBL, kES, kSB, h1, h2, T.c_Quoted, T.a_Quoted_ways]
    exact ix_tup_at h3 rfl k
theorem sc_Quoted_binary : FnScope ["self"] ["self"] (defScope s_Quoted_binary) := ⟨rfl, rfl, rfl, by decide +kernel, rfl, by decide +kernel, by decide +kernel⟩
theorem ok_Quoted_binary (T : Tx K mg) : Fok P w K mg base 1 d_Quoted_binary ["self"] [] (spQ K fun q => .bl q.b) := by
  refine fok T.F_Quoted_binary sc_Quoted_binary (fun vs H Q E h => ?_) (fun _ _ _ _ _ _ us hl => match us, hl with | [_], _ => rfl) (fun cdv A outer s H vs Q E hr h => ?_)
  · obtain ⟨c, q, rfl, _⟩ := h; rfl
  · obtain ⟨c, q, rfl, ⟨dx, fs, t, h1, h2, h3, h4⟩, k⟩ := h
    refine ⟨_, (pss_one (ps_ret (pe_ix ix_tup (pe_fld (pv 0) rfl) pe_int (fun _ _ => rfl)))), ?_⟩
    simp [tPar, tPar3, -List.lookup_eq_none_iff, sizeLine_eq, tSl, tPart, tNoPart, rSlS, cut_lo, cut_hi, gc_cons, gn_nil, tJs, tFmt8, S_empty, tTup, tNever, tNext, tM1, tM0, tRet, tRetN, tAndV, tOrV, tNotV, tCall, tMeth, tProp, tVar, tC, tCons, tNil, L2.start, tChain, tTest, rI, rI0, tOp, tUn, tSeq, tIfS, tAnd, tOr, tNot, tB, tIf, tAsg, gName, tDrop, tCB, tFld, rEq, rNe, scal, rIsi_int, rIsi_bl, rIsi_str, rIsi_non, kit_ii, kit_ib, kit_is, kit_bi, kit_bb, kit_bs, kit_si, kit_sb, kit_ss, kit_ni, kit_nb, kit_ns, S_inj, S_app, S_len, S_list, S_one, lit_no, lit_sp, lit_nl, lit_eq, cx_K, ex2, ex3, ex2b, rd_spN, rd_spC, rd_spI, rd_spIII, rd_spS, kNL, kBL, kES, kSB, h1, h2, T.c_Quoted, T.a_Quoted_ways]
    exact ix_tup_at h3 rfl k
theorem sc_Quoted_also : FnScope ["self"] ["self"] (defScope s_Quoted_also) := ⟨rfl, rfl, rfl, by decide +kernel, rfl, by decide +kernel, by decide +kernel⟩
theorem ok_Quoted_also (T : Tx K mg) : Fok P w K mg base 1 d_Quoted_also ["self"] [] (spQ K fun q => Pt.vs q.a) := by
  refine fok T.F_Quoted_also sc_Quoted_also (fun vs H Q E h => ?_) (fun _ _ _ _ _ _ us hl => match us, hl with | [_], _ => rfl) (fun cdv A outer s H vs Q E hr h => ?_)
  · obtain ⟨c, q, rfl, _⟩ := h; rfl
  · obtain ⟨c, q, rfl, ⟨dx, fs, t, h1, h2, h3, h4⟩, k⟩ := h
    refine ⟨_, (pss_one (ps_ret (pe_ix ix_tup (pe_fld (pv 0) rfl) pe_int (fun _ _ => rfl)))), ?_⟩
    simp [tPar, tPar3, -List.lookup_eq_none_iff, sizeLine_eq, tSl, tPart, tNoPart, rSlS, cut_lo, cut_hi, gc_cons, gn_nil, tJs, tFmt8, S_empty, tTup, tNever, tNext, tM1, tM0, tRet, tRetN, tAndV, tOrV, tNotV, tCall, tMeth, tProp, tVar, tC, tCons, tNil, L2.start, tChain, tTest, rI, rI0, tOp, tUn, tSeq, tIfS, tAnd, tOr, tNot, tB, tIf, tAsg, gName, tDrop, tCB, tFld, rEq, rNe, scal, rIsi_int, rIsi_bl, rIsi_str, rIsi_non, kit_ii, kit_ib, kit_is, kit_bi, kit_bb, kit_bs, kit_si, kit_sb, kit_ss, kit_ni, kit_nb, kit_ns, S_inj, S_app, S_len, S_list, S_one, lit_no, lit_sp, lit_nl, lit_eq, cx_K, ex2, ex3, ex2b, rd_spN, rd_spC, rd_spI, rd_spIII, rd_spS, kNL, kBL, kES, kSB, h1, h2, T.c_Quoted, T.a_Quoted_ways]
    exact ix_tup_at h3 rfl k
theorem sc_Quoted_is_newline : FnScope ["self", "byte"] ["self", "byte"] (defScope s_Quoted_is_newline) := ⟨rfl, rfl, rfl, by decide +kernel, rfl, by decide +kernel, by decide +kernel⟩
theorem ok_Quoted_is_newline (T : Tx K mg) : Fok P w K mg base 3 d_Quoted_is_newline ["self", "byte"] [] (spQI K fun q i => .bl (decide (i = 10) && !q.b)) := by
  refine fok T.F_Quoted_is_newline sc_Quoted_is_newline (fun vs H Q E h => ?_) (fun _ _ _ _ _ _ us hl => match us, hl with | [_, _], _ => rfl) (fun cdv A outer s H vs Q E hr h => ?_)
  · obtain ⟨c, q, i, rfl, _⟩ := h; rfl
  · obtain ⟨c, q, i, rfl, W, k⟩ := h
    obtain ⟨dx, fs, t, h1, h2, h3, h4⟩ := id W
    refine ⟨_, (pss_one (ps_ret (pe_and (pe_cmpR op_eq (pv 1) (pe_gI T.i_LINE_FEED) (nomark _)) (pe_one (pe_not (pe_pF (ok_Quoted_binary T) (hr.mono (by decide)) T.c_Quoted T.p_Quoted_binary (pv 0))))))), ?_⟩
    simp [tPar, tPar3, -List.lookup_eq_none_iff, sizeLine_eq, tSl, tPart, tNoPart, rSlS, cut_lo, cut_hi, gc_cons, gn_nil, tJs, tFmt8, S_empty, tTup, tNever, tNext, tM1, tM0, tRet, tRetN, tAndV, tOrV, tNotV, tCall, tMeth, tProp, tVar, tC, tCons, tNil, L2.start, tChain, tTest, rI, rI0, tOp, tUn, tSeq, tIfS, tAnd, tOr, tNot, tB, tIf, tAsg, gName, tDrop, tCB, tFld, rEq, rNe, scal, rIsi_int, rIsi_bl, rIsi_str, rIsi_non, kit_ii, kit_ib, kit_is, kit_bi, kit_bb, kit_bs, kit_si, kit_sb, kit_ss, kit_ni, kit_nb, kit_ns, S_inj, S_app, S_len, S_list, S_one, lit_no, lit_sp, lit_nl, lit_eq, cx_K, ex2, ex3, ex2b, rd_spN, rd_spC, rd_spI, rd_spIII, rd_spS, kNL, kBL, kES, kSB, h1, rd_spQ W]
    cases e : q.b <;> by_cases h : i = 10 <;> simp_all
theorem sc_Quoted_column_behind : FnScope ["self", "column", "size"] ["self", "column", "size"] (defScope s_Quoted_column_behind) := ⟨rfl, rfl, rfl, by decide +kernel, rfl, by decide +kernel, by decide +kernel⟩
theorem ok_Quoted_column_behind (T : Tx K mg) : Fok P w K mg base 3 d_Quoted_column_behind ["self", "column", "size"] [] (spQII K fun q i j => .int (colb q i j)) := by
  refine fok T.F_Quoted_column_behind sc_Quoted_column_behind (fun vs H Q E h => ?_) (fun _ _ _ _ _ _ us hl => match us, hl with | [_, _, _], _ => rfl) (fun cdv A outer s H vs Q E hr h => ?_)
  · obtain ⟨c, q, i, j, rfl, _⟩ := h; rfl
  · obtain ⟨c, q, i, j, rfl, W, k⟩ := h
    obtain ⟨dx, fs, t, h1, h2, h3, h4⟩ := id W
    refine ⟨_, (pss_one (ps_ret (pe_ifExp (pt_cmpR op_gt (pe_pF (ok_Quoted_width T) (hr.mono (by decide)) T.c_Quoted T.p_Quoted_width (pv 0)) pe_int (nomark _)) (pe_op op_add (pv 1) (pv 2)) pe_int))), ?_⟩
    simp [tPar, tPar3, -List.lookup_eq_none_iff, sizeLine_eq, tSl, tPart, tNoPart, rSlS, cut_lo, cut_hi, gc_cons, gn_nil, tJs, tFmt8, S_empty, tTup, tNever, tNext, tM1, tM0, tRet, tRetN, tAndV, tOrV, tNotV, tCall, tMeth, tProp, tVar, tC, tCons, tNil, L2.start, tChain, tTest, rI, rI0, tOp, tUn, tSeq, tIfS, tAnd, tOr, tNot, tB, tIf, tAsg, gName, tDrop, tCB, tFld, rEq, rNe, scal, rIsi_int, rIsi_bl, rIsi_str, rIsi_non, kit_ii, kit_ib, kit_is, kit_bi, kit_bb, kit_bs, kit_si, kit_sb, kit_ss, kit_ni, kit_nb, kit_ns, S_inj, S_app, S_len, S_list, S_one, lit_no, lit_sp, lit_nl, lit_eq, cx_K, ex2, ex3, ex2b, rd_spN, rd_spC, rd_spI, rd_spIII, rd_spS, kNL, kBL, kES, kSB, h1, rd_spQ W]
    simp only [colb] at k
    split <;> simp_all
theorem sc_Quoted_fits : FnScope ["self", "column", "size"] ["self", "column", "size"] (defScope s_Quoted_fits) := ⟨rfl, rfl, rfl, by decide +kernel, rfl, by decide +kernel, by decide +kernel⟩
theorem ok_Quoted_fits (T : Tx K mg) : Fok P w K mg base 3 d_Quoted_fits ["self", "column", "size"] [] (spQII K fun q i j => .bl (fits q i j)) := by
  refine fok T.F_Quoted_fits sc_Quoted_fits (fun vs H Q E h => ?_) (fun _ _ _ _ _ _ us hl => match us, hl with | [_, _, _], _ => rfl) (fun cdv A outer s H vs Q E hr h => ?_)
  · obtain ⟨c, q, i, j, rfl, _⟩ := h; rfl
  · obtain ⟨c, q, i, j, rfl, W, k⟩ := h
    obtain ⟨dx, fs, t, h1, h2, h3, h4⟩ := id W
    refine ⟨_, (pss_one (ps_ret (pe_or (pe_cmpR op_eq (pe_pF (ok_Quoted_width T) (hr.mono (by decide)) T.c_Quoted T.p_Quoted_width (pv 0)) pe_int (nomark _)) (pe_one (pe_cmpR op_le (pe_op op_add (pv 1) (pv 2)) (pe_pF (ok_Quoted_width T) (hr.mono (by decide)) T.c_Quoted T.p_Quoted_width (pv 0)) (nomark _)))))), ?_⟩
    simp [tPar, tPar3, -List.lookup_eq_none_iff, sizeLine_eq, tSl, tPart, tNoPart, rSlS, cut_lo, cut_hi, gc_cons, gn_nil, tJs, tFmt8, S_empty, tTup, tNever, tNext, tM1, tM0, tRet, tRetN, tAndV, tOrV, tNotV, tCall, tMeth, tProp, tVar, tC, tCons, tNil, L2.start, tChain, tTest, rI, rI0, tOp, tUn, tSeq, tIfS, tAnd, tOr, tNot, tB, tIf, tAsg, gName, tDrop, tCB, tFld, rEq, rNe, scal, rIsi_int, rIsi_bl, rIsi_str, rIsi_non, kit_ii, kit_ib, kit_is, kit_bi, kit_bb, kit_bs, kit_si, kit_sb, kit_ss, kit_ni, kit_nb, kit_ns, S_inj, S_app, S_len, S_list, S_one, lit_no, lit_sp, lit_nl, lit_eq, cx_K, ex2, ex3, ex2b, rd_spN, rd_spC, rd_spI, rd_spIII, rd_spS, kNL, kBL, kES, kSB, h1, rd_spQ W]
    simp only [fits] at k
    split <;> simp_all
theorem sc_Quoted_item_of : FnScope ["self", "byte", "character"] ["self", "byte"] (defScope s_Quoted_item_of) := ⟨rfl, rfl, rfl, by decide +kernel, rfl, by decide +kernel, by decide +kernel⟩
theorem ok_Quoted_item_of (T : Tx K mg) : Fok P w K mg base 5 d_Quoted_item_of ["self", "byte"] [] (spQN K fun q n => Pt.vs (item q n)) := by
  refine fok T.F_Quoted_item_of sc_Quoted_item_of (fun vs H Q E h => ?_) (fun _ _ _ _ _ _ us hl => match us, hl with | [_, _], _ => rfl) (fun cdv A outer s H vs Q E hr h => ?_)
  · obtain ⟨c, q, i, rfl, _⟩ := h; rfl
  · obtain ⟨c, q, n, rfl, W, hn, k⟩ := h
    obtain ⟨dx, fs, t, h1, h2, h3, h4⟩ := id W
    refine ⟨_, (pss_cons (ps_if (pt_not (pt_val (pe_cF (ok_is_byte T) (hr.mono (by decide)) T.g_is_byte (pa_cons (pv 1) pa_nil)))) (pss_one ps_never) pss_nil)
        (pss_cons (ps_if (pt_val (pe_mF (ok_Quoted_is_newline T) (hr.mono (by decide)) T.c_Quoted T.m_Quoted_is_newline (pv 0) (pa_cons (pv 1) pa_nil))) (pss_one (ps_ret (pe_gS T.s_NEWLINE))) pss_nil)
        (pss_cons (ps_set (i := 2) sc_Quoted_item_of.nd rfl (Or.inl rfl) (pe_cF (ok_character_of T) (hr.mono (by decide)) T.g_character_of (pa_cons (pv 1) pa_nil)))
        (pss_cons (ps_if ((pw_or (pt_cmpR op_eq (pv 2) (pe_gS T.s_BLANK) (nomark _)) (pw_or1 ((pw_and (pt_val (pe_cF (ok_is_sign T) (hr.mono (by decide)) T.g_is_sign (pa_cons (pv 2) pa_nil))) (pw_and (pt_cmpR op_ne (pv 2) (pe_gS T.s_ESCAPE) (nomark _)) (pw_and1 (pt_cmpR op_notIn_sign (pv 2) (pe_pF (ok_Quoted_also T) (hr.mono (by decide)) T.c_Quoted T.p_Quoted_also (pv 0)) (by with_unfolding_all rfl)))))).pt))).pt (pss_one (ps_ret (pv 2))) pss_nil)
        (pss_one (ps_ret (pe_joined (PJ.cons pe_str (PJ.cons (pe_fmtX (pv 1)) PJ.nil))))))))), ?_⟩
    dsimp only at k
    have hn' : (n : Int) ≤ 255 := by omega
    have hs3 : (hex2 n).length ≤ 16777215 := by show 2 ≤ 16777215; decide
    cases hb : isNl q n with
    | true =>
      have hq : (decide ((n : Int) = 10) && !q.b) = true := hb
      simp [tPar, tPar3, -List.lookup_eq_none_iff, sizeLine_eq, tSl, tPart, tNoPart, rSlS, cut_lo, cut_hi, gc_cons, gn_nil, tJs, tFmt8, S_empty, tTup, tNever, tNext, tM1, tM0, tRet, tRetN, tAndV, tOrV, tNotV, tCall, tMeth, tProp, tVar, tC, tCons, tNil, L2.start, tChain, tTest, rI, rI0, tOp, tUn, tSeq, tIfS, tAnd, tOr, tNot, tB, tIf, tAsg, gName, tDrop, tCB, tFld, rEq, rNe, scal, rIsi_int, rIsi_bl, rIsi_str, rIsi_non, kit_ii, kit_ib, kit_is, kit_bi, kit_bb, kit_bs, kit_si, kit_sb, kit_ss, kit_ni, kit_nb, kit_ns, S_inj, S_app, S_len, S_list, S_one, lit_no, lit_sp, lit_nl, lit_eq, cx_K, ex2, ex3, ex2b, rd_spN, rd_spC, rd_spI, rd_spIII, rd_spS, kNL, kBL, kES, kSB, h1, rd_spQ W, rd_spQI W, h4.is_newline, hn', hn, hq]
      simpa [item, hb] using k
    | false =>
      have hq : (decide ((n : Int) = 10) && !q.b) = false := hb
      have esc : plainB q n = false → Q (Pt.vs (61 :: hex2 n)) H := fun h => by simpa [item, hb, h] using k
      have pln : plainB q n = true → Q (Pt.vs [n]) H := fun h => by simpa [item, hb, h] using k
      by_cases hc : chr n = [n]
      · by_cases h32 : n = 32
        · subst h32
          have := pln (by simp [plainB])
          simp [tPar, tPar3, -List.lookup_eq_none_iff, sizeLine_eq, tSl, tPart, tNoPart, rSlS, cut_lo, cut_hi, gc_cons, gn_nil, tJs, tFmt8, S_empty, tTup, tNever, tNext, tM1, tM0, tRet, tRetN, tAndV, tOrV, tNotV, tCall, tMeth, tProp, tVar, tC, tCons, tNil, L2.start, tChain, tTest, rI, rI0, tOp, tUn, tSeq, tIfS, tAnd, tOr, tNot, tB, tIf, tAsg, gName, tDrop, tCB, tFld, rEq, rNe, scal, rIsi_int, rIsi_bl, rIsi_str, rIsi_non, kit_ii, kit_ib, kit_is, kit_bi, kit_bb, kit_bs, kit_si, kit_sb, kit_ss, kit_ni, kit_nb, kit_ns, S_inj, S_app, S_len, S_list, S_one, lit_no, lit_sp, lit_nl, lit_eq, cx_K, ex2, ex3, ex2b, rd_spN, rd_spC, rd_spI, rd_spIII, rd_spS, kNL, kBL, kES, kSB, h1, rd_spQ W, rd_spQI W, h4.is_newline, hn', hn, hq, hc]
          exact this
        · have hz : ¬ [n] = [32] := by simpa using h32
          cases hs : isSign n with
          | false =>
            have := esc (by simp [plainB, h32, hs])
            have hs' : isSignS [n] = false := hs
            simp [tPar, tPar3, -List.lookup_eq_none_iff, sizeLine_eq, tSl, tPart, tNoPart, rSlS, cut_lo, cut_hi, gc_cons, gn_nil, tJs, tFmt8, S_empty, tTup, tNever, tNext, tM1, tM0, tRet, tRetN, tAndV, tOrV, tNotV, tCall, tMeth, tProp, tVar, tC, tCons, tNil, L2.start, tChain, tTest, rI, rI0, tOp, tUn, tSeq, tIfS, tAnd, tOr, tNot, tB, tIf, tAsg, gName, tDrop, tCB, tFld, rEq, rNe, scal, rIsi_int, rIsi_bl, rIsi_str, rIsi_non, kit_ii, kit_ib, kit_is, kit_bi, kit_bb, kit_bs, kit_si, kit_sb, kit_ss, kit_ni, kit_nb, kit_ns, S_inj, S_app, S_len, S_list, S_one, lit_no, lit_sp, lit_nl, lit_eq, cx_K, ex2, ex3, ex2b, rd_spN, rd_spC, rd_spI, rd_spIII, rd_spS, kNL, kBL, kES, kSB, h1, rd_spQ W, rd_spQI W, h4.is_newline, hn', hn, hq, hc, hs', h32, hs3]
            exact ⟨n, rfl, hn, hs3, this⟩
          | true =>
            have hs' : isSignS [n] = true := hs
            by_cases h61 : n = 61
            · have := esc (by simp [plainB, h32, hs, h61])
              subst h61
              simp [tPar, tPar3, -List.lookup_eq_none_iff, sizeLine_eq, tSl, tPart, tNoPart, rSlS, cut_lo, cut_hi, gc_cons, gn_nil, tJs, tFmt8, S_empty, tTup, tNever, tNext, tM1, tM0, tRet, tRetN, tAndV, tOrV, tNotV, tCall, tMeth, tProp, tVar, tC, tCons, tNil, L2.start, tChain, tTest, rI, rI0, tOp, tUn, tSeq, tIfS, tAnd, tOr, tNot, tB, tIf, tAsg, gName, tDrop, tCB, tFld, rEq, rNe, scal, rIsi_int, rIsi_bl, rIsi_str, rIsi_non, kit_ii, kit_ib, kit_is, kit_bi, kit_bb, kit_bs, kit_si, kit_sb, kit_ss, kit_ni, kit_nb, kit_ns, S_inj, S_app, S_len, S_list, S_one, lit_no, lit_sp, lit_nl, lit_eq, cx_K, ex2, ex3, ex2b, rd_spN, rd_spC, rd_spI, rd_spIII, rd_spS, kNL, kBL, kES, kSB, h1, rd_spQ W, rd_spQI W, h4.is_newline, hq, show chr 61 = [61] from rfl, show isSignS [61] = true from rfl, hs3]
              exact ⟨61, rfl, by decide, by decide, this⟩
            · by_cases ha : n ∈ q.a
              · have := esc (by simp [plainB, h32, hs, h61, ha])
                simp [tPar, tPar3, -List.lookup_eq_none_iff, sizeLine_eq, tSl, tPart, tNoPart, rSlS, cut_lo, cut_hi, gc_cons, gn_nil, tJs, tFmt8, S_empty, tTup, tNever, tNext, tM1, tM0, tRet, tRetN, tAndV, tOrV, tNotV, tCall, tMeth, tProp, tVar, tC, tCons, tNil, L2.start, tChain, tTest, rI, rI0, tOp, tUn, tSeq, tIfS, tAnd, tOr, tNot, tB, tIf, tAsg, gName, tDrop, tCB, tFld, rEq, rNe, scal, rIsi_int, rIsi_bl, rIsi_str, rIsi_non, kit_ii, kit_ib, kit_is, kit_bi, kit_bb, kit_bs, kit_si, kit_sb, kit_ss, kit_ni, kit_nb, kit_ns, S_inj, S_app, S_len, S_list, S_one, lit_no, lit_sp, lit_nl, lit_eq, cx_K, ex2, ex3, ex2b, rd_spN, rd_spC, rd_spI, rd_spIII, rd_spS, kNL, kBL, kES, kSB, h1, rd_spQ W, rd_spQI W, h4.is_newline, hn', hn, hq, hc, hs', h32, hs3, h61, ha]
                exact ⟨n, rfl, hn, hs3, this⟩
              · have := pln (by simp [plainB, h32, hs, h61, ha])
                simp [tPar, tPar3, -List.lookup_eq_none_iff, sizeLine_eq, tSl, tPart, tNoPart, rSlS, cut_lo, cut_hi, gc_cons, gn_nil, tJs, tFmt8, S_empty, tTup, tNever, tNext, tM1, tM0, tRet, tRetN, tAndV, tOrV, tNotV, tCall, tMeth, tProp, tVar, tC, tCons, tNil, L2.start, tChain, tTest, rI, rI0, tOp, tUn, tSeq, tIfS, tAnd, tOr, tNot, tB, tIf, tAsg, gName, tDrop, tCB, tFld, rEq, rNe, scal, rIsi_int, rIsi_bl, rIsi_str, rIsi_non, kit_ii, kit_ib, kit_is, kit_bi, kit_bb, kit_bs, kit_si, kit_sb, kit_ss, kit_ni, kit_nb, kit_ns, S_inj, S_app, S_len, S_list, S_one, lit_no, lit_sp, lit_nl, lit_eq, cx_K, ex2, ex3, ex2b, rd_spN, rd_spC, rd_spI, rd_spIII, rd_spS, kNL, kBL, kES, kSB, h1, rd_spQ W, rd_spQI W, h4.is_newline, hn', hn, hq, hc, hs', h32, hs3, h61, ha]
                exact this
      · have hc2 : chr n = [] := by
          unfold chr at hc ⊢
          by_cases h10 : n = 10
          · subst h10; simp at hc
          · by_cases hp : prP n = true <;> simp [h10, hp] at hc ⊢
        have := esc (by
          unfold chr at hc2
          by_cases h10 : n = 10
          · simp [h10] at hc2
          · by_cases hp : prP n = true
            · simp [h10, hp] at hc2
            · simp [prP] at hp
              simp [plainB, isSign]
              omega)
        have hs' : isSignS [] = false := rfl
        simp [tPar, tPar3, -List.lookup_eq_none_iff, sizeLine_eq, tSl, tPart, tNoPart, rSlS, cut_lo, cut_hi, gc_cons, gn_nil, tJs, tFmt8, S_empty, tTup, tNever, tNext, tM1, tM0, tRet, tRetN, tAndV, tOrV, tNotV, tCall, tMeth, tProp, tVar, tC, tCons, tNil, L2.start, tChain, tTest, rI, rI0, tOp, tUn, tSeq, tIfS, tAnd, tOr, tNot, tB, tIf, tAsg, gName, tDrop, tCB, tFld, rEq, rNe, scal, rIsi_int, rIsi_bl, rIsi_str, rIsi_non, kit_ii, kit_ib, kit_is, kit_bi, kit_bb, kit_bs, kit_si, kit_sb, kit_ss, kit_ni, kit_nb, kit_ns, S_inj, S_app, S_len, S_list, S_one, lit_no, lit_sp, lit_nl, lit_eq, cx_K, ex2, ex3, ex2b, rd_spN, rd_spC, rd_spI, rd_spIII, rd_spS, kNL, kBL, kES, kSB, h1, rd_spQ W, rd_spQI W, h4.is_newline, hn', hn, hq, hc2, hs', hs3]
        exact ⟨n, rfl, hn, hs3, this⟩
/-! the writer -/
def placed (q : QC) (c : Int) (it : List Nat) : List Nat × Int × List Nat :=
  if fits q c (it.length + 1) then (if it = [32] then ([], c, it) else (it, colb q c it.length, []))
  else if it = [32] then ([61, 10], 0, it)
  else if fits q c it.length then (if it.length = 3 then [61] else [], c, it)
  else ([61, 10] ++ it, it.length, [])
/-- (part, (column, held)) -/
def NewPS (H : Hp) (r : List Nat × Int × List Nat) (Q : VK) : Prop := ∀ p t H', Same H H' → H' p = some (.tup [Pt.vs r.1, .ref t]) → H' t = some (.tup [.int r.2.1, Pt.vs r.2.2]) → Q (.ref p) H'
theorem NewPS.of {H : Hp} {part : List Nat} {c : Int} {h : List Nat} {Q : VK} (k : NewPS H (part, c, h) Q) {t p : Addr} (ht : H t = none) (hp : upd H t (.tup [.int c, Pt.vs h]) p = none) :
    Q (.ref p) (upd (upd H t (.tup [.int c, Pt.vs h])) p (.tup [Pt.vs part, .ref t])) :=
  k p t _ ((same_upd ht).trans (same_upd hp)) upd_same (by rw [upd_ne (ne_of_none upd_same hp)]; exact upd_same)
def spQIS (K : Fg) (f : QC → Int → List Nat → List Nat × Int × List Nat) : Sp := fun us H Q _ => ∃ c q i l, us = [.ref c, .int i, .str (S l)] ∧ Wy K H c q ∧ l.length ≤ 3 ∧ NewPS H (f q i l) Q
theorem sc_Quoted_placed : FnScope ["self", "column", "item", "size"] ["self", "column", "item"] (defScope s_Quoted_placed) := ⟨rfl, rfl, rfl, by decide +kernel, rfl, by decide +kernel, by decide +kernel⟩
theorem ok_Quoted_placed (T : Tx K mg) : Fok P w K mg base 4 d_Quoted_placed ["self", "column", "item"] [] (spQIS K placed) := by
  refine fok T.F_Quoted_placed sc_Quoted_placed (fun vs H Q E h => ?_) (fun _ _ _ _ _ _ us hl => match us, hl with | [_, _, _], _ => rfl) (fun cdv A outer s H vs Q E hr h => ?_)
  · obtain ⟨c, q, i, l, rfl, _⟩ := h; rfl
  · obtain ⟨c, q, i, l, rfl, W, hl, k⟩ := h
    obtain ⟨dx, fs, t, h1, h2, h3, h4⟩ := id W
    have hz : l.length ≤ 16777216 := Nat.le_trans hl (by decide)
    refine ⟨_, (pss_cons (ps_set (i := 3) sc_Quoted_placed.nd rfl (Or.inl rfl) (pe_callB call_len_str (by rfl) T.n_len PySem.boot_len (pa_cons (pv 2) pa_nil)))
        (pss_cons (ps_if (pt_val (pe_mF (ok_Quoted_fits T) (hr.mono (by decide)) T.c_Quoted T.m_Quoted_fits (pv 0) (pa_cons (pv 1) (pa_cons (pe_op op_add (pv 3) pe_int) pa_nil)))) (pss_one (ps_ret (pe_ifExp (pt_cmpR op_eq (pv 2) (pe_gS T.s_BLANK) (nomark _)) (pe_tup (pa_cons pe_str (pa_cons (pe_tup (pa_cons (pv 1) (pa_cons (pv 2) pa_nil))) pa_nil))) (pe_tup (pa_cons (pv 2) (pa_cons (pe_tup (pa_cons (pe_mF (ok_Quoted_column_behind T) (hr.mono (by decide)) T.c_Quoted T.m_Quoted_column_behind (pv 0) (pa_cons (pv 1) (pa_cons (pv 3) pa_nil))) (pa_cons pe_str pa_nil))) pa_nil)))))) pss_nil)
        (pss_cons (ps_if (pt_cmpR op_eq (pv 2) (pe_gS T.s_BLANK) (nomark _)) (pss_one (ps_ret (pe_tup (pa_cons (pe_gS T.s_SOFT_BREAK) (pa_cons (pe_tup (pa_cons pe_int (pa_cons (pv 2) pa_nil))) pa_nil))))) pss_nil)
        (pss_cons (ps_if (pt_val (pe_mF (ok_Quoted_fits T) (hr.mono (by decide)) T.c_Quoted T.m_Quoted_fits (pv 0) (pa_cons (pv 1) (pa_cons (pv 3) pa_nil)))) (pss_one (ps_ret (pe_tup (pa_cons (pe_ifExp (pt_cmpR op_eq (pv 3) (pe_gI T.i_CODED) (nomark _)) (pe_gS T.s_ESCAPE) pe_str) (pa_cons (pe_tup (pa_cons (pv 1) (pa_cons (pv 2) pa_nil))) pa_nil))))) pss_nil)
        (pss_one (ps_ret (pe_tup (pa_cons (pe_op op_add_str (pe_gS T.s_SOFT_BREAK) (pv 2)) (pa_cons (pe_tup (pa_cons (pv 3) (pa_cons pe_str pa_nil))) pa_nil))))))))), ?_⟩
    have go : ∀ (part : List Nat) (c' : Int) (h : List Nat), placed q i l = (part, c', h) → ∀ p, H p = none → ∀ r, upd H p (HO.tup [V.int c', V.str (S h)]) r = none →
      Q (V.ref r) (upd (upd H p (HO.tup [V.int c', V.str (S h)])) r (HO.tup [V.str (S part), V.ref p])) := fun part c' h e p hp r hr => NewPS.of (e ▸ k) hp hr
    cases f1 : fits q i ((l.length : Int) + 1) with
    | true =>
      by_cases e : l = [32]
      · have g := go [] i l (by unfold placed; rw [if_pos f1, if_pos e])
        simp [tPar, tPar3, -List.lookup_eq_none_iff, sizeLine_eq, tSl, tPart, tNoPart, rSlS, cut_lo, cut_hi, gc_cons, gn_nil, tJs, tFmt8, S_empty, tTup, tNever, tNext, tM1, tM0, tRet, tRetN, tAndV, tOrV, tNotV, tCall, tMeth, tProp, tVar, tC, tCons, tNil, L2.start, tChain, tTest, rI, rI0, tOp, tUn, tSeq, tIfS, tAnd, tOr, tNot, tB, tIf, tAsg, gName, tDrop, tCB, tFld, rEq, rNe, scal, rIsi_int, rIsi_bl, rIsi_str, rIsi_non, kit_ii, kit_ib, kit_is, kit_bi, kit_bb, kit_bs, kit_si, kit_sb, kit_ss, kit_ni, kit_nb, kit_ns, S_inj, S_app, S_len, S_list, S_one, lit_no, lit_sp, lit_nl, lit_eq, cx_K, ex2, ex3, ex2b, rd_spN, rd_spC, rd_spI, rd_spIII, rd_spS, kNL, kBL, kES, kSB, h1, rd_spQ W, rd_spQII W, h4.fits, h4.column_behind, hz, f1, eq_true e]
        exact g
      · have g := go l (colb q i l.length) [] (by unfold placed; rw [if_pos f1, if_neg e])
        simp [tPar, tPar3, -List.lookup_eq_none_iff, sizeLine_eq, tSl, tPart, tNoPart, rSlS, cut_lo, cut_hi, gc_cons, gn_nil, tJs, tFmt8, S_empty, tTup, tNever, tNext, tM1, tM0, tRet, tRetN, tAndV, tOrV, tNotV, tCall, tMeth, tProp, tVar, tC, tCons, tNil, L2.start, tChain, tTest, rI, rI0, tOp, tUn, tSeq, tIfS, tAnd, tOr, tNot, tB, tIf, tAsg, gName, tDrop, tCB, tFld, rEq, rNe, scal, rIsi_int, rIsi_bl, rIsi_str, rIsi_non, kit_ii, kit_ib, kit_is, kit_bi, kit_bb, kit_bs, kit_si, kit_sb, kit_ss, kit_ni, kit_nb, kit_ns, S_inj, S_app, S_len, S_list, S_one, lit_no, lit_sp, lit_nl, lit_eq, cx_K, ex2, ex3, ex2b, rd_spN, rd_spC, rd_spI, rd_spIII, rd_spS, kNL, kBL, kES, kSB, h1, rd_spQ W, rd_spQII W, h4.fits, h4.column_behind, hz, f1, e]
        exact g
    | false =>
      have f1' : ¬ fits q i ((l.length : Int) + 1) = true := by simp [f1]
      by_cases e : l = [32]
      · have g := go [61, 10] 0 l (by unfold placed; rw [if_neg f1', if_pos e])
        simp [tPar, tPar3, -List.lookup_eq_none_iff, sizeLine_eq, tSl, tPart, tNoPart, rSlS, cut_lo, cut_hi, gc_cons, gn_nil, tJs, tFmt8, S_empty, tTup, tNever, tNext, tM1, tM0, tRet, tRetN, tAndV, tOrV, tNotV, tCall, tMeth, tProp, tVar, tC, tCons, tNil, L2.start, tChain, tTest, rI, rI0, tOp, tUn, tSeq, tIfS, tAnd, tOr, tNot, tB, tIf, tAsg, gName, tDrop, tCB, tFld, rEq, rNe, scal, rIsi_int, rIsi_bl, rIsi_str, rIsi_non, kit_ii, kit_ib, kit_is, kit_bi, kit_bb, kit_bs, kit_si, kit_sb, kit_ss, kit_ni, kit_nb, kit_ns, S_inj, S_app, S_len, S_list, S_one, lit_no, lit_sp, lit_nl, lit_eq, cx_K, ex2, ex3, ex2b, rd_spN, rd_spC, rd_spI, rd_spIII, rd_spS, kNL, kBL, kES, kSB, h1, rd_spQ W, rd_spQII W, h4.fits, h4.column_behind, hz, f1, eq_true e]
        exact g
      · cases f2 : fits q i (l.length : Int) with
        | true =>
          by_cases e3 : (l.length : Int) = 3
          · have g := go [61] i l (by unfold placed; rw [if_neg f1', if_neg e, if_pos f2, if_pos (by omega)])
            simp [tPar, tPar3, -List.lookup_eq_none_iff, sizeLine_eq, tSl, tPart, tNoPart, rSlS, cut_lo, cut_hi, gc_cons, gn_nil, tJs, tFmt8, S_empty, tTup, tNever, tNext, tM1, tM0, tRet, tRetN, tAndV, tOrV, tNotV, tCall, tMeth, tProp, tVar, tC, tCons, tNil, L2.start, tChain, tTest, rI, rI0, tOp, tUn, tSeq, tIfS, tAnd, tOr, tNot, tB, tIf, tAsg, gName, tDrop, tCB, tFld, rEq, rNe, scal, rIsi_int, rIsi_bl, rIsi_str, rIsi_non, kit_ii, kit_ib, kit_is, kit_bi, kit_bb, kit_bs, kit_si, kit_sb, kit_ss, kit_ni, kit_nb, kit_ns, S_inj, S_app, S_len, S_list, S_one, lit_no, lit_sp, lit_nl, lit_eq, cx_K, ex2, ex3, ex2b, rd_spN, rd_spC, rd_spI, rd_spIII, rd_spS, kNL, kBL, kES, kSB, h1, rd_spQ W, rd_spQII W, h4.fits, h4.column_behind, hz, f1, e, f2, eq_true e3]
            exact g
          · have g := go [] i l (by unfold placed; rw [if_neg f1', if_neg e, if_pos f2, if_neg (by omega)])
            simp [tPar, tPar3, -List.lookup_eq_none_iff, sizeLine_eq, tSl, tPart, tNoPart, rSlS, cut_lo, cut_hi, gc_cons, gn_nil, tJs, tFmt8, S_empty, tTup, tNever, tNext, tM1, tM0, tRet, tRetN, tAndV, tOrV, tNotV, tCall, tMeth, tProp, tVar, tC, tCons, tNil, L2.start, tChain, tTest, rI, rI0, tOp, tUn, tSeq, tIfS, tAnd, tOr, tNot, tB, tIf, tAsg, gName, tDrop, tCB, tFld, rEq, rNe, scal, rIsi_int, rIsi_bl, rIsi_str, rIsi_non, kit_ii, kit_ib, kit_is, kit_bi, kit_bb, kit_bs, kit_si, kit_sb, kit_ss, kit_ni, kit_nb, kit_ns, S_inj, S_app, S_len, S_list, S_one, lit_no, lit_sp, lit_nl, lit_eq, cx_K, ex2, ex3, ex2b, rd_spN, rd_spC, rd_spI, rd_spIII, rd_spS, kNL, kBL, kES, kSB, h1, rd_spQ W, rd_spQII W, h4.fits, h4.column_behind, hz, f1, e, f2, e3]
            exact g
        | false =>
          have f2' : ¬ fits q i (l.length : Int) = true := by simp [f2]
          have g := go (61 :: 10 :: l) l.length [] (by unfold placed; rw [if_neg f1', if_neg e, if_neg f2']; rfl)
          simp [tPar, tPar3, -List.lookup_eq_none_iff, sizeLine_eq, tSl, tPart, tNoPart, rSlS, cut_lo, cut_hi, gc_cons, gn_nil, tJs, tFmt8, S_empty, tTup, tNever, tNext, tM1, tM0, tRet, tRetN, tAndV, tOrV, tNotV, tCall, tMeth, tProp, tVar, tC, tCons, tNil, L2.start, tChain, tTest, rI, rI0, tOp, tUn, tSeq, tIfS, tAnd, tOr, tNot, tB, tIf, tAsg, gName, tDrop, tCB, tFld, rEq, rNe, scal, rIsi_int, rIsi_bl, rIsi_str, rIsi_non, kit_ii, kit_ib, kit_is, kit_bi, kit_bb, kit_bs, kit_si, kit_sb, kit_ss, kit_ni, kit_nb, kit_ns, S_inj, S_app, S_len, S_list, S_one, lit_no, lit_sp, lit_nl, lit_eq, cx_K, ex2, ex3, ex2b, rd_spN, rd_spC, rd_spI, rd_spIII, rd_spS, kNL, kBL, kES, kSB, h1, rd_spQ W, rd_spQII W, h4.fits, h4.column_behind, hz, f1, e, f2]
          exact ⟨by omega, g⟩
/-- the state st of a writer or reader: (column, text) -/
def StAt (H : Hp) (st : Addr) (c : Int) (h : List Nat) : Prop := H st = some (.tup [.int c, Pt.vs h])
def going (q : QC) (c : Int) (h : List Nat) : List Nat × Int :=
  if h = [] then ([], c) else if h = [32] then ([32], colb q c 1) else if h.length = 3 then (10 :: h, 3) else (61 :: 10 :: h, 1)
def spGo (K : Fg) : Sp := fun us H Q _ => ∃ c q st i h, us = [.ref c, .ref st] ∧ Wy K H c q ∧ StAt H st i h ∧ h.length ≤ 3 ∧ NewT H [Pt.vs (going q i h).1, .int (going q i h).2] Q
theorem sc_Quoted_going_on : FnScope ["self", "state", "column", "held"] ["self", "state"] (defScope s_Quoted_going_on) := ⟨rfl, rfl, rfl, by decide +kernel, rfl, by decide +kernel, by decide +kernel⟩
theorem ok_Quoted_going_on (T : Tx K mg) : Fok P w K mg base 4 d_Quoted_going_on ["self", "state"] [] (spGo K) := by
  refine fok T.F_Quoted_going_on sc_Quoted_going_on (fun vs H Q E h => ?_) (fun _ _ _ _ _ _ us hl => match us, hl with | [_, _], _ => rfl) (fun cdv A outer s H vs Q E hr h => ?_)
  · obtain ⟨c, q, st, i, h, rfl, _⟩ := h; rfl
  · obtain ⟨c, q, st, i, l, rfl, W, hst, hl, k⟩ := h
    obtain ⟨dx, fs, t, h1, h2, h3, h4⟩ := id W
    have hz : l.length ≤ 16777216 := Nat.le_trans hl (by decide)
    have hst' : H st = some (.tup [.int i, Pt.vs l]) := hst
    refine ⟨_, (pss_cons (ps_asg (pv 1) (pg_tup rfl (pgs_cons (pg_name (i := 2) sc_Quoted_going_on.nd rfl (Or.inl rfl)) (pgs_cons (pg_name (i := 3) sc_Quoted_going_on.nd rfl (Or.inl rfl)) pgs_nil))))
        (pss_cons (ps_if (pt_cmpR op_eq (pv 3) pe_str (nomark _)) (pss_one (ps_ret (pe_tup (pa_cons pe_str (pa_cons (pv 2) pa_nil))))) pss_nil)
        (pss_cons (ps_if (pt_cmpR op_eq (pv 3) (pe_gS T.s_BLANK) (nomark _)) (pss_one (ps_ret (pe_tup (pa_cons (pe_gS T.s_BLANK) (pa_cons (pe_mF (ok_Quoted_column_behind T) (hr.mono (by decide)) T.c_Quoted T.m_Quoted_column_behind (pv 0) (pa_cons (pv 2) (pa_cons pe_int pa_nil))) pa_nil))))) pss_nil)
        (pss_one (ps_ret (pe_ifExp (pt_cmpR op_eq (pe_callB call_len_str (by rfl) T.n_len PySem.boot_len (pa_cons (pv 3) pa_nil)) (pe_gI T.i_CODED) (nomark _)) (pe_tup (pa_cons (pe_op op_add_str (pe_gS T.s_NEWLINE) (pv 3)) (pa_cons (pe_gI T.i_CODED) pa_nil))) (pe_tup (pa_cons (pe_op op_add_str (pe_gS T.s_SOFT_BREAK) (pv 3)) (pa_cons pe_int pa_nil))))))))), ?_⟩
    refine ⟨_, rfl, gTup_at hst rfl ?_⟩
    have go : ∀ (part : List Nat) (c' : Int), going q i l = (part, c') → ∀ p, H p = none → Q (V.ref p) (upd H p (HO.tup [V.str (S part), V.int c'])) := fun part c' e p hp => NewT.of (xs := [Pt.vs part, .int c']) (by rw [e] at k; exact k) hp
    by_cases e1 : l = []
    · have g := go [] i (by unfold going; rw [if_pos e1])
      simp [tPar, tPar3, -List.lookup_eq_none_iff, sizeLine_eq, tSl, tPart, tNoPart, rSlS, cut_lo, cut_hi, gc_cons, gn_nil, tJs, tFmt8, S_empty, tTup, tNever, tNext, tM1, tM0, tRet, tRetN, tAndV, tOrV, tNotV, tCall, tMeth, tProp, tVar, tC, tCons, tNil, L2.start, tChain, tTest, rI, rI0, tOp, tUn, tSeq, tIfS, tAnd, tOr, tNot, tB, tIf, tAsg, gName, tDrop, tCB, tFld, rEq, rNe, scal, rIsi_int, rIsi_bl, rIsi_str, rIsi_non, kit_ii, kit_ib, kit_is, kit_bi, kit_bb, kit_bs, kit_si, kit_sb, kit_ss, kit_ni, kit_nb, kit_ns, S_inj, S_app, S_len, S_list, S_one, lit_no, lit_sp, lit_nl, lit_eq, cx_K, ex2, ex3, ex2b, rd_spN, rd_spC, rd_spI, rd_spIII, rd_spS, kNL, kBL, kES, kSB, h1, rd_spQ W, rd_spQII W, h4.fits, h4.column_behind, hz, eq_true e1]
      exact g
    · by_cases e2 : l = [32]
      · have g := go [32] (colb q i 1) (by unfold going; rw [if_neg e1, if_pos e2])
        simp [tPar, tPar3, -List.lookup_eq_none_iff, sizeLine_eq, tSl, tPart, tNoPart, rSlS, cut_lo, cut_hi, gc_cons, gn_nil, tJs, tFmt8, S_empty, tTup, tNever, tNext, tM1, tM0, tRet, tRetN, tAndV, tOrV, tNotV, tCall, tMeth, tProp, tVar, tC, tCons, tNil, L2.start, tChain, tTest, rI, rI0, tOp, tUn, tSeq, tIfS, tAnd, tOr, tNot, tB, tIf, tAsg, gName, tDrop, tCB, tFld, rEq, rNe, scal, rIsi_int, rIsi_bl, rIsi_str, rIsi_non, kit_ii, kit_ib, kit_is, kit_bi, kit_bb, kit_bs, kit_si, kit_sb, kit_ss, kit_ni, kit_nb, kit_ns, S_inj, S_app, S_len, S_list, S_one, lit_no, lit_sp, lit_nl, lit_eq, cx_K, ex2, ex3, ex2b, rd_spN, rd_spC, rd_spI, rd_spIII, rd_spS, kNL, kBL, kES, kSB, h1, rd_spQ W, rd_spQII W, h4.fits, h4.column_behind, hz, e1, eq_true e2]
        exact g
      · by_cases e3 : (l.length : Int) = 3
        · have g := go (10 :: l) 3 (by unfold going; rw [if_neg e1, if_neg e2, if_pos (by omega)])
          simp [tPar, tPar3, -List.lookup_eq_none_iff, sizeLine_eq, tSl, tPart, tNoPart, rSlS, cut_lo, cut_hi, gc_cons, gn_nil, tJs, tFmt8, S_empty, tTup, tNever, tNext, tM1, tM0, tRet, tRetN, tAndV, tOrV, tNotV, tCall, tMeth, tProp, tVar, tC, tCons, tNil, L2.start, tChain, tTest, rI, rI0, tOp, tUn, tSeq, tIfS, tAnd, tOr, tNot, tB, tIf, tAsg, gName, tDrop, tCB, tFld, rEq, rNe, scal, rIsi_int, rIsi_bl, rIsi_str, rIsi_non, kit_ii, kit_ib, kit_is, kit_bi, kit_bb, kit_bs, kit_si, kit_sb, kit_ss, kit_ni, kit_nb, kit_ns, S_inj, S_app, S_len, S_list, S_one, lit_no, lit_sp, lit_nl, lit_eq, cx_K, ex2, ex3, ex2b, rd_spN, rd_spC, rd_spI, rd_spIII, rd_spS, kNL, kBL, kES, kSB, h1, rd_spQ W, rd_spQII W, h4.fits, h4.column_behind, hz, e1, e2, eq_true e3]
          exact ⟨by omega, g⟩
        · have g := go (61 :: 10 :: l) 1 (by unfold going; rw [if_neg e1, if_neg e2, if_neg (by omega)])
          simp [tPar, tPar3, -List.lookup_eq_none_iff, sizeLine_eq, tSl, tPart, tNoPart, rSlS, cut_lo, cut_hi, gc_cons, gn_nil, tJs, tFmt8, S_empty, tTup, tNever, tNext, tM1, tM0, tRet, tRetN, tAndV, tOrV, tNotV, tCall, tMeth, tProp, tVar, tC, tCons, tNil, L2.start, tChain, tTest, rI, rI0, tOp, tUn, tSeq, tIfS, tAnd, tOr, tNot, tB, tIf, tAsg, gName, tDrop, tCB, tFld, rEq, rNe, scal, rIsi_int, rIsi_bl, rIsi_str, rIsi_non, kit_ii, kit_ib, kit_is, kit_bi, kit_bb, kit_bs, kit_si, kit_sb, kit_ss, kit_ni, kit_nb, kit_ns, S_inj, S_app, S_len, S_list, S_one, lit_no, lit_sp, lit_nl, lit_eq, cx_K, ex2, ex3, ex2b, rd_spN, rd_spC, rd_spI, rd_spIII, rd_spS, kNL, kBL, kES, kSB, h1, rd_spQ W, rd_spQII W, h4.fits, h4.column_behind, hz, e1, e2, e3]
          exact ⟨by omega, g⟩
def ending (q : QC) (c : Int) (h : List Nat) : List Nat :=
  if h = [32] then (if fits q c 3 then [61, 50, 48] else [61, 10, 61, 50, 48]) else if h.length = 3 then h.drop 1 else h
def spEnd (K : Fg) : Sp := fun us H Q _ => ∃ c q st i h, us = [.ref c, .ref st] ∧ Wy K H c q ∧ StAt H st i h ∧ h.length ≤ 3 ∧ Q (Pt.vs (ending q i h)) H
theorem sc_Quoted_ending : FnScope ["self", "state", "column", "held", "coded"] ["self", "state"] (defScope s_Quoted_ending) := ⟨rfl, rfl, rfl, by decide +kernel, rfl, by decide +kernel, by decide +kernel⟩
theorem ok_Quoted_ending (T : Tx K mg) : Fok P w K mg base 4 d_Quoted_ending ["self", "state"] [] (spEnd K) := by
  refine fok T.F_Quoted_ending sc_Quoted_ending (fun vs H Q E h => ?_) (fun _ _ _ _ _ _ us hl => match us, hl with | [_, _], _ => rfl) (fun cdv A outer s H vs Q E hr h => ?_)
  · obtain ⟨c, q, st, i, h, rfl, _⟩ := h; rfl
  · obtain ⟨c, q, st, i, l, rfl, W, hst, hl, k⟩ := h
    obtain ⟨dx, fs, t, h1, h2, h3, h4⟩ := id W
    have hz : l.length ≤ 16777216 := Nat.le_trans hl (by decide)
    refine ⟨_, (pss_cons (ps_asg (pv 1) (pg_tup rfl (pgs_cons (pg_name (i := 2) sc_Quoted_ending.nd rfl (Or.inl rfl)) (pgs_cons (pg_name (i := 3) sc_Quoted_ending.nd rfl (Or.inl rfl)) pgs_nil))))
        (pss_cons (ps_if (pt_cmpR op_eq (pv 3) (pe_gS T.s_BLANK) (nomark _)) (pss_cons (ps_set (i := 4) sc_Quoted_ending.nd rfl (Or.inl rfl) (pe_joined (PJ.cons pe_str (PJ.cons (pe_fmtX (pe_gI T.i_SPACE)) PJ.nil))))
        (pss_one (ps_ret (pe_ifExp (pt_val (pe_mF (ok_Quoted_fits T) (hr.mono (by decide)) T.c_Quoted T.m_Quoted_fits (pv 0) (pa_cons (pv 2) (pa_cons (pe_gI T.i_CODED) pa_nil)))) (pv 4) (pe_op op_add_str (pe_gS T.s_SOFT_BREAK) (pv 4)))))) pss_nil)
        (pss_one (ps_ret (pe_ifExp (pt_cmpR op_eq (pe_callB call_len_str (by rfl) T.n_len PySem.boot_len (pa_cons (pv 3) pa_nil)) (pe_gI T.i_CODED) (nomark _)) (pe_slice sl_str (pv 3) (po_some pe_int) po_none) (pv 3)))))), ?_⟩
    refine ⟨_, rfl, gTup_at hst rfl ?_⟩
    unfold ending at k
    by_cases e2 : l = [32]
    · rw [if_pos e2] at k
      cases f : fits q i 3 with
      | true =>
        rw [if_pos f] at k
        simp [tPar, tPar3, -List.lookup_eq_none_iff, sizeLine_eq, tSl, tPart, tNoPart, rSlS, cut_lo, cut_hi, gc_cons, gn_nil, tJs, tFmt8, S_empty, tTup, tNever, tNext, tM1, tM0, tRet, tRetN, tAndV, tOrV, tNotV, tCall, tMeth, tProp, tVar, tC, tCons, tNil, L2.start, tChain, tTest, rI, rI0, tOp, tUn, tSeq, tIfS, tAnd, tOr, tNot, tB, tIf, tAsg, gName, tDrop, tCB, tFld, rEq, rNe, scal, rIsi_int, rIsi_bl, rIsi_str, rIsi_non, kit_ii, kit_ib, kit_is, kit_bi, kit_bb, kit_bs, kit_si, kit_sb, kit_ss, kit_ni, kit_nb, kit_ns, S_inj, S_app, S_len, S_list, S_one, lit_no, lit_sp, lit_nl, lit_eq, cx_K, ex2, ex3, ex2b, rd_spN, rd_spC, rd_spI, rd_spIII, rd_spS, kNL, kBL, kES, kSB, h1, rd_spQ W, rd_spQII W, h4.fits, hz, eq_true e2, f]
        exact ⟨32, rfl, by decide, by decide, k⟩
      | false =>
        rw [if_neg (by simp [f])] at k
        simp [tPar, tPar3, -List.lookup_eq_none_iff, sizeLine_eq, tSl, tPart, tNoPart, rSlS, cut_lo, cut_hi, gc_cons, gn_nil, tJs, tFmt8, S_empty, tTup, tNever, tNext, tM1, tM0, tRet, tRetN, tAndV, tOrV, tNotV, tCall, tMeth, tProp, tVar, tC, tCons, tNil, L2.start, tChain, tTest, rI, rI0, tOp, tUn, tSeq, tIfS, tAnd, tOr, tNot, tB, tIf, tAsg, gName, tDrop, tCB, tFld, rEq, rNe, scal, rIsi_int, rIsi_bl, rIsi_str, rIsi_non, kit_ii, kit_ib, kit_is, kit_bi, kit_bb, kit_bs, kit_si, kit_sb, kit_ss, kit_ni, kit_nb, kit_ns, S_inj, S_app, S_len, S_list, S_one, lit_no, lit_sp, lit_nl, lit_eq, cx_K, ex2, ex3, ex2b, rd_spN, rd_spC, rd_spI, rd_spIII, rd_spS, kNL, kBL, kES, kSB, h1, rd_spQ W, rd_spQII W, h4.fits, hz, eq_true e2, f]
        exact ⟨32, rfl, by decide, by decide, by decide, k⟩
    · rw [if_neg e2] at k
      by_cases e3 : (l.length : Int) = 3
      · rw [if_pos (by omega)] at k
        simp [tPar, tPar3, -List.lookup_eq_none_iff, sizeLine_eq, tSl, tPart, tNoPart, rSlS, cut_lo, cut_hi, gc_cons, gn_nil, tJs, tFmt8, S_empty, tTup, tNever, tNext, tM1, tM0, tRet, tRetN, tAndV, tOrV, tNotV, tCall, tMeth, tProp, tVar, tC, tCons, tNil, L2.start, tChain, tTest, rI, rI0, tOp, tUn, tSeq, tIfS, tAnd, tOr, tNot, tB, tIf, tAsg, gName, tDrop, tCB, tFld, rEq, rNe, scal, rIsi_int, rIsi_bl, rIsi_str, rIsi_non, kit_ii, kit_ib, kit_is, kit_bi, kit_bb, kit_bs, kit_si, kit_sb, kit_ss, kit_ni, kit_nb, kit_ns, S_inj, S_app, S_len, S_list, S_one, lit_no, lit_sp, lit_nl, lit_eq, cx_K, ex2, ex3, ex2b, rd_spN, rd_spC, rd_spI, rd_spIII, rd_spS, kNL, kBL, kES, kSB, h1, rd_spQ W, rd_spQII W, h4.fits, hz, e2, eq_true e3]
        simpa using k
      · rw [if_neg (by omega)] at k
        simp [tPar, tPar3, -List.lookup_eq_none_iff, sizeLine_eq, tSl, tPart, tNoPart, rSlS, cut_lo, cut_hi, gc_cons, gn_nil, tJs, tFmt8, S_empty, tTup, tNever, tNext, tM1, tM0, tRet, tRetN, tAndV, tOrV, tNotV, tCall, tMeth, tProp, tVar, tC, tCons, tNil, L2.start, tChain, tTest, rI, rI0, tOp, tUn, tSeq, tIfS, tAnd, tOr, tNot, tB, tIf, tAsg, gName, tDrop, tCB, tFld, rEq, rNe, scal, rIsi_int, rIsi_bl, rIsi_str, rIsi_non, kit_ii, kit_ib, kit_is, kit_bi, kit_bb, kit_bs, kit_si, kit_sb, kit_ss, kit_ni, kit_nb, kit_ns, S_inj, S_app, S_len, S_list, S_one, lit_no, lit_sp, lit_nl, lit_eq, cx_K, ex2, ex3, ex2b, rd_spN, rd_spC, rd_spI, rd_spIII, rd_spS, kNL, kBL, kES, kSB, h1, rd_spQ W, rd_spQII W, h4.fits, hz, e2, e3]
        exact k
end
end K45
end
section
namespace K45
open PySem PySem.Spec PyProof.Rows L2 Pt
def items (q : QC) : List V := (List.range 256).map fun n => Pt.vs (item q n)
theorem items_get {q : QC} {n : Nat} (h : n < 256) : (items q)[n]? = some (Pt.vs (item q n)) := by
  unfold items
  rw [List.getElem?_map, List.getElem?_range h]; rfl
theorem item_len (q : QC) (n : Nat) : (item q n).length ≤ 3 := by
  unfold item
  split
  · decide
  · split
    · simp
    · show 3 ≤ 3; decide
/-- a quoted code stands at c -/
def Qo (K : Fg) (H : Hp) (c : Addr) (q : QC) : Prop := ∃ dx fs t kl, H c = some (.ins (CQ K) dx fs) ∧ fs.lookup ("ways" : Str) = some (.ref t) ∧ H t = some (.tup [.int q.w, .bl q.b, .str (S q.a)]) ∧ NoM fs ∧
  fs.lookup ("known_items" : Str) = some (.ref kl) ∧ H kl = some (.lst (items q))
theorem Qo.wy {K : Fg} {H : Hp} {c : Addr} {q : QC} (h : Qo K H c q) : Wy K H c q := by
  obtain ⟨dx, fs, t, kl, h1, h2, h3, h4, _⟩ := h
  exact ⟨dx, fs, t, h1, h2, h3, h4⟩
theorem Qo.same {K : Fg} {H H' : Hp} {c : Addr} {q : QC} (h : Qo K H c q) (s : Same H H') : Qo K H' c q := by
  obtain ⟨dx, fs, t, kl, h1, h2, h3, h4, h5, h6⟩ := h
  exact ⟨dx, fs, t, kl, s _ _ h1, h2, s _ _ h3, h4, h5, s _ _ h6⟩
def writeQ (q : QC) (c : Int) (h : List Nat) (n : Nat) : List Nat × Int × List Nat :=
  if isNl q n then (ending q c h ++ [10], 0, []) else
    ((going q c h).1 ++ (placed q (going q c h).2 (item q n)).1, (placed q (going q c h).2 (item q n)).2)
theorem placed_len {q : QC} {c : Int} {l : List Nat} (h : l.length ≤ 3) : (placed q c l).2.2.length ≤ 3 ∧ (placed q c l).1.length ≤ 5 := by
  unfold placed
  split
  · split <;> simp <;> omega
  · split
    · simp; omega
    · split
      · split <;> simp <;> omega
      · simp; omega
theorem going_len {q : QC} {c : Int} {l : List Nat} (h : l.length ≤ 3) : (going q c l).1.length ≤ 5 := by
  unfold going
  split
  · simp
  · split
    · simp
    · split <;> simp <;> omega
theorem ending_len {q : QC} {c : Int} {l : List Nat} (h : l.length ≤ 3) : (ending q c l).length ≤ 5 := by
  unfold ending
  split
  · split <;> simp
  · split <;> (try simp) <;> omega
section
variable {P : Program} {w : World} {K : Fg} {mg : Str → Option Value} {base : Heap}
def spWrite (K : Fg) : Sp := fun us H Q _ => ∃ c q st i h n, us = [.ref c, .ref st, vi n] ∧ Qo K H c q ∧ StAt H st i h ∧ h.length ≤ 3 ∧ n < 256 ∧ NewPS H (writeQ q i h n) Q
theorem sc_Quoted_write : FnScope ["self", "state", "byte", "part", "column", "more", "after"] ["self", "state", "byte"] (defScope s_Quoted_write) := ⟨rfl, rfl, rfl, by decide +kernel, rfl, by decide +kernel, by decide +kernel⟩
theorem ok_Quoted_write (T : Tx K mg) : Fok P w K mg base 5 d_Quoted_write ["self", "state", "byte"] [] (spWrite K) := by
  refine fok T.F_Quoted_write sc_Quoted_write (fun vs H Q E h => ?_) (fun _ _ _ _ _ _ us hl => match us, hl with | [_, _, _], _ => rfl) (fun cdv A outer s H vs Q E hr h => ?_)
  · obtain ⟨c, q, st, i, h, n, rfl, _⟩ := h; rfl
  · obtain ⟨c, q, st, i, l, n, rfl, W, hst, hl, hn, k⟩ := h
    obtain ⟨dx, fs, t, kl, h1, h2, h3, h4, h5, h6⟩ := id W
    refine ⟨_, (pss_cons (ps_if (pt_val (pe_mF (ok_Quoted_is_newline T) (hr.mono (by decide)) T.c_Quoted T.m_Quoted_is_newline (pv 0) (pa_cons (pv 2) pa_nil))) (pss_one (ps_ret (pe_tup (pa_cons (pe_op op_add_str (pe_mF (ok_Quoted_ending T) (hr.mono (by decide)) T.c_Quoted T.m_Quoted_ending (pv 0) (pa_cons (pv 1) pa_nil)) (pe_gS T.s_NEWLINE)) (pa_cons (pe_tup (pa_cons pe_int (pa_cons pe_str pa_nil))) pa_nil))))) pss_nil)
        (pss_cons (ps_asg (pe_mF (ok_Quoted_going_on T) (hr.mono (by decide)) T.c_Quoted T.m_Quoted_going_on (pv 0) (pa_cons (pv 1) pa_nil)) (pg_tup rfl (pgs_cons (pg_name (i := 3) sc_Quoted_write.nd rfl (Or.inl rfl)) (pgs_cons (pg_name (i := 4) sc_Quoted_write.nd rfl (Or.inl rfl)) pgs_nil))))
        (pss_cons (ps_asg (pe_mF (ok_Quoted_placed T) (hr.mono (by decide)) T.c_Quoted T.m_Quoted_placed (pv 0) (pa_cons (pv 4) (pa_cons (pe_ix ix_list (pe_fld (pv 0) rfl) (pv 2) (fun _ _ => rfl)) pa_nil))) (pg_tup rfl (pgs_cons (pg_name (i := 5) sc_Quoted_write.nd rfl (Or.inl rfl)) (pgs_cons (pg_name (i := 6) sc_Quoted_write.nd rfl (Or.inl rfl)) pgs_nil))))
        (pss_one (ps_ret (pe_tup (pa_cons (pe_op op_add_str (pv 3) (pv 5)) (pa_cons (pv 6) pa_nil)))))))), ?_⟩
    cases hb : isNl q n with
    | true =>
      have hq : (decide ((n : Int) = 10) && !q.b) = true := hb
      have e : writeQ q i l n = (ending q i l ++ [10], 0, []) := by unfold writeQ; rw [if_pos hb]
      have he := ending_len (q := q) (c := i) hl
      simp [tPar, tPar3, -List.lookup_eq_none_iff, sizeLine_eq, tSl, tPart, tNoPart, rSlS, cut_lo, cut_hi, gc_cons, gn_nil, tJs, tFmt8, S_empty, tTup, tNever, tNext, tM1, tM0, tRet, tRetN, tAndV, tOrV, tNotV, tCall, tMeth, tProp, tVar, tC, tCons, tNil, L2.start, tChain, tTest, rI, rI0, tOp, tUn, tSeq, tIfS, tAnd, tOr, tNot, tB, tIf, tAsg, gName, tDrop, tCB, tFld, rEq, rNe, scal, rIsi_int, rIsi_bl, rIsi_str, rIsi_non, kit_ii, kit_ib, kit_is, kit_bi, kit_bb, kit_bs, kit_si, kit_sb, kit_ss, kit_ni, kit_nb, kit_ns, S_inj, S_app, S_len, S_list, S_one, lit_no, lit_sp, lit_nl, lit_eq, cx_K, ex2, ex3, ex2b, rd_spN, rd_spC, rd_spI, rd_spIII, rd_spS, kNL, kBL, kES, kSB, h1, rd_spQI W.wy, h4.is_newline, h4.ending, hq]
      refine ⟨c, q, st, i, l, rfl, W.wy, hst, hl, ?_⟩
      (try simp [tPar, tPar3, -List.lookup_eq_none_iff, sizeLine_eq, tSl, tPart, tNoPart, rSlS, cut_lo, cut_hi, gc_cons, gn_nil, tJs, tFmt8, S_empty, tTup, tNever, tNext, tM1, tM0, tRet, tRetN, tAndV, tOrV, tNotV, tCall, tMeth, tProp, tVar, tC, tCons, tNil, L2.start, tChain, tTest, rI, rI0, tOp, tUn, tSeq, tIfS, tAnd, tOr, tNot, tB, tIf, tAsg, gName, tDrop, tCB, tFld, rEq, rNe, scal, rIsi_int, rIsi_bl, rIsi_str, rIsi_non, kit_ii, kit_ib, kit_is, kit_bi, kit_bb, kit_bs, kit_si, kit_sb, kit_ss, kit_ni, kit_nb, kit_ns, S_inj, S_app, S_len, S_list, S_one, lit_no, lit_sp, lit_nl, lit_eq, cx_K, ex2, ex3, ex2b, rd_spN, rd_spC, rd_spI, rd_spIII, rd_spS, kNL, kBL, kES, kSB])
      refine ⟨by omega, fun p hp r hr => ?_⟩
      rw [e] at k
      exact NewPS.of k hp hr
    | false =>
      have hq : (decide ((n : Int) = 10) && !q.b) = false := hb
      simp [tPar, tPar3, -List.lookup_eq_none_iff, sizeLine_eq, tSl, tPart, tNoPart, rSlS, cut_lo, cut_hi, gc_cons, gn_nil, tJs, tFmt8, S_empty, tTup, tNever, tNext, tM1, tM0, tRet, tRetN, tAndV, tOrV, tNotV, tCall, tMeth, tProp, tVar, tC, tCons, tNil, L2.start, tChain, tTest, rI, rI0, tOp, tUn, tSeq, tIfS, tAnd, tOr, tNot, tB, tIf, tAsg, gName, tDrop, tCB, tFld, rEq, rNe, scal, rIsi_int, rIsi_bl, rIsi_str, rIsi_non, kit_ii, kit_ib, kit_is, kit_bi, kit_bb, kit_bs, kit_si, kit_sb, kit_ss, kit_ni, kit_nb, kit_ns, S_inj, S_app, S_len, S_list, S_one, lit_no, lit_sp, lit_nl, lit_eq, cx_K, ex2, ex3, ex2b, rd_spN, rd_spC, rd_spI, rd_spIII, rd_spS, kNL, kBL, kES, kSB, h1, rd_spQI W.wy, h4.is_newline, h4.going_on, hq]
      refine ⟨c, q, st, i, l, rfl, W.wy, hst, hl, fun p H1 s1 e1 => gTup_at e1 rfl ?_⟩
      simp [tPar, tPar3, -List.lookup_eq_none_iff, sizeLine_eq, tSl, tPart, tNoPart, rSlS, cut_lo, cut_hi, gc_cons, gn_nil, tJs, tFmt8, S_empty, tTup, tNever, tNext, tM1, tM0, tRet, tRetN, tAndV, tOrV, tNotV, tCall, tMeth, tProp, tVar, tC, tCons, tNil, L2.start, tChain, tTest, rI, rI0, tOp, tUn, tSeq, tIfS, tAnd, tOr, tNot, tB, tIf, tAsg, gName, tDrop, tCB, tFld, rEq, rNe, scal, rIsi_int, rIsi_bl, rIsi_str, rIsi_non, kit_ii, kit_ib, kit_is, kit_bi, kit_bb, kit_bs, kit_si, kit_sb, kit_ss, kit_ni, kit_nb, kit_ns, S_inj, S_app, S_len, S_list, S_one, lit_no, lit_sp, lit_nl, lit_eq, cx_K, ex2, ex3, ex2b, rd_spN, rd_spC, rd_spI, rd_spIII, rd_spS, kNL, kBL, kES, kSB, s1 _ _ h1, h4.placed, T.c_Quoted, T.a_Quoted_known_items, h5]
      refine ⟨kl, items q, _, _, rfl, rfl, SqL.of (s1 _ _ h6), atI_nat (items_get hn), ?_⟩
      refine ⟨c, q, _, _, rfl, (W.same s1).wy, item_len q n, fun p2 t2 H2 s2 e2 e3 => gTup_at e2 rfl ?_⟩
      have g1 := going_len (q := q) (c := i) hl
      have g2 := placed_len (q := q) (c := (going q i l).2) (item_len q n)
      (try simp [tPar, tPar3, -List.lookup_eq_none_iff, sizeLine_eq, tSl, tPart, tNoPart, rSlS, cut_lo, cut_hi, gc_cons, gn_nil, tJs, tFmt8, S_empty, tTup, tNever, tNext, tM1, tM0, tRet, tRetN, tAndV, tOrV, tNotV, tCall, tMeth, tProp, tVar, tC, tCons, tNil, L2.start, tChain, tTest, rI, rI0, tOp, tUn, tSeq, tIfS, tAnd, tOr, tNot, tB, tIf, tAsg, gName, tDrop, tCB, tFld, rEq, rNe, scal, rIsi_int, rIsi_bl, rIsi_str, rIsi_non, kit_ii, kit_ib, kit_is, kit_bi, kit_bb, kit_bs, kit_si, kit_sb, kit_ss, kit_ni, kit_nb, kit_ns, S_inj, S_app, S_len, S_list, S_one, lit_no, lit_sp, lit_nl, lit_eq, cx_K, ex2, ex3, ex2b, rd_spN, rd_spC, rd_spI, rd_spIII, rd_spS, kNL, kBL, kES, kSB])
      refine ⟨by omega, fun p3 hp3 => ?_⟩
      have e : writeQ q i l n = ((going q i l).1 ++ (placed q (going q i l).2 (item q n)).1, (placed q (going q i l).2 (item q n)).2) := by unfold writeQ; rw [if_neg (by simp [hb])]
      rw [e] at k
      exact k p3 t2 _ ((s1.trans s2).trans (same_upd hp3)) upd_same (by rw [upd_ne (ne_of_none e3 hp3)]; exact e3)
theorem sc_Quoted_close : FnScope ["self", "state"] ["self", "state"] (defScope s_Quoted_close) := ⟨rfl, rfl, rfl, by decide +kernel, rfl, by decide +kernel, by decide +kernel⟩
theorem ok_Quoted_close (T : Tx K mg) : Fok P w K mg base 5 d_Quoted_close ["self", "state"] [] (spEnd K) := by
  refine fok T.F_Quoted_close sc_Quoted_close (fun vs H Q E h => ?_) (fun _ _ _ _ _ _ us hl => match us, hl with | [_, _], _ => rfl) (fun cdv A outer s H vs Q E hr h => ?_)
  · obtain ⟨c, q, st, i, h, rfl, _⟩ := h; rfl
  · obtain ⟨c, q, st, i, l, rfl, W, hst, hl, k⟩ := h
    obtain ⟨dx, fs, t, h1, h2, h3, h4⟩ := id W
    refine ⟨_, (pss_one (ps_ret (pe_mF (ok_Quoted_ending T) (hr.mono (by decide)) T.c_Quoted T.m_Quoted_ending (pv 0) (pa_cons (pv 1) pa_nil)))), ?_⟩
    simp [tPar, tPar3, -List.lookup_eq_none_iff, sizeLine_eq, tSl, tPart, tNoPart, rSlS, cut_lo, cut_hi, gc_cons, gn_nil, tJs, tFmt8, S_empty, tTup, tNever, tNext, tM1, tM0, tRet, tRetN, tAndV, tOrV, tNotV, tCall, tMeth, tProp, tVar, tC, tCons, tNil, L2.start, tChain, tTest, rI, rI0, tOp, tUn, tSeq, tIfS, tAnd, tOr, tNot, tB, tIf, tAsg, gName, tDrop, tCB, tFld, rEq, rNe, scal, rIsi_int, rIsi_bl, rIsi_str, rIsi_non, kit_ii, kit_ib, kit_is, kit_bi, kit_bb, kit_bs, kit_si, kit_sb, kit_ss, kit_ni, kit_nb, kit_ns, S_inj, S_app, S_len, S_list, S_one, lit_no, lit_sp, lit_nl, lit_eq, cx_K, ex2, ex3, ex2b, rd_spN, rd_spC, rd_spI, rd_spIII, rd_spS, kNL, kBL, kES, kSB, h1, h4.ending]
    exact ⟨c, q, st, i, l, rfl, W, hst, hl, k⟩
def spNew (K : Fg) (f : List V) : Sp := fun us H Q _ => ∃ c, us = [.ref c] ∧ NewT H f Q
theorem sc_Quoted_begin : FnScope ["self"] ["self"] (defScope s_Quoted_begin) := ⟨rfl, rfl, rfl, by decide +kernel, rfl, by decide +kernel, by decide +kernel⟩
theorem ok_Quoted_begin (T : Tx K mg) : Fok P w K mg base 1 d_Quoted_begin ["self"] [] (spNew K [.int 0, Pt.vs []]) := by
  refine fok T.F_Quoted_begin sc_Quoted_begin (fun vs H Q E h => ?_) (fun _ _ _ _ _ _ us hl => match us, hl with | [_], _ => rfl) (fun cdv A outer s H vs Q E hr h => ?_)
  · obtain ⟨c, rfl, _⟩ := h; rfl
  · obtain ⟨c, rfl, k⟩ := h
    refine ⟨_, (pss_one (ps_ret (pe_tup (pa_cons pe_int (pa_cons pe_str pa_nil))))), ?_⟩
    (try simp [tPar, tPar3, -List.lookup_eq_none_iff, sizeLine_eq, tSl, tPart, tNoPart, rSlS, cut_lo, cut_hi, gc_cons, gn_nil, tJs, tFmt8, S_empty, tTup, tNever, tNext, tM1, tM0, tRet, tRetN, tAndV, tOrV, tNotV, tCall, tMeth, tProp, tVar, tC, tCons, tNil, L2.start, tChain, tTest, rI, rI0, tOp, tUn, tSeq, tIfS, tAnd, tOr, tNot, tB, tIf, tAsg, gName, tDrop, tCB, tFld, rEq, rNe, scal, rIsi_int, rIsi_bl, rIsi_str, rIsi_non, kit_ii, kit_ib, kit_is, kit_bi, kit_bb, kit_bs, kit_si, kit_sb, kit_ss, kit_ni, kit_nb, kit_ns, S_inj, S_app, S_len, S_list, S_one, lit_no, lit_sp, lit_nl, lit_eq, cx_K, ex2, ex3, ex2b, rd_spN, rd_spC, rd_spI, rd_spIII, rd_spS, kNL, kBL, kES, kSB])
    exact fun p hp => k.of hp
theorem sc_Quoted_opening : FnScope ["self"] ["self"] (defScope s_Quoted_opening) := ⟨rfl, rfl, rfl, by decide +kernel, rfl, by decide +kernel, by decide +kernel⟩
theorem ok_Quoted_opening (T : Tx K mg) : Fok P w K mg base 1 d_Quoted_opening ["self"] [] (spNew K [.int 0, Pt.vs []]) := by
  refine fok T.F_Quoted_opening sc_Quoted_opening (fun vs H Q E h => ?_) (fun _ _ _ _ _ _ us hl => match us, hl with | [_], _ => rfl) (fun cdv A outer s H vs Q E hr h => ?_)
  · obtain ⟨c, rfl, _⟩ := h; rfl
  · obtain ⟨c, rfl, k⟩ := h
    refine ⟨_, (pss_one (ps_ret (pe_tup (pa_cons pe_int (pa_cons pe_str pa_nil))))), ?_⟩
    (try simp [tPar, tPar3, -List.lookup_eq_none_iff, sizeLine_eq, tSl, tPart, tNoPart, rSlS, cut_lo, cut_hi, gc_cons, gn_nil, tJs, tFmt8, S_empty, tTup, tNever, tNext, tM1, tM0, tRet, tRetN, tAndV, tOrV, tNotV, tCall, tMeth, tProp, tVar, tC, tCons, tNil, L2.start, tChain, tTest, rI, rI0, tOp, tUn, tSeq, tIfS, tAnd, tOr, tNot, tB, tIf, tAsg, gName, tDrop, tCB, tFld, rEq, rNe, scal, rIsi_int, rIsi_bl, rIsi_str, rIsi_non, kit_ii, kit_ib, kit_is, kit_bi, kit_bb, kit_bs, kit_si, kit_sb, kit_ss, kit_ni, kit_nb, kit_ns, S_inj, S_app, S_len, S_list, S_one, lit_no, lit_sp, lit_nl, lit_eq, cx_K, ex2, ex3, ex2b, rd_spN, rd_spC, rd_spI, rd_spIII, rd_spS, kNL, kBL, kES, kSB])
    exact fun p hp => k.of hp
end
end K45
end
section
namespace K45
open PySem PySem.Spec PyProof.Rows L2 Pt
def stepW (q : QC) (a : List (List Nat) × Int × List Nat) (n : Nat) : List (List Nat) × Int × List Nat := (a.1 ++ [(writeQ q a.2.1 a.2.2 n).1], (writeQ q a.2.1 a.2.2 n).2)
def accW (q : QC) (data : List Nat) : List (List Nat) × Int × List Nat := data.foldl (stepW q) ([], 0, [])
def wholeQ (q : QC) (data : List Nat) : List Nat := (accW q data).1.flatten ++ ending q (accW q data).2.1 (accW q data).2.2
theorem accW_succ {q : QC} {data : List Nat} {i n : Nat} (h : data[i]? = some n) : accW q (data.take (i + 1)) = stepW q (accW q (data.take i)) n := by
  unfold accW
  rw [List.take_add_one, h, List.foldl_append]
  rfl
theorem writeQ_len {q : QC} {c : Int} {l : List Nat} {n : Nat} (h : l.length ≤ 3) : (writeQ q c l n).2.2.length ≤ 3 ∧ (writeQ q c l n).1.length ≤ 10 := by
  unfold writeQ
  have g1 := going_len (q := q) (c := c) h
  have g2 := placed_len (q := q) (c := (going q c l).2) (item_len q n)
  have g3 := ending_len (q := q) (c := c) h
  split
  · simp; omega
  · simp; omega
theorem accW_len (q : QC) (data : List Nat) : (accW q data).2.2.length ≤ 3 ∧ (accW q data).1.length = data.length ∧ (∀ p ∈ (accW q data).1, p.length ≤ 10) := by
  unfold accW
  suffices h : ∀ (data : List Nat) (a : List (List Nat) × Int × List Nat), a.2.2.length ≤ 3 → (∀ p ∈ a.1, p.length ≤ 10) →
      (data.foldl (stepW q) a).2.2.length ≤ 3 ∧ (data.foldl (stepW q) a).1.length = a.1.length + data.length ∧ ∀ p ∈ (data.foldl (stepW q) a).1, p.length ≤ 10 by
    have := h data ([], 0, []) (by simp) (by simp)
    simpa using this
  intro data
  induction data with
  | nil => intro a h1 h2; exact ⟨h1, rfl, h2⟩
  | cons n r ih =>
    intro a h1 h2
    have g := writeQ_len (q := q) (c := a.2.1) (n := n) h1
    have := ih (stepW q a n) g.1 (fun p hp => by
      simp [stepW] at hp
      rcases hp with hp | rfl
      · exact h2 p hp
      · exact g.2)
    simp only [List.foldl_cons]
    refine ⟨this.1, ?_, this.2.2⟩
    rw [this.2.1]
    simp [stepW]; omega
theorem join_S : ∀ ys : List (List Nat), Txt.join (S []) (ys.map S) = S ys.flatten := by
  intro ys
  show PySem.Builtin.Str.glued _ _ = _
  rw [StrLaws.glued_eq_join]
  induction ys with
  | nil => rfl
  | cons x r ih =>
    cases r with
    | nil => simp [Str.join]
    | cons y z =>
      simp only [List.map_cons] at ih ⊢
      unfold Str.join
      rw [ih, S_app, S_app]
      simp
theorem sum_le (k : Nat) : ∀ ys : List (List Nat), (∀ y ∈ ys, y.length ≤ k) → ((ys.map S).map (·.length)).sum ≤ k * ys.length
  | [], _ => by simp
  | y :: r, h => by
    have h1 := h y (List.mem_cons_self ..)
    have h2 := sum_le k r fun z hz => h z (List.mem_cons_of_mem _ hz)
    simp only [List.map_cons, List.sum_cons, List.length_cons, S_len] at h2 ⊢
    rw [Nat.mul_add]
    omega
section
variable {P : Program} {w : World} {K : Fg} {mg : Str → Option Value} {base : Heap}
def spWhole (K : Fg) : Sp := fun us H Q _ => ∃ c q d data, us = [.ref c, .ref d] ∧ Qo K H c q ∧ SqL K H d (data.map vi) ∧ data.length ≤ 1000 ∧ (∀ n ∈ data, n < 256) ∧ Val H (Pt.vs (wholeQ q data)) Q
theorem sc_Quoted_whole : FnScope ["self", "data", "parts", "state", "byte", "part"] ["self", "data"] (defScope s_Quoted_whole) := ⟨rfl, rfl, rfl, by decide +kernel, rfl, by decide +kernel, by decide +kernel⟩
theorem ok_Quoted_whole (T : Tx K mg) : Fok P w K mg base 6 d_Quoted_whole ["self", "data"] [] (spWhole K) := by
  refine fok T.F_Quoted_whole sc_Quoted_whole (fun vs H Q E h => ?_) (fun _ _ _ _ _ _ us hl => match us, hl with | [_, _], _ => rfl) (fun cdv A outer s H vs Q E hr h => ?_)
  · obtain ⟨c, q, d, data, rfl, _⟩ := h; rfl
  · obtain ⟨c, q, d, data, rfl, W, hd, hl, hb, k⟩ := h
    obtain ⟨dx, fs, t, kl, h1, h2, h3, h4, h5, h6⟩ := id W
    refine ⟨_, (pss_cons (ps_par (i := 2) (j := 3) rfl sc_Quoted_whole.nd rfl rfl (by decide) rfl rfl (pa_cons (pe_lst pa_nil) (pa_cons (pe_mF0 (ok_Quoted_begin T) (hr.mono (by decide)) T.c_Quoted T.m_Quoted_begin (pv 0)) pa_nil)) (by rfl))
        (pss_cons (ps_for PassesOwn.never rfl (pi_list (pv 1)) (pg_name (i := 4) sc_Quoted_whole.nd rfl (Or.inl rfl)) (pss_cons (ps_asg (pe_mF (ok_Quoted_write T) (hr.mono (by decide)) T.c_Quoted T.m_Quoted_write (pv 0) (pa_cons (pv 3) (pa_cons (pv 4) pa_nil))) (pg_tup rfl (pgs_cons (pg_name (i := 5) sc_Quoted_whole.nd rfl (Or.inl rfl)) (pgs_cons (pg_name (i := 3) sc_Quoted_whole.nd rfl (Or.inl rfl)) pgs_nil))))
        (pss_one (ps_expr (pe_bm PySem.F.plainAttrs_list PySem.F.slot_list_append PySem.F.type_list_append mt_append (pv 2) (pa_cons (pv 5) pa_nil))))))
        (pss_one (ps_ret (pe_op op_add_str (pe_join pe_str (pv 2)) (pe_mF (ok_Quoted_close T) (hr.mono (by decide)) T.c_Quoted T.m_Quoted_close (pv 0) (pa_cons (pv 3) pa_nil))))))), ?_⟩
    simp [tPar, tPar3, -List.lookup_eq_none_iff, sizeLine_eq, tSl, tPart, tNoPart, rSlS, cut_lo, cut_hi, gc_cons, gn_nil, tJs, tFmt8, S_empty, tTup, tNever, tNext, tM1, tM0, tRet, tRetN, tAndV, tOrV, tNotV, tCall, tMeth, tProp, tVar, tC, tCons, tNil, L2.start, tChain, tTest, rI, rI0, tOp, tUn, tSeq, tIfS, tAnd, tOr, tNot, tB, tIf, tAsg, gName, tDrop, tCB, tFld, rEq, rNe, scal, rIsi_int, rIsi_bl, rIsi_str, rIsi_non, kit_ii, kit_ib, kit_is, kit_bi, kit_bb, kit_bs, kit_si, kit_sb, kit_ss, kit_ni, kit_nb, kit_ns, S_inj, S_app, S_len, S_list, S_one, lit_no, lit_sp, lit_nl, lit_eq, cx_K, ex2, ex3, ex2b, rd_spN, rd_spC, rd_spI, rd_spIII, rd_spS, kNL, kBL, kES, kSB, h1, h4.begin, tLst]
    intro p hp
    have s0 : Same H (upd H p (.lst [])) := same_upd hp
    refine ⟨dx, fs, s0 _ _ h1, h4.begin, c, rfl, fun st H1 s1 e1 => ?_⟩
    dsimp only
    have p1 : H1 p = some (.lst []) := s1 _ _ upd_same
    refine ⟨_, rfl, d, rfl, ⟨_, ((s0.trans s1).seq hd)⟩, for_list (K := K) (a := d) (xs := data.map vi)
      (fun i σ H' => ∃ (st : Addr) (vb vp : Option V), σ = [some (.ref c), some (.ref d), some (.ref p), some (.ref st), vb, vp] ∧ Same H H' ∧ H' p = some (.lst ((accW q (data.take i)).1.map Pt.vs)) ∧
        StAt H' st (accW q (data.take i)).2.1 (accW q (data.take i)).2.2)
      ⟨st, none, none, rfl, s0.trans s1, p1, e1⟩ (fun i σ H' _ ⟨_, _, _, _, s2, _⟩ => s2.seq hd) ?_ ?_⟩
    · rintro i x σ H2 hi ⟨st, vb, vp, rfl, s2, p2, e2⟩
      rw [List.getElem?_map] at hi
      obtain ⟨n, hn, rfl⟩ := Option.map_eq_some_iff.mp hi
      have hnb := hb n (List.mem_of_getElem? hn)
      have A := accW_succ (q := q) hn
      have L := accW_len q (data.take i)
      simp [tPar, tPar3, -List.lookup_eq_none_iff, sizeLine_eq, tSl, tPart, tNoPart, rSlS, cut_lo, cut_hi, gc_cons, gn_nil, tJs, tFmt8, S_empty, tTup, tNever, tNext, tM1, tM0, tRet, tRetN, tAndV, tOrV, tNotV, tCall, tMeth, tProp, tVar, tC, tCons, tNil, L2.start, tChain, tTest, rI, rI0, tOp, tUn, tSeq, tIfS, tAnd, tOr, tNot, tB, tIf, tAsg, gName, tDrop, tCB, tFld, rEq, rNe, scal, rIsi_int, rIsi_bl, rIsi_str, rIsi_non, kit_ii, kit_ib, kit_is, kit_bi, kit_bb, kit_bs, kit_si, kit_sb, kit_ss, kit_ni, kit_nb, kit_ns, S_inj, S_app, S_len, S_list, S_one, lit_no, lit_sp, lit_nl, lit_eq, cx_K, ex2, ex3, ex2b, rd_spN, rd_spC, rd_spI, rd_spIII, rd_spS, kNL, kBL, kES, kSB, s2 _ _ h1, h4.write]
      refine ⟨c, q, st, _, _, n, rfl, W.same s2, e2, L.1, hnb, fun p3 t3 H3 s3 e3 e4 => gTup_at e3 rfl ?_⟩
      simp [tPar, tPar3, -List.lookup_eq_none_iff, sizeLine_eq, tSl, tPart, tNoPart, rSlS, cut_lo, cut_hi, gc_cons, gn_nil, tJs, tFmt8, S_empty, tTup, tNever, tNext, tM1, tM0, tRet, tRetN, tAndV, tOrV, tNotV, tCall, tMeth, tProp, tVar, tC, tCons, tNil, L2.start, tChain, tTest, rI, rI0, tOp, tUn, tSeq, tIfS, tAnd, tOr, tNot, tB, tIf, tAsg, gName, tDrop, tCB, tFld, rEq, rNe, scal, rIsi_int, rIsi_bl, rIsi_str, rIsi_non, kit_ii, kit_ib, kit_is, kit_bi, kit_bb, kit_bs, kit_si, kit_sb, kit_ss, kit_ni, kit_nb, kit_ns, S_inj, S_app, S_len, S_list, S_one, lit_no, lit_sp, lit_nl, lit_eq, cx_K, ex2, ex3, ex2b, rd_spN, rd_spC, rd_spI, rd_spIII, rd_spS, kNL, kBL, kES, kSB, tBM]
      refine append_at (s3 _ _ p2) ?_ ?_
      · have := (List.getElem?_eq_some_iff.mp hn).1
        rw [List.length_map, L.2.1, List.length_take]; omega
      · refine ⟨same_put hp (s2.trans s3), ?_, ?_⟩
        · rw [upd_same, A]; simp [stepW]
        · rw [A]
          exact (upd_ne (fun z => by subst z; rw [s3 _ _ p2] at e4; cases e4)).trans e4
    · rintro σ H2 ⟨st, vb, vp, rfl, s2, p2, e2⟩
      rw [List.length_map, List.take_length] at p2 e2
      have L := accW_len q data
      have hz := sum_le 10 _ L.2.2
      have hz2 := ending_len (q := q) (c := (accW q data).2.1) L.1
      simp [tPar, tPar3, -List.lookup_eq_none_iff, sizeLine_eq, tSl, tPart, tNoPart, rSlS, cut_lo, cut_hi, gc_cons, gn_nil, tJs, tFmt8, S_empty, tTup, tNever, tNext, tM1, tM0, tRet, tRetN, tAndV, tOrV, tNotV, tCall, tMeth, tProp, tVar, tC, tCons, tNil, L2.start, tChain, tTest, rI, rI0, tOp, tUn, tSeq, tIfS, tAnd, tOr, tNot, tB, tIf, tAsg, gName, tDrop, tCB, tFld, rEq, rNe, scal, rIsi_int, rIsi_bl, rIsi_str, rIsi_non, kit_ii, kit_ib, kit_is, kit_bi, kit_bb, kit_bs, kit_si, kit_sb, kit_ss, kit_ni, kit_nb, kit_ns, S_inj, S_app, S_len, S_list, S_one, lit_no, lit_sp, lit_nl, lit_eq, cx_K, ex2, ex3, ex2b, rd_spN, rd_spC, rd_spI, rd_spIII, rd_spS, kNL, kBL, kES, kSB, s2 _ _ h1, h4.close]
      have fl : (accW q data).1.flatten.length ≤ 10 * (accW q data).1.length := by
        rw [List.length_flatten]
        refine Nat.le_trans (Nat.le_of_eq ?_) hz
        rw [List.map_map]
        exact congrArg List.sum (List.map_congr_left fun x _ => (S_len x).symm)
      refine ⟨(accW q data).1.map S, .inl (SqL.of (by rw [p2, List.map_map]; rfl)), by omega, c, q, st, _, _, rfl, W.wy.same s2, e2, L.1, S (ending q (accW q data).2.1 (accW q data).2.2), rfl, ?_, ?_⟩
      · rw [join_S, S_len, S_len]; omega
      · rw [join_S, S_app]
        exact k H2 s2
/-- a list of bytes, read and made anew -/
def spData (K : Fg) : Sp := fun us H Q _ => ∃ (d : Addr) (data : List Nat), us = [.ref d] ∧ H d = some (.lst (data.map vi)) ∧ data.length ≤ 600 ∧ (∀ n ∈ data, n < 256) ∧ NewL H (data.map vi) Q
theorem sc_data_of : FnScope ["value", "index", "byte"] ["value"] (defScope s_data_of) := ⟨rfl, rfl, rfl, by decide +kernel, rfl, by decide +kernel, by decide +kernel⟩
theorem ok_data_of (T : Tx K mg) : Fok P w K mg base 4 d_data_of ["value"] [] (spData K) := by
  refine fok T.F_data_of sc_data_of (fun vs H Q E h => ?_) (fun _ _ _ _ _ _ us hl => match us, hl with | [_], _ => rfl) (fun cdv A outer s H vs Q E hr h => ?_)
  · obtain ⟨d, data, rfl, _⟩ := h; rfl
  · obtain ⟨d, data, rfl, hd, hl, hb, k⟩ := h
    have hu := hu_of hr
    refine ⟨_, (pss_cons (ps_if ((pw_or (pt_not (pt_val (pe_callB call_isiT (by rfl) T.n_isinstance (by decide +kernel) (pa_cons (pv 0) (pa_cons (pe_tup (pa_cons (pe_tyN (n := "list") T.n_list (by decide +kernel)) (pa_cons (pe_tyN (n := "tuple") T.n_tuple (by decide +kernel)) pa_nil))) pa_nil))))) (pw_or1 (pt_cmpR op_gt (pe_callB call_len_seq (by rfl) T.n_len PySem.boot_len (pa_cons (pv 0) pa_nil)) (pe_gI T.i_MOST_BYTES) (nomark _))))).pt (pss_one ps_never) pss_nil)
        (pss_cons (ps_for PassesOwn.never rfl (pi_enum (by rfl) T.n_enumerate (pa_cons (pv 0) pa_nil)) (pg_tup rfl (pgs_cons (pg_name (i := 1) sc_data_of.nd rfl (Or.inl rfl)) (pgs_cons (pg_name (i := 2) sc_data_of.nd rfl (Or.inl rfl)) pgs_nil))) (pss_one (ps_if (pt_not (pt_val (pe_cF (ok_is_byte T) (hr.mono (by decide)) T.g_is_byte (pa_cons (pv 2) pa_nil)))) (pss_one ps_never) pss_nil)))
        (pss_one (ps_ret (pe_callTy call_list_of (by rfl) T.n_list (by decide +kernel) (pa_cons (pv 0) pa_nil)))))), ?_⟩
    simp [tPar, tPar3, -List.lookup_eq_none_iff, sizeLine_eq, tSl, tPart, tNoPart, rSlS, cut_lo, cut_hi, gc_cons, gn_nil, tJs, tFmt8, S_empty, tTup, tNever, tNext, tM1, tM0, tRet, tRetN, tAndV, tOrV, tNotV, tCall, tMeth, tProp, tVar, tC, tCons, tNil, L2.start, tChain, tTest, rI, rI0, tOp, tUn, tSeq, tIfS, tAnd, tOr, tNot, tB, tIf, tAsg, gName, tDrop, tCB, tFld, rEq, rNe, scal, rIsi_int, rIsi_bl, rIsi_str, rIsi_non, kit_ii, kit_ib, kit_is, kit_bi, kit_bb, kit_bs, kit_si, kit_sb, kit_ss, kit_ni, kit_nb, kit_ns, S_inj, S_app, S_len, S_list, S_one, lit_no, lit_sp, lit_nl, lit_eq, cx_K, ex2, ex3, ex2b, rd_spN, rd_spC, rd_spI, rd_spIII, rd_spS, kNL, kBL, kES, kSB, tLst]
    intro p hp
    have s0 : Same H _ := same_upd hp (o := .tup [.ty "list", .ty "tuple"])
    refine isiT_list hd hp ⟨rfl, _, .inl (SqL.of (s0 _ _ hd)), by simp; omega, ?_⟩
    refine ⟨_, rfl, d, _, rfl, SqL.of (s0 _ _ hd), for_enum (K := K) (a := d) (xs := data.map vi) (fun i σ H' => ∃ va vb, σ = [some (.ref d), va, vb] ∧ Same H H')
      ⟨none, none, rfl, s0⟩ (fun i σ H' ⟨_, _, _, s⟩ => SqL.of (s _ _ hd)) ?_ ?_⟩
    · rintro i σ H2 x t hi ⟨va, vb, rfl, s2⟩ ht
      rw [List.getElem?_map] at hi
      obtain ⟨n, hn, rfl⟩ := Option.map_eq_some_iff.mp hi
      have hnb := hb n (List.mem_of_getElem? hn)
      have e1 : (0 : Int) ≤ n := by omega
      have e2 : (n : Int) ≤ 255 := by omega
      refine gTup_at upd_same rfl ?_
      simp [tPar, tPar3, -List.lookup_eq_none_iff, sizeLine_eq, tSl, tPart, tNoPart, rSlS, cut_lo, cut_hi, gc_cons, gn_nil, tJs, tFmt8, S_empty, tTup, tNever, tNext, tM1, tM0, tRet, tRetN, tAndV, tOrV, tNotV, tCall, tMeth, tProp, tVar, tC, tCons, tNil, L2.start, tChain, tTest, rI, rI0, tOp, tUn, tSeq, tIfS, tAnd, tOr, tNot, tB, tIf, tAsg, gName, tDrop, tCB, tFld, rEq, rNe, scal, rIsi_int, rIsi_bl, rIsi_str, rIsi_non, kit_ii, kit_ib, kit_is, kit_bi, kit_bb, kit_bs, kit_si, kit_sb, kit_ss, kit_ni, kit_nb, kit_ns, S_inj, S_app, S_len, S_list, S_one, lit_no, lit_sp, lit_nl, lit_eq, cx_K, ex2, ex3, ex2b, rd_spN, rd_spC, rd_spI, rd_spIII, rd_spS, kNL, kBL, kES, kSB, e1, e2]
      exact s2.trans (same_upd ht)
    · rintro σ H2 ⟨va, vb, rfl, s2⟩
      simp [tPar, tPar3, -List.lookup_eq_none_iff, sizeLine_eq, tSl, tPart, tNoPart, rSlS, cut_lo, cut_hi, gc_cons, gn_nil, tJs, tFmt8, S_empty, tTup, tNever, tNext, tM1, tM0, tRet, tRetN, tAndV, tOrV, tNotV, tCall, tMeth, tProp, tVar, tC, tCons, tNil, L2.start, tChain, tTest, rI, rI0, tOp, tUn, tSeq, tIfS, tAnd, tOr, tNot, tB, tIf, tAsg, gName, tDrop, tCB, tFld, rEq, rNe, scal, rIsi_int, rIsi_bl, rIsi_str, rIsi_non, kit_ii, kit_ib, kit_is, kit_bi, kit_bb, kit_bs, kit_si, kit_sb, kit_ss, kit_ni, kit_nb, kit_ns, S_inj, S_app, S_len, S_list, S_one, lit_no, lit_sp, lit_nl, lit_eq, cx_K, ex2, ex3, ex2b, rd_spN, rd_spC, rd_spI, rd_spIII, rd_spS, kNL, kBL, kES, kSB]
      exact ⟨_, .inl (SqL.of (s2 _ _ hd)), fun l hl => k l _ (s2.trans (same_upd hl)) upd_same⟩
theorem sc_plain_text : FnScope ["code", "data"] ["code", "data"] (defScope s_plain_text) := ⟨rfl, rfl, rfl, by decide +kernel, rfl, by decide +kernel, by decide +kernel⟩
theorem ok_plain_text (T : Tx K mg) : Fok P w K mg base 7 d_plain_text ["code", "data"] [] (spWhole K) := by
  refine fok T.F_plain_text sc_plain_text (fun vs H Q E h => ?_) (fun _ _ _ _ _ _ us hl => match us, hl with | [_, _], _ => rfl) (fun cdv A outer s H vs Q E hr h => ?_)
  · obtain ⟨c, q, d, data, rfl, _⟩ := h; rfl
  · obtain ⟨c, q, d, data, rfl, W, hd, hl, hb, k⟩ := h
    obtain ⟨dx, fs, t, kl, h1, h2, h3, h4, h5, h6⟩ := id W
    refine ⟨_, (pss_one (ps_ret (pe_mF (ok_Quoted_whole T) (hr.mono (by decide)) T.c_Quoted T.m_Quoted_whole (pv 0) (pa_cons (pv 1) pa_nil)))), ?_⟩
    simp [tPar, tPar3, -List.lookup_eq_none_iff, sizeLine_eq, tSl, tPart, tNoPart, rSlS, cut_lo, cut_hi, gc_cons, gn_nil, tJs, tFmt8, S_empty, tTup, tNever, tNext, tM1, tM0, tRet, tRetN, tAndV, tOrV, tNotV, tCall, tMeth, tProp, tVar, tC, tCons, tNil, L2.start, tChain, tTest, rI, rI0, tOp, tUn, tSeq, tIfS, tAnd, tOr, tNot, tB, tIf, tAsg, gName, tDrop, tCB, tFld, rEq, rNe, scal, rIsi_int, rIsi_bl, rIsi_str, rIsi_non, kit_ii, kit_ib, kit_is, kit_bi, kit_bb, kit_bs, kit_si, kit_sb, kit_ss, kit_ni, kit_nb, kit_ns, S_inj, S_app, S_len, S_list, S_one, lit_no, lit_sp, lit_nl, lit_eq, cx_K, ex2, ex3, ex2b, rd_spN, rd_spC, rd_spI, rd_spIII, rd_spS, kNL, kBL, kES, kSB, h1, h4.whole]
    exact ⟨c, q, d, data, rfl, W, hd, hl, hb, k⟩
def spText (K : Fg) : Sp := fun us H Q _ => ∃ (c : Addr) (q : QC) (d : Addr) (data : List Nat), us = [.ref c, .ref d] ∧ Qo K H c q ∧ H d = some (.lst (data.map vi)) ∧ data.length ≤ 600 ∧ (∀ n ∈ data, n < 256) ∧ Val H (Pt.vs (wholeQ q data)) Q
theorem sc_text_of : FnScope ["code", "data"] ["code", "data"] (defScope s_text_of) := ⟨rfl, rfl, rfl, by decide +kernel, rfl, by decide +kernel, by decide +kernel⟩
theorem ok_text_of (T : Tx K mg) : Fok P w K mg base 8 d_text_of ["code", "data"] [] (spText K) := by
  refine fok T.F_text_of sc_text_of (fun vs H Q E h => ?_) (fun _ _ _ _ _ _ us hl => match us, hl with | [_, _], _ => rfl) (fun cdv A outer s H vs Q E hr h => ?_)
  · obtain ⟨c, q, d, data, rfl, _⟩ := h; rfl
  · obtain ⟨c, q, d, data, rfl, W, hd, hl, hb, k⟩ := h
    refine ⟨_, (pss_one (ps_ret (pe_cF (ok_plain_text T) (hr.mono (by decide)) T.g_plain_text (pa_cons (pv 0) (pa_cons (pe_cF (ok_data_of T) (hr.mono (by decide)) T.g_data_of (pa_cons (pv 1) pa_nil)) pa_nil))))), ?_⟩
    simp [tPar, tPar3, -List.lookup_eq_none_iff, sizeLine_eq, tSl, tPart, tNoPart, rSlS, cut_lo, cut_hi, gc_cons, gn_nil, tJs, tFmt8, S_empty, tTup, tNever, tNext, tM1, tM0, tRet, tRetN, tAndV, tOrV, tNotV, tCall, tMeth, tProp, tVar, tC, tCons, tNil, L2.start, tChain, tTest, rI, rI0, tOp, tUn, tSeq, tIfS, tAnd, tOr, tNot, tB, tIf, tAsg, gName, tDrop, tCB, tFld, rEq, rNe, scal, rIsi_int, rIsi_bl, rIsi_str, rIsi_non, kit_ii, kit_ib, kit_is, kit_bi, kit_bb, kit_bs, kit_si, kit_sb, kit_ss, kit_ni, kit_nb, kit_ns, S_inj, S_app, S_len, S_list, S_one, lit_no, lit_sp, lit_nl, lit_eq, cx_K, ex2, ex3, ex2b, rd_spN, rd_spC, rd_spI, rd_spIII, rd_spS, kNL, kBL, kES, kSB]
    refine ⟨d, data, rfl, hd, hl, hb, fun p H1 s1 e1 => ?_⟩
    exact ⟨c, q, p, data, rfl, W.same s1, SqL.of e1, by omega, hb, fun H2 s2 => k H2 (s1.trans s2)⟩
end
end K45
end
section
namespace K45
open PySem PySem.Spec PyProof.Rows L2 Pt
/-- rules, as a quoted code reads them -/
structure RC where
  lines : Bool
  loose : Bool
  fold : Bool
abbrev CR (K : Fg) : Addr := He.ga K "Rules"
def Ro (K : Fg) (H : Hp) (r : Addr) (u : RC) : Prop := ∃ dx fs d kvs, H r = some (.ins (CR K) dx fs) ∧ fs.lookup ("options" : Str) = some (.ref d) ∧ fs.lookup ("suit" : Str) = none ∧ H d = some (.dK kvs) ∧
  valV kvs (Sum.inr ("skip" : Str)) = some (Pt.vs []) ∧ valV kvs (Sum.inr ("lines" : Str)) = some (.bl u.lines) ∧ valV kvs (Sum.inr ("loose" : Str)) = some (.bl u.loose) ∧ valV kvs (Sum.inr ("fold" : Str)) = some (.bl u.fold)
theorem Ro.same {K : Fg} {H H' : Hp} {r : Addr} {u : RC} (h : Ro K H r u) (s : Same H H') : Ro K H' r u := by
  obtain ⟨dx, fs, d, kvs, h1, h2, h3, h4, h5⟩ := h
  exact ⟨dx, fs, d, kvs, s _ _ h1, h2, h3, s _ _ h4, h5⟩
theorem Ro.inj {K : Fg} {H : Hp} {r : Addr} {u u' : RC} (h : Ro K H r u) (h' : Ro K H r u') : u = u' := by
  obtain ⟨dx, fs, d, kvs, h1, h2, h3, h4, h5, h6, h7, h8⟩ := h
  obtain ⟨dx', fs', d', kvs', h1', h2', h3', h4', h5', h6', h7', h8'⟩ := h'
  rw [h1] at h1'
  obtain ⟨_, _, rfl⟩ : CR K = CR K ∧ dx = dx' ∧ fs = fs' := by simpa using h1'
  rw [h2] at h2'
  cases h2'
  rw [h4] at h4'
  cases h4'
  rw [h6] at h6'; rw [h7] at h7'; rw [h8] at h8'
  obtain ⟨a, b, c⟩ := u
  obtain ⟨a', b', c'⟩ := u'
  simp at h6' h7' h8'
  obtain ⟨rfl, rfl, rfl⟩ := And.intro h6' (And.intro h7' h8')
  rfl
def spR (K : Fg) (f : RC → V) : Sp := fun us H Q _ => ∃ r u, us = [.ref r] ∧ Ro K H r u ∧ Q (f u) H
theorem rd_spR {K : Fg} {H : Hp} {r : Addr} {u : RC} {Q : VK} {E : XK} {f : RC → V} (W : Ro K H r u) : spR K f [.ref r] H Q E = Q (f u) H := by
  refine propext ⟨?_, fun h => ⟨_, _, rfl, W, h⟩⟩
  rintro ⟨c', q', e, W', h⟩
  cases e
  rw [W.inj W']; exact h
section
variable {P : Program} {w : World} {K : Fg} {mg : Str → Option Value} {base : Heap}
theorem sc_Rules_skip : FnScope ["self"] ["self"] (defScope s_Rules_skip) := ⟨rfl, rfl, rfl, by decide +kernel, rfl, by decide +kernel, by decide +kernel⟩
theorem ok_Rules_skip (T : Tx K mg) : Fok P w K mg base 1 d_Rules_skip ["self"] [] (spR K fun u => Pt.vs []) := by
  refine fok T.F_Rules_skip sc_Rules_skip (fun vs H Q E h => ?_) (fun _ _ _ _ _ _ us hl => match us, hl with | [_], _ => rfl) (fun cdv A outer s H vs Q E hr h => ?_)
  · obtain ⟨c, q, rfl, _⟩ := h; rfl
  · obtain ⟨c, q, rfl, ⟨dx, fs, d, kvs, h1, h2, h3, h4, h5, h6, h7, h8⟩, k⟩ := h
    have hu := hu_of hr
    refine ⟨_, (pss_one (ps_ret (pe_dget hu (pe_fld (pv 0) rfl) pe_str (fun _ _ => rfl)))), ?_⟩
    exact ⟨_, rfl, c, _, dx, fs, _, rfl, h1, T.c_Rules, T.a_Rules_options, h2, d, _, rfl, dget_at h4 h5, k⟩
theorem sc_Rules_lines : FnScope ["self"] ["self"] (defScope s_Rules_lines) := ⟨rfl, rfl, rfl, by decide +kernel, rfl, by decide +kernel, by decide +kernel⟩
theorem ok_Rules_lines (T : Tx K mg) : Fok P w K mg base 1 d_Rules_lines ["self"] [] (spR K fun u => .bl u.lines) := by
  refine fok T.F_Rules_lines sc_Rules_lines (fun vs H Q E h => ?_) (fun _ _ _ _ _ _ us hl => match us, hl with | [_], _ => rfl) (fun cdv A outer s H vs Q E hr h => ?_)
  · obtain ⟨c, q, rfl, _⟩ := h; rfl
  · obtain ⟨c, q, rfl, ⟨dx, fs, d, kvs, h1, h2, h3, h4, h5, h6, h7, h8⟩, k⟩ := h
    have hu := hu_of hr
    refine ⟨_, (pss_one (ps_ret (pe_dget hu (pe_fld (pv 0) rfl) pe_str (fun _ _ => rfl)))), ?_⟩
    exact ⟨_, rfl, c, _, dx, fs, _, rfl, h1, T.c_Rules, T.a_Rules_options, h2, d, _, rfl, dget_at h4 h6, k⟩
theorem sc_Rules_loose : FnScope ["self"] ["self"] (defScope s_Rules_loose) := ⟨rfl, rfl, rfl, by decide +kernel, rfl, by decide +kernel, by decide +kernel⟩
theorem ok_Rules_loose (T : Tx K mg) : Fok P w K mg base 1 d_Rules_loose ["self"] [] (spR K fun u => .bl u.loose) := by
  refine fok T.F_Rules_loose sc_Rules_loose (fun vs H Q E h => ?_) (fun _ _ _ _ _ _ us hl => match us, hl with | [_], _ => rfl) (fun cdv A outer s H vs Q E hr h => ?_)
  · obtain ⟨c, q, rfl, _⟩ := h; rfl
  · obtain ⟨c, q, rfl, ⟨dx, fs, d, kvs, h1, h2, h3, h4, h5, h6, h7, h8⟩, k⟩ := h
    have hu := hu_of hr
    refine ⟨_, (pss_one (ps_ret (pe_dget hu (pe_fld (pv 0) rfl) pe_str (fun _ _ => rfl)))), ?_⟩
    exact ⟨_, rfl, c, _, dx, fs, _, rfl, h1, T.c_Rules, T.a_Rules_options, h2, d, _, rfl, dget_at h4 h7, k⟩
theorem sc_Rules_fold : FnScope ["self"] ["self"] (defScope s_Rules_fold) := ⟨rfl, rfl, rfl, by decide +kernel, rfl, by decide +kernel, by decide +kernel⟩
theorem ok_Rules_fold (T : Tx K mg) : Fok P w K mg base 1 d_Rules_fold ["self"] [] (spR K fun u => .bl u.fold) := by
  refine fok T.F_Rules_fold sc_Rules_fold (fun vs H Q E h => ?_) (fun _ _ _ _ _ _ us hl => match us, hl with | [_], _ => rfl) (fun cdv A outer s H vs Q E hr h => ?_)
  · obtain ⟨c, q, rfl, _⟩ := h; rfl
  · obtain ⟨c, q, rfl, ⟨dx, fs, d, kvs, h1, h2, h3, h4, h5, h6, h7, h8⟩, k⟩ := h
    have hu := hu_of hr
    refine ⟨_, (pss_one (ps_ret (pe_dget hu (pe_fld (pv 0) rfl) pe_str (fun _ _ => rfl)))), ?_⟩
    exact ⟨_, rfl, c, _, dx, fs, _, rfl, h1, T.c_Rules, T.a_Rules_options, h2, d, _, rfl, dget_at h4 h8, k⟩
/-! the reader's small parts -/
def hexDigit (u : RC) (c : Nat) : List Nat := if hxP c then [c] else if u.fold then (match other c with
  | [d] => if hxP d then [d] else []
  | _ => []) else []
def spRC (K : Fg) (f : RC → Nat → V) : Sp := fun us H Q _ => ∃ r u c, us = [.ref r, Pt.vs [c]] ∧ Ro K H r u ∧ Q (f u c) H
theorem other_cases (c : Nat) : other c = [] ∨ ∃ d, other c = [d] := by
  unfold other
  split
  · exact .inr ⟨_, rfl⟩
  · split
    · exact .inr ⟨_, rfl⟩
    · exact .inl rfl
theorem sc_hex_digit : FnScope ["rules", "character", "folded"] ["rules", "character"] (defScope s_hex_digit) := ⟨rfl, rfl, rfl, by decide +kernel, rfl, by decide +kernel, by decide +kernel⟩
theorem ok_hex_digit (T : Tx K mg) : Fok P w K mg base 3 d_hex_digit ["rules", "character"] [] (spRC K fun u c => Pt.vs (hexDigit u c)) := by
  refine fok T.F_hex_digit sc_hex_digit (fun vs H Q E h => ?_) (fun _ _ _ _ _ _ us hl => match us, hl with | [_, _], _ => rfl) (fun cdv A outer s H vs Q E hr h => ?_)
  · obtain ⟨r, u, c, rfl, _⟩ := h; rfl
  · obtain ⟨r, u, c, rfl, W, k⟩ := h
    obtain ⟨dx, fs, d, kvs, h1, h2, h3, h4, h5⟩ := id W
    dsimp only at k
    refine ⟨_, (pss_cons (ps_if (pt_cmpR op_in_sign (pv 1) (pe_gS T.s_HEX_DIGITS) (by with_unfolding_all rfl)) (pss_one (ps_ret (pv 1))) pss_nil)
        (pss_cons (ps_set (i := 2) sc_hex_digit.nd rfl (Or.inl rfl) (pe_ifExp (pt_val (pe_pF (ok_Rules_fold T) (hr.mono (by decide)) T.c_Rules T.p_Rules_fold (pv 0))) (pe_cF (ok_other_case T) (hr.mono (by decide)) T.g_other_case (pa_cons (pv 1) pa_nil)) pe_str))
        (pss_one (ps_ret (pe_ifExp ((pw_and (pt_cmpR op_ne (pv 2) pe_str (nomark _)) (pw_and1 (pt_cmpR op_in_sign (pv 2) (pe_gS T.s_HEX_DIGITS) (by with_unfolding_all rfl))))).pt (pv 2) pe_str))))), ?_⟩
    simp [tPar, tPar3, -List.lookup_eq_none_iff, sizeLine_eq, tSl, tPart, tNoPart, rSlS, cut_lo, cut_hi, gc_cons, gn_nil, tJs, tFmt8, S_empty, tTup, tNever, tNext, tM1, tM0, tRet, tRetN, tAndV, tOrV, tNotV, tCall, tMeth, tProp, tVar, tC, tCons, tNil, L2.start, tChain, tTest, rI, rI0, tOp, tUn, tSeq, tIfS, tAnd, tOr, tNot, tB, tIf, tAsg, gName, tDrop, tCB, tFld, rEq, rNe, scal, rIsi_int, rIsi_bl, rIsi_str, rIsi_non, kit_ii, kit_ib, kit_is, kit_bi, kit_bb, kit_bs, kit_si, kit_sb, kit_ss, kit_ni, kit_nb, kit_ns, S_inj, S_app, S_len, S_list, S_one, lit_no, lit_sp, lit_nl, lit_eq, cx_K, ex2, ex3, ex2b, rd_spN, rd_spC, rd_spI, rd_spIII, rd_spS, kNL, kBL, kES, kSB, h1, rd_spR W, mem_HEX]
    unfold hexDigit at k
    by_cases hc : hxP c = true
    · rw [if_pos hc] at k ⊢
      exact k
    · rw [if_neg hc] at k ⊢
      cases hf : u.fold with
      | false => rw [hf] at k; simpa using k
      | true =>
        rw [hf] at k
        rcases other_cases c with e | ⟨d, e⟩
        · rw [e] at k; simpa [e] using k
        · rw [e] at k
          by_cases hd : hxP d = true
          · simpa [e, hd] using k
          · simpa [e, hd] using k
def roomQ (q : QC) (u : RC) (c n : Int) : Bool := !u.lines || fits q c n
def nextQ (q : QC) (u : RC) (c : Int) : Int := if u.lines then colb q c 1 else 0
def spQRII (K : Fg) (f : QC → RC → Int → Int → V) : Sp := fun us H Q _ => ∃ c q r u i j, us = [.ref c, .ref r, .int i, .int j] ∧ Wy K H c q ∧ Ro K H r u ∧ Q (f q u i j) H
def spQRI (K : Fg) (f : QC → RC → Int → V) : Sp := fun us H Q _ => ∃ c q r u i, us = [.ref c, .ref r, .int i] ∧ Wy K H c q ∧ Ro K H r u ∧ Q (f q u i) H
theorem rd_spQRII {H : Hp} {c r : Addr} {q : QC} {u : RC} {Q : VK} {E : XK} {f : QC → RC → Int → Int → V} {i j : Int} (W : Wy K H c q) (U : Ro K H r u) : spQRII K f [.ref c, .ref r, .int i, .int j] H Q E = Q (f q u i j) H := by
  refine propext ⟨?_, fun h => ⟨_, _, _, _, _, _, rfl, W, U, h⟩⟩
  rintro ⟨c', q', r', u', i', j', e, W', U', h⟩
  cases e
  rw [W.inj W', U.inj U']; exact h
theorem rd_spQRI {H : Hp} {c r : Addr} {q : QC} {u : RC} {Q : VK} {E : XK} {f : QC → RC → Int → V} {i : Int} (W : Wy K H c q) (U : Ro K H r u) : spQRI K f [.ref c, .ref r, .int i] H Q E = Q (f q u i) H := by
  refine propext ⟨?_, fun h => ⟨_, _, _, _, _, rfl, W, U, h⟩⟩
  rintro ⟨c', q', r', u', i', e, W', U', h⟩
  cases e
  rw [W.inj W', U.inj U']; exact h
theorem rd_spRC {H : Hp} {r : Addr} {u : RC} {Q : VK} {E : XK} {f : RC → Nat → V} {ch : Nat} (U : Ro K H r u) : spRC K f [.ref r, .str (S [ch])] H Q E = Q (f u ch) H := by
  refine propext ⟨?_, fun h => ⟨_, _, _, rfl, U, h⟩⟩
  rintro ⟨r', u', c', e, U', h⟩
  simp [S_inj] at e
  obtain ⟨rfl, rfl⟩ := e
  rw [U.inj U']; exact h
theorem sc_Quoted_has_room : FnScope ["self", "rules", "column", "size"] ["self", "rules", "column", "size"] (defScope s_Quoted_has_room) := ⟨rfl, rfl, rfl, by decide +kernel, rfl, by decide +kernel, by decide +kernel⟩
theorem ok_Quoted_has_room (T : Tx K mg) : Fok P w K mg base 4 d_Quoted_has_room ["self", "rules", "column", "size"] [] (spQRII K fun q u i j => .bl (roomQ q u i j)) := by
  refine fok T.F_Quoted_has_room sc_Quoted_has_room (fun vs H Q E h => ?_) (fun _ _ _ _ _ _ us hl => match us, hl with | [_, _, _, _], _ => rfl) (fun cdv A outer s H vs Q E hr h => ?_)
  · obtain ⟨c, q, r, u, i, j, rfl, _⟩ := h; rfl
  · obtain ⟨c, q, r, u, i, j, rfl, W, U, k⟩ := h
    obtain ⟨dx, fs, t, h1, h2, h3, h4⟩ := id W
    obtain ⟨dx', fs', d, kvs, g1, g2, g3, g4, g5⟩ := id U
    dsimp only at k
    refine ⟨_, (pss_one (ps_ret (pe_or (pe_not (pe_pF (ok_Rules_lines T) (hr.mono (by decide)) T.c_Rules T.p_Rules_lines (pv 1))) (pe_one (pe_mF (ok_Quoted_fits T) (hr.mono (by decide)) T.c_Quoted T.m_Quoted_fits (pv 0) (pa_cons (pv 2) (pa_cons (pv 3) pa_nil))))))), ?_⟩
    simp [tPar, tPar3, -List.lookup_eq_none_iff, sizeLine_eq, tSl, tPart, tNoPart, rSlS, cut_lo, cut_hi, gc_cons, gn_nil, tJs, tFmt8, S_empty, tTup, tNever, tNext, tM1, tM0, tRet, tRetN, tAndV, tOrV, tNotV, tCall, tMeth, tProp, tVar, tC, tCons, tNil, L2.start, tChain, tTest, rI, rI0, tOp, tUn, tSeq, tIfS, tAnd, tOr, tNot, tB, tIf, tAsg, gName, tDrop, tCB, tFld, rEq, rNe, scal, rIsi_int, rIsi_bl, rIsi_str, rIsi_non, kit_ii, kit_ib, kit_is, kit_bi, kit_bb, kit_bs, kit_si, kit_sb, kit_ss, kit_ni, kit_nb, kit_ns, S_inj, S_app, S_len, S_list, S_one, lit_no, lit_sp, lit_nl, lit_eq, cx_K, ex2, ex3, ex2b, rd_spN, rd_spC, rd_spI, rd_spIII, rd_spS, kNL, kBL, kES, kSB, h1, g1, rd_spR U, rd_spQII W, h4.fits]
    unfold roomQ at k
    cases e : u.lines <;> rw [e] at k <;> simpa using k
theorem sc_Quoted_next_place : FnScope ["self", "rules", "column"] ["self", "rules", "column"] (defScope s_Quoted_next_place) := ⟨rfl, rfl, rfl, by decide +kernel, rfl, by decide +kernel, by decide +kernel⟩
theorem ok_Quoted_next_place (T : Tx K mg) : Fok P w K mg base 4 d_Quoted_next_place ["self", "rules", "column"] [] (spQRI K fun q u i => .int (nextQ q u i)) := by
  refine fok T.F_Quoted_next_place sc_Quoted_next_place (fun vs H Q E h => ?_) (fun _ _ _ _ _ _ us hl => match us, hl with | [_, _, _], _ => rfl) (fun cdv A outer s H vs Q E hr h => ?_)
  · obtain ⟨c, q, r, u, i, rfl, _⟩ := h; rfl
  · obtain ⟨c, q, r, u, i, rfl, W, U, k⟩ := h
    obtain ⟨dx, fs, t, h1, h2, h3, h4⟩ := id W
    obtain ⟨dx', fs', d, kvs, g1, g2, g3, g4, g5⟩ := id U
    dsimp only at k
    refine ⟨_, (pss_one (ps_ret (pe_ifExp (pt_val (pe_pF (ok_Rules_lines T) (hr.mono (by decide)) T.c_Rules T.p_Rules_lines (pv 1))) (pe_mF (ok_Quoted_column_behind T) (hr.mono (by decide)) T.c_Quoted T.m_Quoted_column_behind (pv 0) (pa_cons (pv 2) (pa_cons pe_int pa_nil))) pe_int))), ?_⟩
    simp [tPar, tPar3, -List.lookup_eq_none_iff, sizeLine_eq, tSl, tPart, tNoPart, rSlS, cut_lo, cut_hi, gc_cons, gn_nil, tJs, tFmt8, S_empty, tTup, tNever, tNext, tM1, tM0, tRet, tRetN, tAndV, tOrV, tNotV, tCall, tMeth, tProp, tVar, tC, tCons, tNil, L2.start, tChain, tTest, rI, rI0, tOp, tUn, tSeq, tIfS, tAnd, tOr, tNot, tB, tIf, tAsg, gName, tDrop, tCB, tFld, rEq, rNe, scal, rIsi_int, rIsi_bl, rIsi_str, rIsi_non, kit_ii, kit_ib, kit_is, kit_bi, kit_bb, kit_bs, kit_si, kit_sb, kit_ss, kit_ni, kit_nb, kit_ns, S_inj, S_app, S_len, S_list, S_one, lit_no, lit_sp, lit_nl, lit_eq, cx_K, ex2, ex3, ex2b, rd_spN, rd_spC, rd_spI, rd_spIII, rd_spS, kNL, kBL, kES, kSB, h1, g1, rd_spR U, rd_spQII W, h4.column_behind]
    unfold nextQ at k
    cases e : u.lines <;> rw [e] at k <;> simpa using k
end
end K45
end
section
namespace K45
open PySem PySem.Spec PyProof.Rows L2 Pt
theorem SX_S (l : List Nat) : SX.S l = S l := rfl
abbrev TkR := Option (List Nat × Int × List Nat)
/-- None, or ([bytes], (column, begun)) -/
def NewTk (H : Hp) (r : TkR) (Q : VK) : Prop := match r with
  | none => ∀ H', Same H H' → Q .non H'
  | some z => ∀ p l t H', Same H H' → H' p = some (.tup [.ref l, .ref t]) → H' l = some (.lst (z.1.map vi)) → H' t = some (.tup [.int z.2.1, Pt.vs z.2.2]) → Q (.ref p) H'
theorem NewTk.of {H : Hp} {m : List Nat} {c : Int} {b : List Nat} {Q : VK} (k : NewTk H (some (m, c, b)) Q) {l t p : Addr} (hl : H l = none) (ht : upd H l (.lst (m.map vi)) t = none) (hp : upd (upd H l (.lst (m.map vi))) t (.tup [.int c, Pt.vs b]) p = none) :
    Q (.ref p) (upd (upd (upd H l (.lst (m.map vi))) t (.tup [.int c, Pt.vs b])) p (.tup [.ref l, .ref t])) := by
  have e1 : (upd (upd H l (.lst (m.map vi))) t (.tup [.int c, Pt.vs b])) l = some (.lst (m.map vi)) := by rw [upd_ne (ne_of_none upd_same ht)]; exact upd_same
  refine k p l t _ (((same_upd hl).trans (same_upd ht)).trans (same_upd hp)) upd_same ?_ ?_
  · rw [upd_ne (ne_of_none e1 hp)]; exact e1
  · rw [upd_ne (ne_of_none upd_same hp)]; exact upd_same
theorem NewTk.no {H : Hp} {Q : VK} (k : NewTk H none Q) : Q .non H := k H (Same.refl H)
def takeD (q : QC) (u : RC) (c : Int) (b : List Nat) (ch : Nat) : TkR :=
  if ch = 10 ∧ b = [61] then some ([], 0, if u.loose then [] else [61, 10])
  else if hexDigit u ch = [] then none
  else if b ≠ [61] then some ([Hx.hexNum (b.drop 1 ++ hexDigit u ch)], nextQ q u c, [])
  else if roomQ q u c 2 then some ([], nextQ q u c, 61 :: hexDigit u ch) else none
/-- what may be begun behind an escape -/
def Esc (b : List Nat) : Prop := b = [61] ∨ ∃ d, b = [61, d] ∧ hxP d = true
theorem hexDigit_cases (u : RC) (c : Nat) : hexDigit u c = [] ∨ ∃ d, hexDigit u c = [d] ∧ hxP d = true := by
  unfold hexDigit
  split
  · rename_i h; exact .inr ⟨c, rfl, h⟩
  · split
    · rcases other_cases c with e | ⟨d, e⟩
      · rw [e]; exact .inl rfl
      · rw [e]
        by_cases hd : hxP d = true
        · exact .inr ⟨d, by simp [hd], hd⟩
        · exact .inl (by simp [hd])
    · exact .inl rfl
theorem isHex_of {d : Nat} (h : hxP d = true) : Hx.IsHex d := by
  simp [hxP] at h
  unfold Hx.IsHex
  omega
section
variable {P : Program} {w : World} {K : Fg} {mg : Str → Option Value} {base : Heap}
def spTk (K : Fg) (f : QC → RC → Int → List Nat → Nat → TkR) (pre : List Nat → Prop) : Sp := fun us H Q _ => ∃ c q r u st i b ch, us = [.ref c, .ref r, .ref st, Pt.vs [ch]] ∧ Wy K H c q ∧ Ro K H r u ∧ StAt H st i b ∧ pre b ∧ NewTk H (f q u i b ch) Q
theorem sc_Quoted_take_digit : FnScope ["self", "rules", "state", "character", "column", "begun", "digit", "after"] ["self", "rules", "state", "character"] (defScope s_Quoted_take_digit) := ⟨rfl, rfl, rfl, by decide +kernel, rfl, by decide +kernel, by decide +kernel⟩
theorem ok_Quoted_take_digit (T : Tx K mg) : Fok P w K mg base 5 d_Quoted_take_digit ["self", "rules", "state", "character"] [] (spTk K takeD Esc) := by
  refine fok T.F_Quoted_take_digit sc_Quoted_take_digit (fun vs H Q E h => ?_) (fun _ _ _ _ _ _ us hl => match us, hl with | [_, _, _, _], _ => rfl) (fun cdv A outer s H vs Q E hr h => ?_)
  · obtain ⟨c, q, r, u, st, i, b, ch, rfl, _⟩ := h; rfl
  · obtain ⟨c, q, r, u, st, i, b, ch, rfl, W, U, hst, hb, k⟩ := h
    obtain ⟨dx, fs, t, h1, h2, h3, h4⟩ := id W
    obtain ⟨dx', fs', d, kvs, g1, g2, g3, g4, g5⟩ := id U
    refine ⟨_, (pss_cons (ps_asg (pv 2) (pg_tup rfl (pgs_cons (pg_name (i := 4) sc_Quoted_take_digit.nd rfl (Or.inl rfl)) (pgs_cons (pg_name (i := 5) sc_Quoted_take_digit.nd rfl (Or.inl rfl)) pgs_nil))))
        (pss_cons (ps_if ((pw_and (pt_cmpR op_eq (pv 3) (pe_gS T.s_NEWLINE) (nomark _)) (pw_and1 (pt_cmpR op_eq (pv 5) (pe_gS T.s_ESCAPE) (nomark _))))).pt (pss_one (ps_ret (pe_tup (pa_cons (pe_lst pa_nil) (pa_cons (pe_tup (pa_cons pe_int (pa_cons (pe_ifExp (pt_val (pe_pF (ok_Rules_loose T) (hr.mono (by decide)) T.c_Rules T.p_Rules_loose (pv 1))) pe_str (pe_gS T.s_SOFT_BREAK)) pa_nil))) pa_nil))))) pss_nil)
        (pss_cons (ps_set (i := 6) sc_Quoted_take_digit.nd rfl (Or.inl rfl) (pe_cF (ok_hex_digit T) (hr.mono (by decide)) T.g_hex_digit (pa_cons (pv 1) (pa_cons (pv 3) pa_nil))))
        (pss_cons (ps_if (pt_cmpR op_eq (pv 6) pe_str (nomark _)) (pss_one (ps_ret pe_non)) pss_nil)
        (pss_cons (ps_set (i := 7) sc_Quoted_take_digit.nd rfl (Or.inl rfl) (pe_mF (ok_Quoted_next_place T) (hr.mono (by decide)) T.c_Quoted T.m_Quoted_next_place (pv 0) (pa_cons (pv 1) (pa_cons (pv 4) pa_nil))))
        (pss_cons (ps_if (pt_cmpR op_ne (pv 5) (pe_gS T.s_ESCAPE) (nomark _)) (pss_one (ps_ret (pe_tup (pa_cons (pe_lst (pa_cons (pe_callTy call_int_hex (by rfl) T.n_int (by decide +kernel) (pa_cons (pe_op op_add_str (pe_slice sl_str (pv 5) (po_some pe_int) po_none) (pv 6)) (pa_cons pe_int pa_nil))) pa_nil)) (pa_cons (pe_tup (pa_cons (pv 7) (pa_cons pe_str pa_nil))) pa_nil))))) pss_nil)
        (pss_one (ps_ret (pe_ifExp (pt_val (pe_mF (ok_Quoted_has_room T) (hr.mono (by decide)) T.c_Quoted T.m_Quoted_has_room (pv 0) (pa_cons (pv 1) (pa_cons (pv 4) (pa_cons pe_int pa_nil))))) (pe_tup (pa_cons (pe_lst pa_nil) (pa_cons (pe_tup (pa_cons (pv 7) (pa_cons (pe_op op_add_str (pe_gS T.s_ESCAPE) (pv 6)) pa_nil))) pa_nil))) pe_non))))))))), ?_⟩
    refine ⟨_, rfl, gTup_at hst rfl ?_⟩
    have hbl : b.length ≤ 16777216 := by rcases hb with rfl | ⟨d, rfl, _⟩ <;> simp
    by_cases e1 : ch = 10 ∧ b = [61]
    · obtain ⟨rfl, rfl⟩ := e1
      have e : takeD q u i [61] 10 = some ([], 0, if u.loose then [] else [61, 10]) := by unfold takeD; rw [if_pos ⟨rfl, rfl⟩]
      rw [e] at k
      simp [tPar, tPar3, -List.lookup_eq_none_iff, sizeLine_eq, tSl, tPart, tNoPart, rSlS, cut_lo, cut_hi, gc_cons, gn_nil, tJs, tFmt8, S_empty, tTup, tNever, tNext, tM1, tM0, tRet, tRetN, tAndV, tOrV, tNotV, tCall, tMeth, tProp, tVar, tC, tCons, tNil, L2.start, tChain, tTest, rI, rI0, tOp, tUn, tSeq, tIfS, tAnd, tOr, tNot, tB, tIf, tAsg, gName, tDrop, tCB, tFld, rEq, rNe, scal, rIsi_int, rIsi_bl, rIsi_str, rIsi_non, kit_ii, kit_ib, kit_is, kit_bi, kit_bb, kit_bs, kit_si, kit_sb, kit_ss, kit_ni, kit_nb, kit_ns, S_inj, S_app, S_len, S_list, S_one, lit_no, lit_sp, lit_nl, lit_eq, cx_K, ex2, ex3, ex2b, rd_spN, rd_spC, rd_spI, rd_spIII, rd_spS, kNL, kBL, kES, kSB, h1, g1, rd_spR U, tLst]
      intro l hl
      have U' := U.same (same_upd hl (o := .lst []))
      refine ⟨⟨dx', fs', same_upd hl _ _ g1⟩, ?_⟩
      rw [rd_spR U']
      cases hL : u.loose with
      | false =>
        rw [hL] at k
        exact .inl ⟨rfl, fun t ht p hp => k.of (m := []) hl ht hp⟩
      | true =>
        rw [hL] at k
        exact .inr ⟨rfl, fun t ht p hp => k.of (m := []) hl ht hp⟩
    · by_cases c10 : ch = 10
      · have hb61 : ¬ b = [61] := fun y => e1 ⟨c10, y⟩
        have e0 : hexDigit u ch = [] := by subst c10; unfold hexDigit; simp [hxP, other, capP, smlP]
        have e : takeD q u i b ch = none := by unfold takeD; rw [if_neg e1, if_pos e0]
        rw [e] at k
        simp [tPar, tPar3, -List.lookup_eq_none_iff, sizeLine_eq, tSl, tPart, tNoPart, rSlS, cut_lo, cut_hi, gc_cons, gn_nil, tJs, tFmt8, S_empty, tTup, tNever, tNext, tM1, tM0, tRet, tRetN, tAndV, tOrV, tNotV, tCall, tMeth, tProp, tVar, tC, tCons, tNil, L2.start, tChain, tTest, rI, rI0, tOp, tUn, tSeq, tIfS, tAnd, tOr, tNot, tB, tIf, tAsg, gName, tDrop, tCB, tFld, rEq, rNe, scal, rIsi_int, rIsi_bl, rIsi_str, rIsi_non, kit_ii, kit_ib, kit_is, kit_bi, kit_bb, kit_bs, kit_si, kit_sb, kit_ss, kit_ni, kit_nb, kit_ns, S_inj, S_app, S_len, S_list, S_one, lit_no, lit_sp, lit_nl, lit_eq, cx_K, ex2, ex3, ex2b, rd_spN, rd_spC, rd_spI, rd_spIII, rd_spS, kNL, kBL, kES, kSB, h1, g1, rd_spRC U, eq_true c10, hb61, e0]
        exact k.no
      · rcases hexDigit_cases u ch with e0 | ⟨dg, e0, hdg⟩
        · have e : takeD q u i b ch = none := by unfold takeD; rw [if_neg e1, if_pos e0]
          rw [e] at k
          simp [tPar, tPar3, -List.lookup_eq_none_iff, sizeLine_eq, tSl, tPart, tNoPart, rSlS, cut_lo, cut_hi, gc_cons, gn_nil, tJs, tFmt8, S_empty, tTup, tNever, tNext, tM1, tM0, tRet, tRetN, tAndV, tOrV, tNotV, tCall, tMeth, tProp, tVar, tC, tCons, tNil, L2.start, tChain, tTest, rI, rI0, tOp, tUn, tSeq, tIfS, tAnd, tOr, tNot, tB, tIf, tAsg, gName, tDrop, tCB, tFld, rEq, rNe, scal, rIsi_int, rIsi_bl, rIsi_str, rIsi_non, kit_ii, kit_ib, kit_is, kit_bi, kit_bb, kit_bs, kit_si, kit_sb, kit_ss, kit_ni, kit_nb, kit_ns, S_inj, S_app, S_len, S_list, S_one, lit_no, lit_sp, lit_nl, lit_eq, cx_K, ex2, ex3, ex2b, rd_spN, rd_spC, rd_spI, rd_spIII, rd_spS, kNL, kBL, kES, kSB, h1, g1, rd_spRC U, c10, e0]
          exact k.no
        · have ne : ¬ hexDigit u ch = [] := by rw [e0]; simp
          rcases hb with rfl | ⟨d0, rfl, hd0⟩
          · cases hm : roomQ q u i 2 with
            | true =>
              have e : takeD q u i [61] ch = some ([], nextQ q u i, [61, dg]) := by unfold takeD; rw [if_neg e1, if_neg ne, if_neg (by simp), if_pos hm, e0]
              rw [e] at k
              simp [tPar, tPar3, -List.lookup_eq_none_iff, sizeLine_eq, tSl, tPart, tNoPart, rSlS, cut_lo, cut_hi, gc_cons, gn_nil, tJs, tFmt8, S_empty, tTup, tNever, tNext, tM1, tM0, tRet, tRetN, tAndV, tOrV, tNotV, tCall, tMeth, tProp, tVar, tC, tCons, tNil, L2.start, tChain, tTest, rI, rI0, tOp, tUn, tSeq, tIfS, tAnd, tOr, tNot, tB, tIf, tAsg, gName, tDrop, tCB, tFld, rEq, rNe, scal, rIsi_int, rIsi_bl, rIsi_str, rIsi_non, kit_ii, kit_ib, kit_is, kit_bi, kit_bb, kit_bs, kit_si, kit_sb, kit_ss, kit_ni, kit_nb, kit_ns, S_inj, S_app, S_len, S_list, S_one, lit_no, lit_sp, lit_nl, lit_eq, cx_K, ex2, ex3, ex2b, rd_spN, rd_spC, rd_spI, rd_spIII, rd_spS, kNL, kBL, kES, kSB, h1, g1, rd_spRC U, rd_spQRI W U, rd_spQRII W U, h4.next_place, h4.has_room, c10, e0, hm, tLst]
              exact fun l hl t ht p hp => k.of (m := []) hl ht hp
            | false =>
              have e : takeD q u i [61] ch = none := by unfold takeD; rw [if_neg e1, if_neg ne, if_neg (by simp), if_neg (by simp [hm])]
              rw [e] at k
              simp [tPar, tPar3, -List.lookup_eq_none_iff, sizeLine_eq, tSl, tPart, tNoPart, rSlS, cut_lo, cut_hi, gc_cons, gn_nil, tJs, tFmt8, S_empty, tTup, tNever, tNext, tM1, tM0, tRet, tRetN, tAndV, tOrV, tNotV, tCall, tMeth, tProp, tVar, tC, tCons, tNil, L2.start, tChain, tTest, rI, rI0, tOp, tUn, tSeq, tIfS, tAnd, tOr, tNot, tB, tIf, tAsg, gName, tDrop, tCB, tFld, rEq, rNe, scal, rIsi_int, rIsi_bl, rIsi_str, rIsi_non, kit_ii, kit_ib, kit_is, kit_bi, kit_bb, kit_bs, kit_si, kit_sb, kit_ss, kit_ni, kit_nb, kit_ns, S_inj, S_app, S_len, S_list, S_one, lit_no, lit_sp, lit_nl, lit_eq, cx_K, ex2, ex3, ex2b, rd_spN, rd_spC, rd_spI, rd_spIII, rd_spS, kNL, kBL, kES, kSB, h1, g1, rd_spRC U, rd_spQRI W U, rd_spQRII W U, h4.next_place, h4.has_room, c10, e0, hm]
              exact k.no
          · have e : takeD q u i [61, d0] ch = some ([Hx.hexNum [d0, dg]], nextQ q u i, []) := by unfold takeD; rw [if_neg e1, if_neg ne, if_pos (by simp), e0]; rfl
            rw [e] at k
            simp [tPar, tPar3, -List.lookup_eq_none_iff, sizeLine_eq, tSl, tPart, tNoPart, rSlS, cut_lo, cut_hi, gc_cons, gn_nil, tJs, tFmt8, S_empty, tTup, tNever, tNext, tM1, tM0, tRet, tRetN, tAndV, tOrV, tNotV, tCall, tMeth, tProp, tVar, tC, tCons, tNil, L2.start, tChain, tTest, rI, rI0, tOp, tUn, tSeq, tIfS, tAnd, tOr, tNot, tB, tIf, tAsg, gName, tDrop, tCB, tFld, rEq, rNe, scal, rIsi_int, rIsi_bl, rIsi_str, rIsi_non, kit_ii, kit_ib, kit_is, kit_bi, kit_bb, kit_bs, kit_si, kit_sb, kit_ss, kit_ni, kit_nb, kit_ns, S_inj, S_app, S_len, S_list, S_one, lit_no, lit_sp, lit_nl, lit_eq, cx_K, ex2, ex3, ex2b, rd_spN, rd_spC, rd_spI, rd_spIII, rd_spS, kNL, kBL, kES, kSB, h1, g1, rd_spRC U, rd_spQRI W U, h4.next_place, c10, e0, tLst, SX_S, rIntHex]
            refine ⟨⟨isHex_of hd0, isHex_of hdg⟩, ?_⟩
            exact fun l hl t ht p hp => k.of (m := [Hx.hexNum [d0, dg]]) hl ht hp
end
end K45
end
section
namespace K45
open PySem PySem.Spec PyProof.Rows L2 Pt
def takeQ (q : QC) (u : RC) (c : Int) (b : List Nat) (ch : Nat) : TkR :=
  if b.take 1 = [61] ∧ b ≠ [61, 10] then takeD q u c b ch
  else if ch = 10 then (if q.b = true ∨ b ≠ [] then none else some ([10], 0, []))
  else if ch = 32 ∧ u.loose = false then (if roomQ q u c 2 then some ([32], nextQ q u c, [32]) else none)
  else if roomQ q u c 1 = false then none
  else if ch = 61 then some ([], nextQ q u c, [61])
  else some ([ch], nextQ q u c, [])
/-- what may be begun -/
def Bg (b : List Nat) : Prop := b = [] ∨ b = [32] ∨ b = [61, 10] ∨ Esc b
theorem Esc.take {b : List Nat} (h : Esc b) : b.take 1 = [61] ∧ b ≠ [61, 10] := by
  rcases h with rfl | ⟨d, rfl, hd⟩
  · simp
  · refine ⟨by simp, fun z => ?_⟩
    simp at z
    subst z
    simp [hxP] at hd
theorem Esc.len {b : List Nat} (h : Esc b) : b.length ≤ 16777216 := by
  rcases h with rfl | ⟨d, rfl, hd⟩ <;> simp
section
variable {P : Program} {w : World} {K : Fg} {mg : Str → Option Value} {base : Heap}
/-- nothing is begun that the next character must go on -/
theorem take_free {q : QC} {u : RC} {c : Int} {b : List Nat} {ch : Nat} (hb : b = [] ∨ b = [32] ∨ b = [61, 10]) : takeQ q u c b ch =
    if ch = 10 then (if q.b = true ∨ b ≠ [] then none else some ([10], 0, []))
    else if ch = 32 ∧ u.loose = false then (if roomQ q u c 2 then some ([32], nextQ q u c, [32]) else none)
    else if roomQ q u c 1 = false then none
    else if ch = 61 then some ([], nextQ q u c, [61])
    else some ([ch], nextQ q u c, []) := by
  unfold takeQ
  rw [if_neg]
  rcases hb with rfl | rfl | rfl <;> simp
theorem sc_Quoted_take : FnScope ["self", "rules", "state", "character", "column", "begun", "after"] ["self", "rules", "state", "character"] (defScope s_Quoted_take) := ⟨rfl, rfl, rfl, by decide +kernel, rfl, by decide +kernel, by decide +kernel⟩
theorem ok_Quoted_take (T : Tx K mg) : Fok P w K mg base 6 d_Quoted_take ["self", "rules", "state", "character"] [] (spTk K takeQ Bg) := by
  refine fok T.F_Quoted_take sc_Quoted_take (fun vs H Q E h => ?_) (fun _ _ _ _ _ _ us hl => match us, hl with | [_, _, _, _], _ => rfl) (fun cdv A outer s H vs Q E hr h => ?_)
  · obtain ⟨c, q, r, u, st, i, b, ch, rfl, _⟩ := h; rfl
  · obtain ⟨c, q, r, u, st, i, b, ch, rfl, W, U, hst, hb, k⟩ := h
    obtain ⟨dx, fs, t, h1, h2, h3, h4⟩ := id W
    obtain ⟨dx', fs', d, kvs, g1, g2, g3, g4, g5⟩ := id U
    refine ⟨_, (pss_cons (ps_asg (pv 2) (pg_tup rfl (pgs_cons (pg_name (i := 4) sc_Quoted_take.nd rfl (Or.inl rfl)) (pgs_cons (pg_name (i := 5) sc_Quoted_take.nd rfl (Or.inl rfl)) pgs_nil))))
        (pss_cons (ps_if ((pw_and (pt_cmpR op_eq (pe_slice sl_str (pv 5) po_none (po_some pe_int)) (pe_gS T.s_ESCAPE) (nomark _)) (pw_and1 (pt_cmpR op_ne (pv 5) (pe_gS T.s_SOFT_BREAK) (nomark _))))).pt (pss_one (ps_ret (pe_mF (ok_Quoted_take_digit T) (hr.mono (by decide)) T.c_Quoted T.m_Quoted_take_digit (pv 0) (pa_cons (pv 1) (pa_cons (pv 2) (pa_cons (pv 3) pa_nil)))))) pss_nil)
        (pss_cons (ps_if (pt_cmpR op_eq (pv 3) (pe_gS T.s_NEWLINE) (nomark _)) (pss_one (ps_ret (pe_ifExp ((pw_or (pt_val (pe_pF (ok_Quoted_binary T) (hr.mono (by decide)) T.c_Quoted T.p_Quoted_binary (pv 0))) (pw_or1 (pt_cmpR op_ne (pv 5) pe_str (nomark _))))).pt pe_non (pe_tup (pa_cons (pe_lst (pa_cons (pe_gI T.i_LINE_FEED) pa_nil)) (pa_cons (pe_tup (pa_cons pe_int (pa_cons pe_str pa_nil))) pa_nil)))))) pss_nil)
        (pss_cons (ps_set (i := 6) sc_Quoted_take.nd rfl (Or.inl rfl) (pe_mF (ok_Quoted_next_place T) (hr.mono (by decide)) T.c_Quoted T.m_Quoted_next_place (pv 0) (pa_cons (pv 1) (pa_cons (pv 4) pa_nil))))
        (pss_cons (ps_if ((pw_and (pt_cmpR op_eq (pv 3) (pe_gS T.s_BLANK) (nomark _)) (pw_and1 (pt_not (pt_val (pe_pF (ok_Rules_loose T) (hr.mono (by decide)) T.c_Rules T.p_Rules_loose (pv 1))))))).pt (pss_one (ps_ret (pe_ifExp (pt_val (pe_mF (ok_Quoted_has_room T) (hr.mono (by decide)) T.c_Quoted T.m_Quoted_has_room (pv 0) (pa_cons (pv 1) (pa_cons (pv 4) (pa_cons pe_int pa_nil))))) (pe_tup (pa_cons (pe_lst (pa_cons (pe_gI T.i_SPACE) pa_nil)) (pa_cons (pe_tup (pa_cons (pv 6) (pa_cons (pe_gS T.s_BLANK) pa_nil))) pa_nil))) pe_non))) pss_nil)
        (pss_cons (ps_if (pt_not (pt_val (pe_mF (ok_Quoted_has_room T) (hr.mono (by decide)) T.c_Quoted T.m_Quoted_has_room (pv 0) (pa_cons (pv 1) (pa_cons (pv 4) (pa_cons pe_int pa_nil)))))) (pss_one (ps_ret pe_non)) pss_nil)
        (pss_cons (ps_if (pt_cmpR op_eq (pv 3) (pe_gS T.s_ESCAPE) (nomark _)) (pss_one (ps_ret (pe_tup (pa_cons (pe_lst pa_nil) (pa_cons (pe_tup (pa_cons (pv 6) (pa_cons (pe_gS T.s_ESCAPE) pa_nil))) pa_nil))))) pss_nil)
        (pss_one (ps_ret (pe_tup (pa_cons (pe_lst (pa_cons (pe_cF (ok_byte_of T) (hr.mono (by decide)) T.g_byte_of (pa_cons (pv 3) pa_nil)) pa_nil)) (pa_cons (pe_tup (pa_cons (pv 6) (pa_cons pe_str pa_nil))) pa_nil)))))))))))), ?_⟩
    refine ⟨_, rfl, gTup_at hst rfl ?_⟩
    by_cases he : Esc b
    · have hT := he.take
      have e : takeQ q u i b ch = takeD q u i b ch := by unfold takeQ; rw [if_pos hT]
      rw [e] at k
      simp [tPar, tPar3, -List.lookup_eq_none_iff, sizeLine_eq, tSl, tPart, tNoPart, rSlS, cut_lo, cut_hi, gc_cons, gn_nil, tJs, tFmt8, S_empty, tTup, tNever, tNext, tM1, tM0, tRet, tRetN, tAndV, tOrV, tNotV, tCall, tMeth, tProp, tVar, tC, tCons, tNil, L2.start, tChain, tTest, rI, rI0, tOp, tUn, tSeq, tIfS, tAnd, tOr, tNot, tB, tIf, tAsg, gName, tDrop, tCB, tFld, rEq, rNe, scal, rIsi_int, rIsi_bl, rIsi_str, rIsi_non, kit_ii, kit_ib, kit_is, kit_bi, kit_bb, kit_bs, kit_si, kit_sb, kit_ss, kit_ni, kit_nb, kit_ns, S_inj, S_app, S_len, S_list, S_one, lit_no, lit_sp, lit_nl, lit_eq, cx_K, ex2, ex3, ex2b, rd_spN, rd_spC, rd_spI, rd_spIII, rd_spS, kNL, kBL, kES, kSB, h1, hT.1, hT.2, he.len, h4.take_digit]
      exact ⟨c, q, r, u, st, i, b, ch, rfl, W, U, hst, he, k⟩
    · have hf : b = [] ∨ b = [32] ∨ b = [61, 10] := by
        rcases hb with h | h | h | h
        · exact .inl h
        · exact .inr (.inl h)
        · exact .inr (.inr h)
        · exact absurd h he
      rw [take_free hf] at k
      by_cases c10 : ch = 10
      · subst c10
        rw [if_pos rfl] at k
        cases hbb : q.b with
        | true =>
          rw [if_pos (.inl hbb)] at k
          rcases hf with rfl | rfl | rfl
          all_goals
            simp [tPar, tPar3, -List.lookup_eq_none_iff, sizeLine_eq, tSl, tPart, tNoPart, rSlS, cut_lo, cut_hi, gc_cons, gn_nil, tJs, tFmt8, S_empty, tTup, tNever, tNext, tM1, tM0, tRet, tRetN, tAndV, tOrV, tNotV, tCall, tMeth, tProp, tVar, tC, tCons, tNil, L2.start, tChain, tTest, rI, rI0, tOp, tUn, tSeq, tIfS, tAnd, tOr, tNot, tB, tIf, tAsg, gName, tDrop, tCB, tFld, rEq, rNe, scal, rIsi_int, rIsi_bl, rIsi_str, rIsi_non, kit_ii, kit_ib, kit_is, kit_bi, kit_bb, kit_bs, kit_si, kit_sb, kit_ss, kit_ni, kit_nb, kit_ns, S_inj, S_app, S_len, S_list, S_one, lit_no, lit_sp, lit_nl, lit_eq, cx_K, ex2, ex3, ex2b, rd_spN, rd_spC, rd_spI, rd_spIII, rd_spS, kNL, kBL, kES, kSB, h1, rd_spQ W, hbb]
            exact k.no
        | false =>
          by_cases h0 : b = []
          · subst h0
            rw [if_neg (by simp [hbb])] at k
            simp [tPar, tPar3, -List.lookup_eq_none_iff, sizeLine_eq, tSl, tPart, tNoPart, rSlS, cut_lo, cut_hi, gc_cons, gn_nil, tJs, tFmt8, S_empty, tTup, tNever, tNext, tM1, tM0, tRet, tRetN, tAndV, tOrV, tNotV, tCall, tMeth, tProp, tVar, tC, tCons, tNil, L2.start, tChain, tTest, rI, rI0, tOp, tUn, tSeq, tIfS, tAnd, tOr, tNot, tB, tIf, tAsg, gName, tDrop, tCB, tFld, rEq, rNe, scal, rIsi_int, rIsi_bl, rIsi_str, rIsi_non, kit_ii, kit_ib, kit_is, kit_bi, kit_bb, kit_bs, kit_si, kit_sb, kit_ss, kit_ni, kit_nb, kit_ns, S_inj, S_app, S_len, S_list, S_one, lit_no, lit_sp, lit_nl, lit_eq, cx_K, ex2, ex3, ex2b, rd_spN, rd_spC, rd_spI, rd_spIII, rd_spS, kNL, kBL, kES, kSB, h1, rd_spQ W, hbb, tLst]
            exact fun l hl t ht p hp => k.of (m := [10]) hl ht hp
          · rw [if_pos (.inr h0)] at k
            rcases hf with rfl | rfl | rfl
            · exact absurd rfl h0
            all_goals
              simp [tPar, tPar3, -List.lookup_eq_none_iff, sizeLine_eq, tSl, tPart, tNoPart, rSlS, cut_lo, cut_hi, gc_cons, gn_nil, tJs, tFmt8, S_empty, tTup, tNever, tNext, tM1, tM0, tRet, tRetN, tAndV, tOrV, tNotV, tCall, tMeth, tProp, tVar, tC, tCons, tNil, L2.start, tChain, tTest, rI, rI0, tOp, tUn, tSeq, tIfS, tAnd, tOr, tNot, tB, tIf, tAsg, gName, tDrop, tCB, tFld, rEq, rNe, scal, rIsi_int, rIsi_bl, rIsi_str, rIsi_non, kit_ii, kit_ib, kit_is, kit_bi, kit_bb, kit_bs, kit_si, kit_sb, kit_ss, kit_ni, kit_nb, kit_ns, S_inj, S_app, S_len, S_list, S_one, lit_no, lit_sp, lit_nl, lit_eq, cx_K, ex2, ex3, ex2b, rd_spN, rd_spC, rd_spI, rd_spIII, rd_spS, kNL, kBL, kES, kSB, h1, rd_spQ W, hbb]
              exact k.no
      · rw [if_neg c10] at k
        by_cases c32 : ch = 32 ∧ u.loose = false
        · rw [if_pos c32] at k
          obtain ⟨rfl, hlo⟩ := c32
          cases hm : roomQ q u i 2 with
          | true =>
            rw [if_pos hm] at k
            rcases hf with rfl | rfl | rfl
            all_goals
              simp [tPar, tPar3, -List.lookup_eq_none_iff, sizeLine_eq, tSl, tPart, tNoPart, rSlS, cut_lo, cut_hi, gc_cons, gn_nil, tJs, tFmt8, S_empty, tTup, tNever, tNext, tM1, tM0, tRet, tRetN, tAndV, tOrV, tNotV, tCall, tMeth, tProp, tVar, tC, tCons, tNil, L2.start, tChain, tTest, rI, rI0, tOp, tUn, tSeq, tIfS, tAnd, tOr, tNot, tB, tIf, tAsg, gName, tDrop, tCB, tFld, rEq, rNe, scal, rIsi_int, rIsi_bl, rIsi_str, rIsi_non, kit_ii, kit_ib, kit_is, kit_bi, kit_bb, kit_bs, kit_si, kit_sb, kit_ss, kit_ni, kit_nb, kit_ns, S_inj, S_app, S_len, S_list, S_one, lit_no, lit_sp, lit_nl, lit_eq, cx_K, ex2, ex3, ex2b, rd_spN, rd_spC, rd_spI, rd_spIII, rd_spS, kNL, kBL, kES, kSB, h1, g1, rd_spR U, rd_spQRI W U, rd_spQRII W U, h4.next_place, h4.has_room, hlo, hm, tLst]
              exact fun l hl t ht p hp => k.of (m := [32]) hl ht hp
          | false =>
            rw [if_neg (by simp [hm])] at k
            rcases hf with rfl | rfl | rfl
            all_goals
              simp [tPar, tPar3, -List.lookup_eq_none_iff, sizeLine_eq, tSl, tPart, tNoPart, rSlS, cut_lo, cut_hi, gc_cons, gn_nil, tJs, tFmt8, S_empty, tTup, tNever, tNext, tM1, tM0, tRet, tRetN, tAndV, tOrV, tNotV, tCall, tMeth, tProp, tVar, tC, tCons, tNil, L2.start, tChain, tTest, rI, rI0, tOp, tUn, tSeq, tIfS, tAnd, tOr, tNot, tB, tIf, tAsg, gName, tDrop, tCB, tFld, rEq, rNe, scal, rIsi_int, rIsi_bl, rIsi_str, rIsi_non, kit_ii, kit_ib, kit_is, kit_bi, kit_bb, kit_bs, kit_si, kit_sb, kit_ss, kit_ni, kit_nb, kit_ns, S_inj, S_app, S_len, S_list, S_one, lit_no, lit_sp, lit_nl, lit_eq, cx_K, ex2, ex3, ex2b, rd_spN, rd_spC, rd_spI, rd_spIII, rd_spS, kNL, kBL, kES, kSB, h1, g1, rd_spR U, rd_spQRI W U, rd_spQRII W U, h4.next_place, h4.has_room, hlo, hm, tLst]
              exact k.no
        · rw [if_neg c32] at k
          have hlo : ch = 32 → u.loose = true := fun z => by
            cases e : u.loose with
            | true => rfl
            | false => exact absurd ⟨z, e⟩ c32
          cases hm : roomQ q u i 1 with
          | false =>
            rw [if_pos hm] at k
            by_cases z : ch = 32
            · have hl := hlo z
              rcases hf with rfl | rfl | rfl
              all_goals
                simp [tPar, tPar3, -List.lookup_eq_none_iff, sizeLine_eq, tSl, tPart, tNoPart, rSlS, cut_lo, cut_hi, gc_cons, gn_nil, tJs, tFmt8, S_empty, tTup, tNever, tNext, tM1, tM0, tRet, tRetN, tAndV, tOrV, tNotV, tCall, tMeth, tProp, tVar, tC, tCons, tNil, L2.start, tChain, tTest, rI, rI0, tOp, tUn, tSeq, tIfS, tAnd, tOr, tNot, tB, tIf, tAsg, gName, tDrop, tCB, tFld, rEq, rNe, scal, rIsi_int, rIsi_bl, rIsi_str, rIsi_non, kit_ii, kit_ib, kit_is, kit_bi, kit_bb, kit_bs, kit_si, kit_sb, kit_ss, kit_ni, kit_nb, kit_ns, S_inj, S_app, S_len, S_list, S_one, lit_no, lit_sp, lit_nl, lit_eq, cx_K, ex2, ex3, ex2b, rd_spN, rd_spC, rd_spI, rd_spIII, rd_spS, kNL, kBL, kES, kSB, h1, g1, rd_spR U, rd_spQRI W U, rd_spQRII W U, h4.next_place, h4.has_room, eq_true z, c10, hl, hm, tLst]
                exact k.no
            · rcases hf with rfl | rfl | rfl
              all_goals
                simp [tPar, tPar3, -List.lookup_eq_none_iff, sizeLine_eq, tSl, tPart, tNoPart, rSlS, cut_lo, cut_hi, gc_cons, gn_nil, tJs, tFmt8, S_empty, tTup, tNever, tNext, tM1, tM0, tRet, tRetN, tAndV, tOrV, tNotV, tCall, tMeth, tProp, tVar, tC, tCons, tNil, L2.start, tChain, tTest, rI, rI0, tOp, tUn, tSeq, tIfS, tAnd, tOr, tNot, tB, tIf, tAsg, gName, tDrop, tCB, tFld, rEq, rNe, scal, rIsi_int, rIsi_bl, rIsi_str, rIsi_non, kit_ii, kit_ib, kit_is, kit_bi, kit_bb, kit_bs, kit_si, kit_sb, kit_ss, kit_ni, kit_nb, kit_ns, S_inj, S_app, S_len, S_list, S_one, lit_no, lit_sp, lit_nl, lit_eq, cx_K, ex2, ex3, ex2b, rd_spN, rd_spC, rd_spI, rd_spIII, rd_spS, kNL, kBL, kES, kSB, h1, g1, rd_spR U, rd_spQRI W U, rd_spQRII W U, h4.next_place, h4.has_room, z, c10, hm, tLst]
                exact k.no
          | true =>
            rw [if_neg (by simp [hm])] at k
            by_cases c61 : ch = 61
            · subst c61
              rw [if_pos rfl] at k
              rcases hf with rfl | rfl | rfl
              all_goals
                simp [tPar, tPar3, -List.lookup_eq_none_iff, sizeLine_eq, tSl, tPart, tNoPart, rSlS, cut_lo, cut_hi, gc_cons, gn_nil, tJs, tFmt8, S_empty, tTup, tNever, tNext, tM1, tM0, tRet, tRetN, tAndV, tOrV, tNotV, tCall, tMeth, tProp, tVar, tC, tCons, tNil, L2.start, tChain, tTest, rI, rI0, tOp, tUn, tSeq, tIfS, tAnd, tOr, tNot, tB, tIf, tAsg, gName, tDrop, tCB, tFld, rEq, rNe, scal, rIsi_int, rIsi_bl, rIsi_str, rIsi_non, kit_ii, kit_ib, kit_is, kit_bi, kit_bb, kit_bs, kit_si, kit_sb, kit_ss, kit_ni, kit_nb, kit_ns, S_inj, S_app, S_len, S_list, S_one, lit_no, lit_sp, lit_nl, lit_eq, cx_K, ex2, ex3, ex2b, rd_spN, rd_spC, rd_spI, rd_spIII, rd_spS, kNL, kBL, kES, kSB, h1, g1, rd_spR U, rd_spQRI W U, rd_spQRII W U, h4.next_place, h4.has_room, hm, tLst]
                exact fun l hl t ht p hp => k.of (m := []) hl ht hp
            · rw [if_neg c61] at k
              by_cases z : ch = 32
              · have hl := hlo z
                rcases hf with rfl | rfl | rfl
                all_goals
                  simp [tPar, tPar3, -List.lookup_eq_none_iff, sizeLine_eq, tSl, tPart, tNoPart, rSlS, cut_lo, cut_hi, gc_cons, gn_nil, tJs, tFmt8, S_empty, tTup, tNever, tNext, tM1, tM0, tRet, tRetN, tAndV, tOrV, tNotV, tCall, tMeth, tProp, tVar, tC, tCons, tNil, L2.start, tChain, tTest, rI, rI0, tOp, tUn, tSeq, tIfS, tAnd, tOr, tNot, tB, tIf, tAsg, gName, tDrop, tCB, tFld, rEq, rNe, scal, rIsi_int, rIsi_bl, rIsi_str, rIsi_non, kit_ii, kit_ib, kit_is, kit_bi, kit_bb, kit_bs, kit_si, kit_sb, kit_ss, kit_ni, kit_nb, kit_ns, S_inj, S_app, S_len, S_list, S_one, lit_no, lit_sp, lit_nl, lit_eq, cx_K, ex2, ex3, ex2b, rd_spN, rd_spC, rd_spI, rd_spIII, rd_spS, kNL, kBL, kES, kSB, h1, g1, rd_spR U, rd_spQRI W U, rd_spQRII W U, h4.next_place, h4.has_room, eq_true z, c10, c61, hl, hm, tLst]
                  exact fun l hl t ht p hp => k.of (m := [ch]) hl ht hp
              · rcases hf with rfl | rfl | rfl
                all_goals
                  simp [tPar, tPar3, -List.lookup_eq_none_iff, sizeLine_eq, tSl, tPart, tNoPart, rSlS, cut_lo, cut_hi, gc_cons, gn_nil, tJs, tFmt8, S_empty, tTup, tNever, tNext, tM1, tM0, tRet, tRetN, tAndV, tOrV, tNotV, tCall, tMeth, tProp, tVar, tC, tCons, tNil, L2.start, tChain, tTest, rI, rI0, tOp, tUn, tSeq, tIfS, tAnd, tOr, tNot, tB, tIf, tAsg, gName, tDrop, tCB, tFld, rEq, rNe, scal, rIsi_int, rIsi_bl, rIsi_str, rIsi_non, kit_ii, kit_ib, kit_is, kit_bi, kit_bb, kit_bs, kit_si, kit_sb, kit_ss, kit_ni, kit_nb, kit_ns, S_inj, S_app, S_len, S_list, S_one, lit_no, lit_sp, lit_nl, lit_eq, cx_K, ex2, ex3, ex2b, rd_spN, rd_spC, rd_spI, rd_spIII, rd_spS, kNL, kBL, kES, kSB, h1, g1, rd_spR U, rd_spQRI W U, rd_spQRII W U, h4.next_place, h4.has_room, z, c10, c61, hm, tLst]
                  exact fun l hl t ht p hp => k.of (m := [ch]) hl ht hp
end
end K45
end
section
namespace K45
open PySem PySem.Spec PyProof.Rows L2 Pt
abbrev Rd3 := Option (List Nat × Int × List Nat)
def stepR (q : QC) (u : RC) (a : Rd3) (ch : Nat) : Rd3 := a.bind fun z => (takeQ q u z.2.1 z.2.2 ch).map fun y => (z.1 ++ y.1, y.2)
def accR (q : QC) (u : RC) (text : List Nat) : Rd3 := text.foldl (stepR q u) (some ([], 0, []))
def readQ (q : QC) (u : RC) (text : List Nat) : Option (List Nat) := (accR q u text).bind fun z => if z.2.2 = [] then some z.1 else none
theorem takeD_ok {q : QC} {u : RC} {c : Int} {b : List Nat} {ch : Nat} {m : List Nat} {c' : Int} {b' : List Nat} (h : takeD q u c b ch = some (m, c', b')) : Bg b' ∧ m.length ≤ 1 := by
  unfold takeD at h
  split at h
  · simp at h; obtain ⟨rfl, _, rfl⟩ := h
    split
    · exact ⟨.inl rfl, by simp⟩
    · exact ⟨.inr (.inr (.inl rfl)), by simp⟩
  · split at h
    · cases h
    · rename_i hne
      split at h
      · simp at h; obtain ⟨rfl, _, rfl⟩ := h
        exact ⟨.inl rfl, by simp⟩
      · split at h
        · simp at h; obtain ⟨rfl, _, rfl⟩ := h
          rcases hexDigit_cases u ch with e | ⟨d, e, hd⟩
          · exact absurd e hne
          · rw [e]; exact ⟨.inr (.inr (.inr (.inr ⟨d, rfl, hd⟩))), by simp⟩
        · cases h
theorem takeQ_ok {q : QC} {u : RC} {c : Int} {b : List Nat} {ch : Nat} {m : List Nat} {c' : Int} {b' : List Nat} (h : takeQ q u c b ch = some (m, c', b')) : Bg b' ∧ m.length ≤ 1 := by
  unfold takeQ at h
  split at h
  · exact takeD_ok h
  · split at h
    · split at h
      · cases h
      · simp at h; obtain ⟨rfl, _, rfl⟩ := h; exact ⟨.inl rfl, by simp⟩
    · split at h
      · split at h
        · simp at h; obtain ⟨rfl, _, rfl⟩ := h; exact ⟨.inr (.inl rfl), by simp⟩
        · cases h
      · split at h
        · cases h
        · split at h
          · simp at h; obtain ⟨rfl, _, rfl⟩ := h; exact ⟨.inr (.inr (.inr (.inl rfl))), by simp⟩
          · simp at h; obtain ⟨rfl, _, rfl⟩ := h; exact ⟨.inl rfl, by simp⟩
theorem accR_succ {q : QC} {u : RC} {text : List Nat} {i ch : Nat} (h : text[i]? = some ch) : accR q u (text.take (i + 1)) = stepR q u (accR q u (text.take i)) ch := by
  unfold accR
  rw [List.take_add_one, h, List.foldl_append]
  rfl
theorem accR_none {q : QC} {u : RC} {text : List Nat} {i : Nat} (h : accR q u (text.take i) = none) : accR q u text = none := by
  have e : accR q u text = (text.drop i).foldl (stepR q u) (accR q u (text.take i)) := by
    unfold accR
    rw [← List.foldl_append, List.take_append_drop]
  rw [e, h]
  generalize text.drop i = r
  induction r with
  | nil => rfl
  | cons x r ih => exact ih
/-- None, or a new list of bytes -/
def NewD (H : Hp) (o : Option (List Nat)) (Q : VK) : Prop := match o with
  | none => ∀ H', Same H H' → Q .non H'
  | some m => NewL H (m.map vi) Q
section
variable {P : Program} {w : World} {K : Fg} {mg : Str → Option Value} {base : Heap}
def spEndR : Sp := fun us H Q _ => ∃ (c r st : Addr) (i : Int) (b : List Nat), us = [.ref c, .ref r, .ref st] ∧ StAt H st i b ∧ Q (.bl (decide (b = []))) H
theorem sc_Quoted_may_end : FnScope ["self", "rules", "state"] ["self", "rules", "state"] (defScope s_Quoted_may_end) := ⟨rfl, rfl, rfl, by decide +kernel, rfl, by decide +kernel, by decide +kernel⟩
theorem ok_Quoted_may_end (T : Tx K mg) : Fok P w K mg base 1 d_Quoted_may_end ["self", "rules", "state"] [] spEndR := by
  refine fok T.F_Quoted_may_end sc_Quoted_may_end (fun vs H Q E h => ?_) (fun _ _ _ _ _ _ us hl => match us, hl with | [_, _, _], _ => rfl) (fun cdv A outer s H vs Q E hr h => ?_)
  · obtain ⟨c, r, st, i, b, rfl, _⟩ := h; rfl
  · obtain ⟨c, r, st, i, b, rfl, hst, k⟩ := h
    refine ⟨_, (pss_one (ps_ret (pe_cmpR op_eq (pe_ix ix_tup (pv 2) pe_int (fun _ _ => rfl)) pe_str (nomark _)))), ?_⟩
    simp [tPar, tPar3, -List.lookup_eq_none_iff, sizeLine_eq, tSl, tPart, tNoPart, rSlS, cut_lo, cut_hi, gc_cons, gn_nil, tJs, tFmt8, S_empty, tTup, tNever, tNext, tM1, tM0, tRet, tRetN, tAndV, tOrV, tNotV, tCall, tMeth, tProp, tVar, tC, tCons, tNil, L2.start, tChain, tTest, rI, rI0, tOp, tUn, tSeq, tIfS, tAnd, tOr, tNot, tB, tIf, tAsg, gName, tDrop, tCB, tFld, rEq, rNe, scal, rIsi_int, rIsi_bl, rIsi_str, rIsi_non, kit_ii, kit_ib, kit_is, kit_bi, kit_bb, kit_bs, kit_si, kit_sb, kit_ss, kit_ni, kit_nb, kit_ns, S_inj, S_app, S_len, S_list, S_one, lit_no, lit_sp, lit_nl, lit_eq, cx_K, ex2, ex3, ex2b, rd_spN, rd_spC, rd_spI, rd_spIII, rd_spS, kNL, kBL, kES, kSB]
    refine ix_tup_at hst rfl ?_
    simp [tPar, tPar3, -List.lookup_eq_none_iff, sizeLine_eq, tSl, tPart, tNoPart, rSlS, cut_lo, cut_hi, gc_cons, gn_nil, tJs, tFmt8, S_empty, tTup, tNever, tNext, tM1, tM0, tRet, tRetN, tAndV, tOrV, tNotV, tCall, tMeth, tProp, tVar, tC, tCons, tNil, L2.start, tChain, tTest, rI, rI0, tOp, tUn, tSeq, tIfS, tAnd, tOr, tNot, tB, tIf, tAsg, gName, tDrop, tCB, tFld, rEq, rNe, scal, rIsi_int, rIsi_bl, rIsi_str, rIsi_non, kit_ii, kit_ib, kit_is, kit_bi, kit_bb, kit_bs, kit_si, kit_sb, kit_ss, kit_ni, kit_nb, kit_ns, S_inj, S_app, S_len, S_list, S_one, lit_no, lit_sp, lit_nl, lit_eq, cx_K, ex2, ex3, ex2b, rd_spN, rd_spC, rd_spI, rd_spIII, rd_spS, kNL, kBL, kES, kSB]
    exact k
def spRead (K : Fg) : Sp := fun us H Q _ => ∃ c q r u text, us = [.ref c, .ref r, Pt.vs text] ∧ Wy K H c q ∧ Ro K H r u ∧ text.length ≤ 12000 ∧ NewD H (readQ q u text) Q
theorem sc_Quoted_whole_data : FnScope ["self", "rules", "text", "data", "state", "character", "found", "more"] ["self", "rules", "text"] (defScope s_Quoted_whole_data) := ⟨rfl, rfl, rfl, by decide +kernel, rfl, by decide +kernel, by decide +kernel⟩
theorem ok_Quoted_whole_data (T : Tx K mg) : Fok P w K mg base 7 d_Quoted_whole_data ["self", "rules", "text"] [] (spRead K) := by
  refine fok T.F_Quoted_whole_data sc_Quoted_whole_data (fun vs H Q E h => ?_) (fun _ _ _ _ _ _ us hl => match us, hl with | [_, _, _], _ => rfl) (fun cdv A outer s H vs Q E hr h => ?_)
  · obtain ⟨c, q, r, u, text, rfl, _⟩ := h; rfl
  · obtain ⟨c, q, r, u, text, rfl, W, U, hl, k⟩ := h
    obtain ⟨dx, fs, t, h1, h2, h3, h4⟩ := id W
    refine ⟨_, (pss_cons (ps_par (i := 3) (j := 4) rfl sc_Quoted_whole_data.nd rfl rfl (by decide) rfl rfl (pa_cons (pe_lst pa_nil) (pa_cons (pe_mF0 (ok_Quoted_opening T) (hr.mono (by decide)) T.c_Quoted T.m_Quoted_opening (pv 0)) pa_nil)) (by rfl))
        (pss_cons (ps_for PassesOwn.never rfl (pi_str (pv 2)) (pg_name (i := 5) sc_Quoted_whole_data.nd rfl (Or.inl rfl)) (pss_cons (ps_set (i := 6) sc_Quoted_whole_data.nd rfl (Or.inl rfl) (pe_mF (ok_Quoted_take T) (hr.mono (by decide)) T.c_Quoted T.m_Quoted_take (pv 0) (pa_cons (pv 1) (pa_cons (pv 4) (pa_cons (pv 5) pa_nil)))))
        (pss_cons (ps_if (pt_cmpR op_isN (pv 6) pe_non (nomark _)) (pss_one (ps_ret pe_non)) pss_nil)
        (pss_cons (ps_asg (pv 6) (pg_tup rfl (pgs_cons (pg_name (i := 7) sc_Quoted_whole_data.nd rfl (Or.inl rfl)) (pgs_cons (pg_name (i := 4) sc_Quoted_whole_data.nd rfl (Or.inl rfl)) pgs_nil))))
        (pss_one (ps_aug (i := 3) sc_Quoted_whole_data.nd rfl (Or.inl rfl) (pv 7) iop_ext))))))
        (pss_one (ps_ret (pe_ifExp (pt_val (pe_mF (ok_Quoted_may_end T) (hr.mono (by decide)) T.c_Quoted T.m_Quoted_may_end (pv 0) (pa_cons (pv 1) (pa_cons (pv 4) pa_nil)))) (pv 3) pe_non))))), ?_⟩
    simp [tPar, tPar3, -List.lookup_eq_none_iff, sizeLine_eq, tSl, tPart, tNoPart, rSlS, cut_lo, cut_hi, gc_cons, gn_nil, tJs, tFmt8, S_empty, tTup, tNever, tNext, tM1, tM0, tRet, tRetN, tAndV, tOrV, tNotV, tCall, tMeth, tProp, tVar, tC, tCons, tNil, L2.start, tChain, tTest, rI, rI0, tOp, tUn, tSeq, tIfS, tAnd, tOr, tNot, tB, tIf, tAsg, gName, tDrop, tCB, tFld, rEq, rNe, scal, rIsi_int, rIsi_bl, rIsi_str, rIsi_non, kit_ii, kit_ib, kit_is, kit_bi, kit_bb, kit_bs, kit_si, kit_sb, kit_ss, kit_ni, kit_nb, kit_ns, S_inj, S_app, S_len, S_list, S_one, lit_no, lit_sp, lit_nl, lit_eq, cx_K, ex2, ex3, ex2b, rd_spN, rd_spC, rd_spI, rd_spIII, rd_spS, kNL, kBL, kES, kSB, h1, h4.opening, tLst]
    intro p hp
    have s0 : Same H (upd H p (.lst [])) := same_upd hp
    refine ⟨dx, fs, s0 _ _ h1, h4.opening, c, rfl, fun st H1 s1 e1 => ?_⟩
    dsimp only
    have p1 : H1 p = some (.lst []) := s1 _ _ upd_same
    refine ⟨_, rfl, S text, rfl, for_str (l := text)
      (fun i σ H' => ∃ (m : List Nat) (j : Int) (b : List Nat) (st : Addr) (v1 v2 v3 : Option V), σ = [some (.ref c), some (.ref r), some (Pt.vs text), some (.ref p), some (.ref st), v1, v2, v3] ∧ Same H H' ∧
        accR q u (text.take i) = some (m, j, b) ∧ Bg b ∧ m.length ≤ i ∧ H' p = some (.lst (m.map vi)) ∧ StAt H' st j b)
      ⟨[], 0, [], st, none, none, none, rfl, s0.trans s1, rfl, .inl rfl, Nat.le_refl _, p1, e1⟩ ?_ ?_⟩
    · rintro i σ H2 ch hi ⟨m, j, b, st, v1, v2, v3, rfl, s2, ha, hb, hm, p2, e2⟩
      have A := accR_succ (q := q) (u := u) hi
      rw [ha] at A
      simp [tPar, tPar3, -List.lookup_eq_none_iff, sizeLine_eq, tSl, tPart, tNoPart, rSlS, cut_lo, cut_hi, gc_cons, gn_nil, tJs, tFmt8, S_empty, tTup, tNever, tNext, tM1, tM0, tRet, tRetN, tAndV, tOrV, tNotV, tCall, tMeth, tProp, tVar, tC, tCons, tNil, L2.start, tChain, tTest, rI, rI0, tOp, tUn, tSeq, tIfS, tAnd, tOr, tNot, tB, tIf, tAsg, gName, tDrop, tCB, tFld, rEq, rNe, scal, rIsi_int, rIsi_bl, rIsi_str, rIsi_non, kit_ii, kit_ib, kit_is, kit_bi, kit_bb, kit_bs, kit_si, kit_sb, kit_ss, kit_ni, kit_nb, kit_ns, S_inj, S_app, S_len, S_list, S_one, lit_no, lit_sp, lit_nl, lit_eq, cx_K, ex2, ex3, ex2b, rd_spN, rd_spC, rd_spI, rd_spIII, rd_spS, kNL, kBL, kES, kSB, s2 _ _ h1, h4.take]
      refine ⟨c, q, r, u, st, j, b, ch, rfl, W.same s2, U.same s2, e2, hb, ?_⟩
      cases e : takeQ q u j b ch with
      | none =>
        have A2 : accR q u (text.take (i + 1)) = none := by rw [A]; simp [stepR, e]
        have A3 := accR_none A2
        unfold readQ at k
        rw [A3] at k
        intro H3 s3
        simp [tPar, tPar3, -List.lookup_eq_none_iff, sizeLine_eq, tSl, tPart, tNoPart, rSlS, cut_lo, cut_hi, gc_cons, gn_nil, tJs, tFmt8, S_empty, tTup, tNever, tNext, tM1, tM0, tRet, tRetN, tAndV, tOrV, tNotV, tCall, tMeth, tProp, tVar, tC, tCons, tNil, L2.start, tChain, tTest, rI, rI0, tOp, tUn, tSeq, tIfS, tAnd, tOr, tNot, tB, tIf, tAsg, gName, tDrop, tCB, tFld, rEq, rNe, scal, rIsi_int, rIsi_bl, rIsi_str, rIsi_non, kit_ii, kit_ib, kit_is, kit_bi, kit_bb, kit_bs, kit_si, kit_sb, kit_ss, kit_ni, kit_nb, kit_ns, S_inj, S_app, S_len, S_list, S_one, lit_no, lit_sp, lit_nl, lit_eq, cx_K, ex2, ex3, ex2b, rd_spN, rd_spC, rd_spI, rd_spIII, rd_spS, kNL, kBL, kES, kSB]
        exact k H3 (s2.trans s3)
      | some z =>
        obtain ⟨m', j', b'⟩ := z
        obtain ⟨hb', hm'⟩ := takeQ_ok e
        have A2 : accR q u (text.take (i + 1)) = some (m ++ m', j', b') := by rw [A]; simp [stepR, e]
        intro p3 l3 t3 H3 s3 e3 e4 e5
        simp [tPar, tPar3, -List.lookup_eq_none_iff, sizeLine_eq, tSl, tPart, tNoPart, rSlS, cut_lo, cut_hi, gc_cons, gn_nil, tJs, tFmt8, S_empty, tTup, tNever, tNext, tM1, tM0, tRet, tRetN, tAndV, tOrV, tNotV, tCall, tMeth, tProp, tVar, tC, tCons, tNil, L2.start, tChain, tTest, rI, rI0, tOp, tUn, tSeq, tIfS, tAnd, tOr, tNot, tB, tIf, tAsg, gName, tDrop, tCB, tFld, rEq, rNe, scal, rIsi_int, rIsi_bl, rIsi_str, rIsi_non, kit_ii, kit_ib, kit_is, kit_bi, kit_bb, kit_bs, kit_si, kit_sb, kit_ss, kit_ni, kit_nb, kit_ns, S_inj, S_app, S_len, S_list, S_one, lit_no, lit_sp, lit_nl, lit_eq, cx_K, ex2, ex3, ex2b, rd_spN, rd_spC, rd_spI, rd_spIII, rd_spS, kNL, kBL, kES, kSB]
        refine gTup_at e3 rfl ?_
        simp [tPar, tPar3, -List.lookup_eq_none_iff, sizeLine_eq, tSl, tPart, tNoPart, rSlS, cut_lo, cut_hi, gc_cons, gn_nil, tJs, tFmt8, S_empty, tTup, tNever, tNext, tM1, tM0, tRet, tRetN, tAndV, tOrV, tNotV, tCall, tMeth, tProp, tVar, tC, tCons, tNil, L2.start, tChain, tTest, rI, rI0, tOp, tUn, tSeq, tIfS, tAnd, tOr, tNot, tB, tIf, tAsg, gName, tDrop, tCB, tFld, rEq, rNe, scal, rIsi_int, rIsi_bl, rIsi_str, rIsi_non, kit_ii, kit_ib, kit_is, kit_bi, kit_bb, kit_bs, kit_si, kit_sb, kit_ss, kit_ni, kit_nb, kit_ns, S_inj, S_app, S_len, S_list, S_one, lit_no, lit_sp, lit_nl, lit_eq, cx_K, ex2, ex3, ex2b, rd_spN, rd_spC, rd_spI, rd_spIII, rd_spS, kNL, kBL, kES, kSB, tAug]
        have hit := (List.getElem?_eq_some_iff.mp hi).1
        refine ⟨p, l3, _, _, rfl, rfl, s3 _ _ p2, e4, by rw [List.length_map, List.length_map, sizeLine_eq]; dsimp only; omega, ?_⟩
        refine ⟨m ++ m', j', b', t3, ⟨rfl, rfl⟩, same_put hp (s2.trans s3), A2, hb', by simp; omega, ?_, ?_⟩
        · rw [upd_same, List.map_append]
        · exact (upd_ne (fun z => by subst z; rw [s3 _ _ p2] at e5; cases e5)).trans e5
    · rintro σ H2 ⟨m, j, b, st, v1, v2, v3, rfl, s2, ha, hb, hm, p2, e2⟩
      rw [List.take_length] at ha
      unfold readQ at k
      rw [ha] at k
      simp [tPar, tPar3, -List.lookup_eq_none_iff, sizeLine_eq, tSl, tPart, tNoPart, rSlS, cut_lo, cut_hi, gc_cons, gn_nil, tJs, tFmt8, S_empty, tTup, tNever, tNext, tM1, tM0, tRet, tRetN, tAndV, tOrV, tNotV, tCall, tMeth, tProp, tVar, tC, tCons, tNil, L2.start, tChain, tTest, rI, rI0, tOp, tUn, tSeq, tIfS, tAnd, tOr, tNot, tB, tIf, tAsg, gName, tDrop, tCB, tFld, rEq, rNe, scal, rIsi_int, rIsi_bl, rIsi_str, rIsi_non, kit_ii, kit_ib, kit_is, kit_bi, kit_bb, kit_bs, kit_si, kit_sb, kit_ss, kit_ni, kit_nb, kit_ns, S_inj, S_app, S_len, S_list, S_one, lit_no, lit_sp, lit_nl, lit_eq, cx_K, ex2, ex3, ex2b, rd_spN, rd_spC, rd_spI, rd_spIII, rd_spS, kNL, kBL, kES, kSB, s2 _ _ h1, h4.may_end]
      refine ⟨c, r, st, j, b, rfl, e2, ?_⟩
      by_cases hb0 : b = []
      · subst hb0
        simp [tPar, tPar3, -List.lookup_eq_none_iff, sizeLine_eq, tSl, tPart, tNoPart, rSlS, cut_lo, cut_hi, gc_cons, gn_nil, tJs, tFmt8, S_empty, tTup, tNever, tNext, tM1, tM0, tRet, tRetN, tAndV, tOrV, tNotV, tCall, tMeth, tProp, tVar, tC, tCons, tNil, L2.start, tChain, tTest, rI, rI0, tOp, tUn, tSeq, tIfS, tAnd, tOr, tNot, tB, tIf, tAsg, gName, tDrop, tCB, tFld, rEq, rNe, scal, rIsi_int, rIsi_bl, rIsi_str, rIsi_non, kit_ii, kit_ib, kit_is, kit_bi, kit_bb, kit_bs, kit_si, kit_sb, kit_ss, kit_ni, kit_nb, kit_ns, S_inj, S_app, S_len, S_list, S_one, lit_no, lit_sp, lit_nl, lit_eq, cx_K, ex2, ex3, ex2b, rd_spN, rd_spC, rd_spI, rd_spIII, rd_spS, kNL, kBL, kES, kSB]
        exact k p H2 s2 p2
      · have k' : ∀ H', Same H H' → Q .non H' := by simpa [hb0, NewD] using k
        simp [tPar, tPar3, -List.lookup_eq_none_iff, sizeLine_eq, tSl, tPart, tNoPart, rSlS, cut_lo, cut_hi, gc_cons, gn_nil, tJs, tFmt8, S_empty, tTup, tNever, tNext, tM1, tM0, tRet, tRetN, tAndV, tOrV, tNotV, tCall, tMeth, tProp, tVar, tC, tCons, tNil, L2.start, tChain, tTest, rI, rI0, tOp, tUn, tSeq, tIfS, tAnd, tOr, tNot, tB, tIf, tAsg, gName, tDrop, tCB, tFld, rEq, rNe, scal, rIsi_int, rIsi_bl, rIsi_str, rIsi_non, kit_ii, kit_ib, kit_is, kit_bi, kit_bb, kit_bs, kit_si, kit_sb, kit_ss, kit_ni, kit_nb, kit_ns, S_inj, S_app, S_len, S_list, S_one, lit_no, lit_sp, lit_nl, lit_eq, cx_K, ex2, ex3, ex2b, rd_spN, rd_spC, rd_spI, rd_spIII, rd_spS, kNL, kBL, kES, kSB, hb0]
        exact k' H2 s2
theorem sc_Quoted_suits : FnScope ["self", "rules"] ["self", "rules"] (defScope s_Quoted_suits) := ⟨rfl, rfl, rfl, by decide +kernel, rfl, by decide +kernel, by decide +kernel⟩
theorem ok_Quoted_suits (T : Tx K mg) : Fok P w K mg base 3 d_Quoted_suits ["self", "rules"] [] (fun us H Q _ => ∃ c r u, us = [.ref c, .ref r] ∧ Ro K H r u ∧ Q (.bl true) H) := by
  refine fok T.F_Quoted_suits sc_Quoted_suits (fun vs H Q E h => ?_) (fun _ _ _ _ _ _ us hl => match us, hl with | [_, _], _ => rfl) (fun cdv A outer s H vs Q E hr h => ?_)
  · obtain ⟨c, r, u, rfl, _⟩ := h; rfl
  · obtain ⟨c, r, u, rfl, U, k⟩ := h
    obtain ⟨dx', fs', d, kvs, g1, g2, g3, g4, g5⟩ := id U
    refine ⟨_, (pss_one (ps_ret (pe_and (pe_callB call_isi (by rfl) T.n_isinstance (by decide +kernel) (pa_cons (pv 1) (pa_cons (pe_gR T.g_Rules) pa_nil))) (pe_one (pe_cmpR op_eq (pe_pF (ok_Rules_skip T) (hr.mono (by decide)) T.c_Rules T.p_Rules_skip (pv 1)) pe_str (nomark _)))))), ?_⟩
    simp [tPar, tPar3, -List.lookup_eq_none_iff, sizeLine_eq, tSl, tPart, tNoPart, rSlS, cut_lo, cut_hi, gc_cons, gn_nil, tJs, tFmt8, S_empty, tTup, tNever, tNext, tM1, tM0, tRet, tRetN, tAndV, tOrV, tNotV, tCall, tMeth, tProp, tVar, tC, tCons, tNil, L2.start, tChain, tTest, rI, rI0, tOp, tUn, tSeq, tIfS, tAnd, tOr, tNot, tB, tIf, tAsg, gName, tDrop, tCB, tFld, rEq, rNe, scal, rIsi_int, rIsi_bl, rIsi_str, rIsi_non, kit_ii, kit_ib, kit_is, kit_bi, kit_bb, kit_bs, kit_si, kit_sb, kit_ss, kit_ni, kit_nb, kit_ns, S_inj, S_app, S_len, S_list, S_one, lit_no, lit_sp, lit_nl, lit_eq, cx_K, ex2, ex3, ex2b, rd_spN, rd_spC, rd_spI, rd_spIII, rd_spS, kNL, kBL, kES, kSB]
    refine isi_own T.j_Rules T.c_Rules g1 ?_
    simp [tPar, tPar3, -List.lookup_eq_none_iff, sizeLine_eq, tSl, tPart, tNoPart, rSlS, cut_lo, cut_hi, gc_cons, gn_nil, tJs, tFmt8, S_empty, tTup, tNever, tNext, tM1, tM0, tRet, tRetN, tAndV, tOrV, tNotV, tCall, tMeth, tProp, tVar, tC, tCons, tNil, L2.start, tChain, tTest, rI, rI0, tOp, tUn, tSeq, tIfS, tAnd, tOr, tNot, tB, tIf, tAsg, gName, tDrop, tCB, tFld, rEq, rNe, scal, rIsi_int, rIsi_bl, rIsi_str, rIsi_non, kit_ii, kit_ib, kit_is, kit_bi, kit_bb, kit_bs, kit_si, kit_sb, kit_ss, kit_ni, kit_nb, kit_ns, S_inj, S_app, S_len, S_list, S_one, lit_no, lit_sp, lit_nl, lit_eq, cx_K, ex2, ex3, ex2b, rd_spN, rd_spC, rd_spI, rd_spIII, rd_spS, kNL, kBL, kES, kSB, g1, rd_spR U]
    exact k
theorem sc_Rules_suit : FnScope ["self", "code"] ["self", "code"] (defScope s_Rules_suit) := ⟨rfl, rfl, rfl, by decide +kernel, rfl, by decide +kernel, by decide +kernel⟩
theorem ok_Rules_suit (T : Tx K mg) : Fok P w K mg base 4 d_Rules_suit ["self", "code"] [] (fun us H Q _ => ∃ r c u q, us = [.ref r, .ref c] ∧ Ro K H r u ∧ Wy K H c q ∧ Q (.bl true) H) := by
  refine fok T.F_Rules_suit sc_Rules_suit (fun vs H Q E h => ?_) (fun _ _ _ _ _ _ us hl => match us, hl with | [_, _], _ => rfl) (fun cdv A outer s H vs Q E hr h => ?_)
  · obtain ⟨r, c, u, q, rfl, _⟩ := h; rfl
  · obtain ⟨r, c, u, q, rfl, U, W, k⟩ := h
    obtain ⟨dx, fs, t, h1, h2, h3, h4⟩ := id W
    refine ⟨_, (pss_one (ps_ret (pe_mF (ok_Quoted_suits T) (hr.mono (by decide)) T.c_Quoted T.m_Quoted_suits (pv 1) (pa_cons (pv 0) pa_nil)))), ?_⟩
    simp [tPar, tPar3, -List.lookup_eq_none_iff, sizeLine_eq, tSl, tPart, tNoPart, rSlS, cut_lo, cut_hi, gc_cons, gn_nil, tJs, tFmt8, S_empty, tTup, tNever, tNext, tM1, tM0, tRet, tRetN, tAndV, tOrV, tNotV, tCall, tMeth, tProp, tVar, tC, tCons, tNil, L2.start, tChain, tTest, rI, rI0, tOp, tUn, tSeq, tIfS, tAnd, tOr, tNot, tB, tIf, tAsg, gName, tDrop, tCB, tFld, rEq, rNe, scal, rIsi_int, rIsi_bl, rIsi_str, rIsi_non, kit_ii, kit_ib, kit_is, kit_bi, kit_bb, kit_bs, kit_si, kit_sb, kit_ss, kit_ni, kit_nb, kit_ns, S_inj, S_app, S_len, S_list, S_one, lit_no, lit_sp, lit_nl, lit_eq, cx_K, ex2, ex3, ex2b, rd_spN, rd_spC, rd_spI, rd_spIII, rd_spS, kNL, kBL, kES, kSB, h1, h4.suits]
    exact ⟨⟨u, U⟩, k⟩
/-- a text of characters -/
def TextOk (l : List Nat) : Prop := l.length ≤ 12000 ∧ ∀ c ∈ l, c = 10 ∨ prP c = true
theorem sc_check_text : FnScope ["value", "index", "character"] ["value"] (defScope s_check_text) := ⟨rfl, rfl, rfl, by decide +kernel, rfl, by decide +kernel, by decide +kernel⟩
theorem ok_check_text (T : Tx K mg) : Fok P w K mg base 1 d_check_text ["value"] [] (fun us H Q _ => ∃ l, us = [Pt.vs l] ∧ TextOk l ∧ Val H .non Q) := by
  refine fok T.F_check_text sc_check_text (fun vs H Q E h => ?_) (fun _ _ _ _ _ _ us hl => match us, hl with | [_], _ => rfl) (fun cdv A outer s H vs Q E hr h => ?_)
  · obtain ⟨l, rfl, _⟩ := h; rfl
  · obtain ⟨l, rfl, hl, k⟩ := h
    refine ⟨_, (pss_cons (ps_if ((pw_or (pt_not (pt_val (pe_callB call_isi (by rfl) T.n_isinstance (by decide +kernel) (pa_cons (pv 0) (pa_cons (pe_tyN (n := "str") T.n_str (by decide +kernel)) pa_nil))))) (pw_or1 (pt_cmpR op_gt (pe_callB call_len_str (by rfl) T.n_len PySem.boot_len (pa_cons (pv 0) pa_nil)) (pe_gI T.i_MOST_CHARACTERS) (nomark _))))).pt (pss_one ps_never) pss_nil)
        (pss_one (ps_for PassesOwn.never rfl (pi_enumS (by rfl) T.n_enumerate (pa_cons (pv 0) pa_nil)) (pg_tup rfl (pgs_cons (pg_name (i := 1) sc_check_text.nd rfl (Or.inl rfl)) (pgs_cons (pg_name (i := 2) sc_check_text.nd rfl (Or.inl rfl)) pgs_nil))) (pss_one (ps_if (pt_cmpR op_notIn_sign (pv 2) (pe_gS T.s_CHARACTERS) (by with_unfolding_all rfl)) (pss_one ps_never) pss_nil))))), ?_⟩
    have hz : l.length ≤ 16777216 := Nat.le_trans hl.1 (by decide)
    have hz2 : ¬ (12000 : Int) < l.length := by have := hl.1; omega
    simp [tPar, tPar3, -List.lookup_eq_none_iff, sizeLine_eq, tSl, tPart, tNoPart, rSlS, cut_lo, cut_hi, gc_cons, gn_nil, tJs, tFmt8, S_empty, tTup, tNever, tNext, tM1, tM0, tRet, tRetN, tAndV, tOrV, tNotV, tCall, tMeth, tProp, tVar, tC, tCons, tNil, L2.start, tChain, tTest, rI, rI0, tOp, tUn, tSeq, tIfS, tAnd, tOr, tNot, tB, tIf, tAsg, gName, tDrop, tCB, tFld, rEq, rNe, scal, rIsi_int, rIsi_bl, rIsi_str, rIsi_non, kit_ii, kit_ib, kit_is, kit_bi, kit_bb, kit_bs, kit_si, kit_sb, kit_ss, kit_ni, kit_nb, kit_ns, S_inj, S_app, S_len, S_list, S_one, lit_no, lit_sp, lit_nl, lit_eq, cx_K, ex2, ex3, ex2b, rd_spN, rd_spC, rd_spI, rd_spIII, rd_spS, kNL, kBL, kES, kSB, hz, hz2]
    refine ⟨by omega, _, rfl, S l, rfl, for_enumS (l := l) (fun i σ H' => ∃ va vb, σ = [some (Pt.vs l), va, vb] ∧ Same H H') ⟨none, none, rfl, Same.refl H⟩ ?_ ?_⟩
    · rintro i σ H2 c t hi ⟨va, vb, rfl, s2⟩ ht
      have hc := hl.2 c (List.mem_of_getElem? hi)
      refine gTup_at upd_same rfl ?_
      simp [tPar, tPar3, -List.lookup_eq_none_iff, sizeLine_eq, tSl, tPart, tNoPart, rSlS, cut_lo, cut_hi, gc_cons, gn_nil, tJs, tFmt8, S_empty, tTup, tNever, tNext, tM1, tM0, tRet, tRetN, tAndV, tOrV, tNotV, tCall, tMeth, tProp, tVar, tC, tCons, tNil, L2.start, tChain, tTest, rI, rI0, tOp, tUn, tSeq, tIfS, tAnd, tOr, tNot, tB, tIf, tAsg, gName, tDrop, tCB, tFld, rEq, rNe, scal, rIsi_int, rIsi_bl, rIsi_str, rIsi_non, kit_ii, kit_ib, kit_is, kit_bi, kit_bb, kit_bs, kit_si, kit_sb, kit_ss, kit_ni, kit_nb, kit_ns, S_inj, S_app, S_len, S_list, S_one, lit_no, lit_sp, lit_nl, lit_eq, cx_K, ex2, ex3, ex2b, rd_spN, rd_spC, rd_spI, rd_spIII, rd_spS, kNL, kBL, kES, kSB, mem_CHARACTERS, hc]
      exact s2.trans (same_upd ht)
    · rintro σ H2 ⟨va, vb, rfl, s2⟩
      exact k H2 s2
end
end K45
end
section
namespace K45
open PySem PySem.Spec PyProof.Rows L2 Pt
theorem vals_take : ∀ (n : Nat) {vs : List V} {us : List Value}, Vals vs us → Vals (vs.take n) (us.take n)
  | 0, _, _, _ => by simp; exact .nil
  | n + 1, _, _, .nil => by simp; exact .nil
  | n + 1, _, _, .cons r t => by simp; exact .cons r (vals_take n t)
theorem vals_drop : ∀ (n : Nat) {vs : List V} {us : List Value}, Vals vs us → Vals (vs.drop n) (us.drop n)
  | 0, _, _, h => by simpa using h
  | n + 1, _, _, .nil => by simp; exact .nil
  | n + 1, _, _, .cons r t => by simp; exact vals_drop n t
section
variable {P : Program} {w : World} {K : Fg} {mg : Str → Option Value} {base : Heap}
def sgsB (l : List Nat) : Bool := (l.all fun c => isSignS [c]) && decide l.Nodup
def chsB (l : List Nat) : Bool := (l.all fun c => decide (c ∈ k_CHARACTERS)) && decide l.Nodup
def spV (pre : List Nat → Prop) (f : List Nat → V) : Sp := fun us H Q _ => ∃ l, us = [.str (S l)] ∧ pre l ∧ Val H (f l) Q
theorem sc_are_signs : FnScope ["value", "character"] ["value"] (defScope s_are_signs) := ⟨rfl, rfl, rfl, by decide +kernel, rfl, by decide +kernel, by decide +kernel⟩
theorem ok_are_signs (T : Tx K mg) : Fok P w K mg base 2 d_are_signs ["value"] [] (spV (fun l => l.length ≤ 4000) fun l => .bl (sgsB l)) := by
  refine fok T.F_are_signs sc_are_signs (fun vs H Q E h => ?_) (fun _ _ _ _ _ _ us hl => match us, hl with | [_], _ => rfl) (fun cdv A outer s H vs Q E hr h => ?_)
  · obtain ⟨i, rfl, _⟩ := h; rfl
  · obtain ⟨l, rfl, hz, k⟩ := h
    have hu := hu_of hr
    refine ⟨_, (pss_cons (ps_if ((pw_or (pt_not (pt_val (pe_callB call_isi (by rfl) T.n_isinstance (by decide +kernel) (pa_cons (pv 0) (pa_cons (pe_tyN (n := "str") T.n_str (by decide +kernel)) pa_nil))))) (pw_or1 (pt_not (pt_val (pe_callB (cr_all (by rfl)) (by rfl) T.n_all (by decide +kernel) (pa_cons (pe_lc (own := [("character", 1)]) (g := gName 1) (by rfl) sc_are_signs.nd (pi_str (pv 0)) (blkOk_by (own := [("character", 1)]) (N := ["value", "character"]) (sc := defScope s_are_signs) (by decide +kernel)) (fun _ _ _ _ _ => pg_name (i := 1) sc_are_signs.nd rfl (Or.inl rfl)) (fun _ _ _ _ _ => pts_nil) (fun _ _ _ _ _ => (pe_cF (ok_is_sign T) (hr.mono (by decide)) T.g_is_sign (pa_cons (pv 1) pa_nil)))) pa_nil))))))).pt (pss_one (ps_ret pe_bl)) pss_nil)
        (pss_one (ps_ret (pe_cmpR op_eq (pe_callB call_lenK (by rfl) T.n_len PySem.boot_len (pa_cons (pe_scK (own := [("character", 1)]) (g := gName 1) (by rfl) sc_are_signs.nd (pi_str (pv 0)) (blkOk_by (own := [("character", 1)]) (N := ["value", "character"]) (sc := defScope s_are_signs) (by decide +kernel)) (fun _ _ _ _ _ => pg_name (i := 1) sc_are_signs.nd rfl (Or.inl rfl)) (fun _ _ _ _ _ => (pv 1))) pa_nil)) (pe_callB call_len_str (by rfl) T.n_len PySem.boot_len (pa_cons (pv 0) pa_nil)) (nomark _))))), ?_⟩
    have hz2 : Sz l := Nat.le_trans hz (by decide)
    dsimp only at k
    simp [tPar, tPar3, -List.lookup_eq_none_iff, sizeLine_eq, tSl, tPart, tNoPart, rSlS, cut_lo, cut_hi, gc_cons, gn_nil, tJs, tFmt8, S_empty, tTup, tNever, tNext, tM1, tM0, tRet, tRetN, tAndV, tOrV, tNotV, tCall, tMeth, tProp, tVar, tC, tCons, tNil, L2.start, tChain, tTest, rI, rI0, tOp, tUn, tSeq, tIfS, tAnd, tOr, tNot, tB, tIf, tAsg, gName, tDrop, tCB, tFld, rEq, rNe, scal, rIsi_int, rIsi_bl, rIsi_str, rIsi_non, kit_ii, kit_ib, kit_is, kit_bi, kit_bb, kit_bs, kit_si, kit_sb, kit_ss, kit_ni, kit_nb, kit_ns, S_inj, S_app, S_len, S_list, S_one, lit_no, lit_sp, lit_nl, lit_eq, cx_K, ex2, ex3, ex2b, rd_spN, rd_spC, rd_spI, rd_spIII, rd_spS, kNL, kBL, kES, kSB]
    refine lcS (fun c => .bl (isSignS [c])) rfl hz2 (fun c H' R hc s' hR => ?_) fun p H1 s1 e1 => ?_
    · refine ⟨rfl, ?_⟩
      simp [tPar, tPar3, -List.lookup_eq_none_iff, sizeLine_eq, tSl, tPart, tNoPart, rSlS, cut_lo, cut_hi, gc_cons, gn_nil, tJs, tFmt8, S_empty, tTup, tNever, tNext, tM1, tM0, tRet, tRetN, tAndV, tOrV, tNotV, tCall, tMeth, tProp, tVar, tC, tCons, tNil, L2.start, tChain, tTest, rI, rI0, tOp, tUn, tSeq, tIfS, tAnd, tOr, tNot, tB, tIf, tAsg, gName, tDrop, tCB, tFld, rEq, rNe, scal, rIsi_int, rIsi_bl, rIsi_str, rIsi_non, kit_ii, kit_ib, kit_is, kit_bi, kit_bb, kit_bs, kit_si, kit_sb, kit_ss, kit_ni, kit_nb, kit_ns, S_inj, S_app, S_len, S_list, S_one, lit_no, lit_sp, lit_nl, lit_eq, cx_K, ex2, ex3, ex2b, rd_spN, rd_spC, rd_spI, rd_spIII, rd_spS, kNL, kBL, kES, kSB, wipe]
      exact hR H' (Same.refl H')
    · refine all_bl e1 ?_
      cases ha : l.all fun c => isSignS [c] with
      | false =>
        have e : sgsB l = false := by unfold sgsB; rw [ha]; rfl
        rw [e] at k
        exact .inl ⟨rfl, k H1 s1⟩
      | true =>
        refine .inr ⟨rfl, ?_⟩
        refine scS rfl hz (fun c H' R s' hR => ⟨rfl, ?_⟩) fun D H2 S0 n s2 e2 hn hd => ⟨D, S0, n, rfl, e2, hn, by omega, rfl, ?_⟩
        · simp [tPar, tPar3, -List.lookup_eq_none_iff, sizeLine_eq, tSl, tPart, tNoPart, rSlS, cut_lo, cut_hi, gc_cons, gn_nil, tJs, tFmt8, S_empty, tTup, tNever, tNext, tM1, tM0, tRet, tRetN, tAndV, tOrV, tNotV, tCall, tMeth, tProp, tVar, tC, tCons, tNil, L2.start, tChain, tTest, rI, rI0, tOp, tUn, tSeq, tIfS, tAnd, tOr, tNot, tB, tIf, tAsg, gName, tDrop, tCB, tFld, rEq, rNe, scal, rIsi_int, rIsi_bl, rIsi_str, rIsi_non, kit_ii, kit_ib, kit_is, kit_bi, kit_bb, kit_bs, kit_si, kit_sb, kit_ss, kit_ni, kit_nb, kit_ns, S_inj, S_app, S_len, S_list, S_one, lit_no, lit_sp, lit_nl, lit_eq, cx_K, ex2, ex3, ex2b, rd_spN, rd_spC, rd_spI, rd_spIII, rd_spS, kNL, kBL, kES, kSB, wipe]
          exact hR H' (Same.refl H')
        · have e : sgsB l = decide ((n : Int) = l.length) := by unfold sgsB; rw [ha]; simp [hd]
          rw [e] at k
          simp [tPar, tPar3, -List.lookup_eq_none_iff, sizeLine_eq, tSl, tPart, tNoPart, rSlS, cut_lo, cut_hi, gc_cons, gn_nil, tJs, tFmt8, S_empty, tTup, tNever, tNext, tM1, tM0, tRet, tRetN, tAndV, tOrV, tNotV, tCall, tMeth, tProp, tVar, tC, tCons, tNil, L2.start, tChain, tTest, rI, rI0, tOp, tUn, tSeq, tIfS, tAnd, tOr, tNot, tB, tIf, tAsg, gName, tDrop, tCB, tFld, rEq, rNe, scal, rIsi_int, rIsi_bl, rIsi_str, rIsi_non, kit_ii, kit_ib, kit_is, kit_bi, kit_bb, kit_bs, kit_si, kit_sb, kit_ss, kit_ni, kit_nb, kit_ns, S_inj, S_app, S_len, S_list, S_one, lit_no, lit_sp, lit_nl, lit_eq, cx_K, ex2, ex3, ex2b, rd_spN, rd_spC, rd_spI, rd_spIII, rd_spS, kNL, kBL, kES, kSB]
          exact k H2 (s1.trans s2)
theorem sc_are_characters : FnScope ["value", "character"] ["value"] (defScope s_are_characters) := ⟨rfl, rfl, rfl, by decide +kernel, rfl, by decide +kernel, by decide +kernel⟩
theorem ok_are_characters (T : Tx K mg) : Fok P w K mg base 1 d_are_characters ["value"] [] (spV (fun l => l.length ≤ 4000) fun l => .bl (chsB l)) := by
  refine fok T.F_are_characters sc_are_characters (fun vs H Q E h => ?_) (fun _ _ _ _ _ _ us hl => match us, hl with | [_], _ => rfl) (fun cdv A outer s H vs Q E hr h => ?_)
  · obtain ⟨i, rfl, _⟩ := h; rfl
  · obtain ⟨l, rfl, hz, k⟩ := h
    have hu := hu_of hr
    refine ⟨_, (pss_cons (ps_if ((pw_or (pt_not (pt_val (pe_callB call_isi (by rfl) T.n_isinstance (by decide +kernel) (pa_cons (pv 0) (pa_cons (pe_tyN (n := "str") T.n_str (by decide +kernel)) pa_nil))))) (pw_or1 (pt_not (pt_val (pe_callB (cr_all (by rfl)) (by rfl) T.n_all (by decide +kernel) (pa_cons (pe_lc (own := [("character", 1)]) (g := gName 1) (by rfl) sc_are_characters.nd (pi_str (pv 0)) (blkOk_by (own := [("character", 1)]) (N := ["value", "character"]) (sc := defScope s_are_characters) (by decide +kernel)) (fun _ _ _ _ _ => pg_name (i := 1) sc_are_characters.nd rfl (Or.inl rfl)) (fun _ _ _ _ _ => pts_nil) (fun _ _ _ _ _ => (pe_cmpR op_in_sign (pv 1) (pe_gS T.s_CHARACTERS) (by with_unfolding_all rfl)))) pa_nil))))))).pt (pss_one (ps_ret pe_bl)) pss_nil)
        (pss_one (ps_ret (pe_cmpR op_eq (pe_callB call_lenK (by rfl) T.n_len PySem.boot_len (pa_cons (pe_scK (own := [("character", 1)]) (g := gName 1) (by rfl) sc_are_characters.nd (pi_str (pv 0)) (blkOk_by (own := [("character", 1)]) (N := ["value", "character"]) (sc := defScope s_are_characters) (by decide +kernel)) (fun _ _ _ _ _ => pg_name (i := 1) sc_are_characters.nd rfl (Or.inl rfl)) (fun _ _ _ _ _ => (pv 1))) pa_nil)) (pe_callB call_len_str (by rfl) T.n_len PySem.boot_len (pa_cons (pv 0) pa_nil)) (nomark _))))), ?_⟩
    have hz2 : Sz l := Nat.le_trans hz (by decide)
    dsimp only at k
    simp [tPar, tPar3, -List.lookup_eq_none_iff, sizeLine_eq, tSl, tPart, tNoPart, rSlS, cut_lo, cut_hi, gc_cons, gn_nil, tJs, tFmt8, S_empty, tTup, tNever, tNext, tM1, tM0, tRet, tRetN, tAndV, tOrV, tNotV, tCall, tMeth, tProp, tVar, tC, tCons, tNil, L2.start, tChain, tTest, rI, rI0, tOp, tUn, tSeq, tIfS, tAnd, tOr, tNot, tB, tIf, tAsg, gName, tDrop, tCB, tFld, rEq, rNe, scal, rIsi_int, rIsi_bl, rIsi_str, rIsi_non, kit_ii, kit_ib, kit_is, kit_bi, kit_bb, kit_bs, kit_si, kit_sb, kit_ss, kit_ni, kit_nb, kit_ns, S_inj, S_app, S_len, S_list, S_one, lit_no, lit_sp, lit_nl, lit_eq, cx_K, ex2, ex3, ex2b, rd_spN, rd_spC, rd_spI, rd_spIII, rd_spS, kNL, kBL, kES, kSB]
    refine lcS (fun c => .bl (decide (c ∈ k_CHARACTERS))) rfl hz2 (fun c H' R hc s' hR => ?_) fun p H1 s1 e1 => ?_
    · refine ⟨rfl, ?_⟩
      simp [tPar, tPar3, -List.lookup_eq_none_iff, sizeLine_eq, tSl, tPart, tNoPart, rSlS, cut_lo, cut_hi, gc_cons, gn_nil, tJs, tFmt8, S_empty, tTup, tNever, tNext, tM1, tM0, tRet, tRetN, tAndV, tOrV, tNotV, tCall, tMeth, tProp, tVar, tC, tCons, tNil, L2.start, tChain, tTest, rI, rI0, tOp, tUn, tSeq, tIfS, tAnd, tOr, tNot, tB, tIf, tAsg, gName, tDrop, tCB, tFld, rEq, rNe, scal, rIsi_int, rIsi_bl, rIsi_str, rIsi_non, kit_ii, kit_ib, kit_is, kit_bi, kit_bb, kit_bs, kit_si, kit_sb, kit_ss, kit_ni, kit_nb, kit_ns, S_inj, S_app, S_len, S_list, S_one, lit_no, lit_sp, lit_nl, lit_eq, cx_K, ex2, ex3, ex2b, rd_spN, rd_spC, rd_spI, rd_spIII, rd_spS, kNL, kBL, kES, kSB, wipe]
      exact hR H' (Same.refl H')
    · refine all_bl e1 ?_
      cases ha : l.all fun c => decide (c ∈ k_CHARACTERS) with
      | false =>
        have e : chsB l = false := by unfold chsB; rw [ha]; rfl
        rw [e] at k
        exact .inl ⟨rfl, k H1 s1⟩
      | true =>
        refine .inr ⟨rfl, ?_⟩
        refine scS rfl hz (fun c H' R s' hR => ⟨rfl, ?_⟩) fun D H2 S0 n s2 e2 hn hd => ⟨D, S0, n, rfl, e2, hn, by omega, rfl, ?_⟩
        · simp [tPar, tPar3, -List.lookup_eq_none_iff, sizeLine_eq, tSl, tPart, tNoPart, rSlS, cut_lo, cut_hi, gc_cons, gn_nil, tJs, tFmt8, S_empty, tTup, tNever, tNext, tM1, tM0, tRet, tRetN, tAndV, tOrV, tNotV, tCall, tMeth, tProp, tVar, tC, tCons, tNil, L2.start, tChain, tTest, rI, rI0, tOp, tUn, tSeq, tIfS, tAnd, tOr, tNot, tB, tIf, tAsg, gName, tDrop, tCB, tFld, rEq, rNe, scal, rIsi_int, rIsi_bl, rIsi_str, rIsi_non, kit_ii, kit_ib, kit_is, kit_bi, kit_bb, kit_bs, kit_si, kit_sb, kit_ss, kit_ni, kit_nb, kit_ns, S_inj, S_app, S_len, S_list, S_one, lit_no, lit_sp, lit_nl, lit_eq, cx_K, ex2, ex3, ex2b, rd_spN, rd_spC, rd_spI, rd_spIII, rd_spS, kNL, kBL, kES, kSB, wipe]
          exact hR H' (Same.refl H')
        · have e : chsB l = decide ((n : Int) = l.length) := by unfold chsB; rw [ha]; simp [hd]
          rw [e] at k
          simp [tPar, tPar3, -List.lookup_eq_none_iff, sizeLine_eq, tSl, tPart, tNoPart, rSlS, cut_lo, cut_hi, gc_cons, gn_nil, tJs, tFmt8, S_empty, tTup, tNever, tNext, tM1, tM0, tRet, tRetN, tAndV, tOrV, tNotV, tCall, tMeth, tProp, tVar, tC, tCons, tNil, L2.start, tChain, tTest, rI, rI0, tOp, tUn, tSeq, tIfS, tAnd, tOr, tNot, tB, tIf, tAsg, gName, tDrop, tCB, tFld, rEq, rNe, scal, rIsi_int, rIsi_bl, rIsi_str, rIsi_non, kit_ii, kit_ib, kit_is, kit_bi, kit_bb, kit_bs, kit_si, kit_sb, kit_ss, kit_ni, kit_nb, kit_ns, S_inj, S_app, S_len, S_list, S_one, lit_no, lit_sp, lit_nl, lit_eq, cx_K, ex2, ex3, ex2b, rd_spN, rd_spC, rd_spI, rd_spIII, rd_spS, kNL, kBL, kES, kSB]
          exact k H2 (s1.trans s2)
def OptV (nm : Str) (v : V) (b : Bool) : Prop := (nm = "pads" ∧ ∃ z, v = .str z ∧ b = decide (z ∈ (["full", "none", "optional", "any"] : List Str))) ∨ (nm = "skip" ∧ ∃ l, v = Pt.vs l ∧ l.length ≤ 4000 ∧ b = chsB l) ∨
  (nm ≠ "pads" ∧ nm ≠ "skip" ∧ ∃ c, v = .bl c ∧ b = true)
theorem sc_is_option : FnScope ["name", "value"] ["name", "value"] (defScope s_is_option) := ⟨rfl, rfl, rfl, by decide +kernel, rfl, by decide +kernel, by decide +kernel⟩
theorem ok_is_option (T : Tx K mg) : Fok P w K mg base 2 d_is_option ["name", "value"] [] (fun us H Q _ => ∃ nm v b, us = [.str nm, v] ∧ OptV nm v b ∧ Val H (.bl b) Q) := by
  refine fok T.F_is_option sc_is_option (fun vs H Q E h => ?_) (fun _ _ _ _ _ _ us hl => match us, hl with | [_, _], _ => rfl) (fun cdv A outer s H vs Q E hr h => ?_)
  · obtain ⟨i, v, b, rfl, _⟩ := h; rfl
  · obtain ⟨nm, v, b, rfl, ho, k⟩ := h
    have hu := hu_of hr
    refine ⟨_, (pss_cons (ps_if (pt_cmpR op_eq (pv 0) pe_str (nomark _)) (pss_one (ps_ret (pe_and (pe_callB call_isi (by rfl) T.n_isinstance (by decide +kernel) (pa_cons (pv 1) (pa_cons (pe_tyN (n := "str") T.n_str (by decide +kernel)) pa_nil))) (pe_one (pe_cmpR op_in_seq (pv 1) (pe_gR T.g_PADS) (by with_unfolding_all rfl)))))) pss_nil)
        (pss_cons (ps_if (pt_cmpR op_eq (pv 0) pe_str (nomark _)) (pss_one (ps_ret (pe_cF (ok_are_characters T) (hr.mono (by decide)) T.g_are_characters (pa_cons (pv 1) pa_nil)))) pss_nil)
        (pss_one (ps_ret (pe_callB call_isi (by rfl) T.n_isinstance (by decide +kernel) (pa_cons (pv 1) (pa_cons (pe_tyN (n := "bool") T.n_bool (by decide +kernel)) pa_nil))))))), ?_⟩
    rcases ho with ⟨rfl, z, rfl, rfl⟩ | ⟨rfl, l, rfl, hl, rfl⟩ | ⟨h1, h2, c, rfl, rfl⟩
    · simp [tPar, tPar3, -List.lookup_eq_none_iff, sizeLine_eq, tSl, tPart, tNoPart, rSlS, cut_lo, cut_hi, gc_cons, gn_nil, tJs, tFmt8, S_empty, tTup, tNever, tNext, tM1, tM0, tRet, tRetN, tAndV, tOrV, tNotV, tCall, tMeth, tProp, tVar, tC, tCons, tNil, L2.start, tChain, tTest, rI, rI0, tOp, tUn, tSeq, tIfS, tAnd, tOr, tNot, tB, tIf, tAsg, gName, tDrop, tCB, tFld, rEq, rNe, scal, rIsi_int, rIsi_bl, rIsi_str, rIsi_non, kit_ii, kit_ib, kit_is, kit_bi, kit_bb, kit_bs, kit_si, kit_sb, kit_ss, kit_ni, kit_nb, kit_ns, S_inj, S_app, S_len, S_list, S_one, lit_no, lit_sp, lit_nl, lit_eq, cx_K, ex2, ex3, ex2b, rd_spN, rd_spC, rd_spI, rd_spIII, rd_spS, kNL, kBL, kES, kSB]
      refine ⟨_, _, rfl, .inr (T.t_PADS H), rfl, rfl, ?_⟩
      have e : inV (V.str z) [.str "full", .str "none", .str "optional", .str "any"] = decide (z ∈ (["full", "none", "optional", "any"] : List Str)) := by
        rw [Bool.eq_iff_iff]
        simp [inV, eqV, beq_iff_eq]
        simp only [eq_comm]
      rw [e]
      exact k H (Same.refl H)
    · have e : ("skip" : Str) ≠ "pads" := by decide +kernel
      simp [tPar, tPar3, -List.lookup_eq_none_iff, sizeLine_eq, tSl, tPart, tNoPart, rSlS, cut_lo, cut_hi, gc_cons, gn_nil, tJs, tFmt8, S_empty, tTup, tNever, tNext, tM1, tM0, tRet, tRetN, tAndV, tOrV, tNotV, tCall, tMeth, tProp, tVar, tC, tCons, tNil, L2.start, tChain, tTest, rI, rI0, tOp, tUn, tSeq, tIfS, tAnd, tOr, tNot, tB, tIf, tAsg, gName, tDrop, tCB, tFld, rEq, rNe, scal, rIsi_int, rIsi_bl, rIsi_str, rIsi_non, kit_ii, kit_ib, kit_is, kit_bi, kit_bb, kit_bs, kit_si, kit_sb, kit_ss, kit_ni, kit_nb, kit_ns, S_inj, S_app, S_len, S_list, S_one, lit_no, lit_sp, lit_nl, lit_eq, cx_K, ex2, ex3, ex2b, rd_spN, rd_spC, rd_spI, rd_spIII, rd_spS, kNL, kBL, kES, kSB, e]
      exact ⟨l, rfl, hl, k⟩
    · simp [tPar, tPar3, -List.lookup_eq_none_iff, sizeLine_eq, tSl, tPart, tNoPart, rSlS, cut_lo, cut_hi, gc_cons, gn_nil, tJs, tFmt8, S_empty, tTup, tNever, tNext, tM1, tM0, tRet, tRetN, tAndV, tOrV, tNotV, tCall, tMeth, tProp, tVar, tC, tCons, tNil, L2.start, tChain, tTest, rI, rI0, tOp, tUn, tSeq, tIfS, tAnd, tOr, tNot, tB, tIf, tAsg, gName, tDrop, tCB, tFld, rEq, rNe, scal, rIsi_int, rIsi_bl, rIsi_str, rIsi_non, kit_ii, kit_ib, kit_is, kit_bi, kit_bb, kit_bs, kit_si, kit_sb, kit_ss, kit_ni, kit_nb, kit_ns, S_inj, S_app, S_len, S_list, S_one, lit_no, lit_sp, lit_nl, lit_eq, cx_K, ex2, ex3, ex2b, rd_spN, rd_spC, rd_spI, rd_spIII, rd_spS, kNL, kBL, kES, kSB, h1, h2]
      exact k H (Same.refl H)
/-- what stood at other places than x stands -/
def SameX (x : Addr) (H H' : Hp) : Prop := ∀ b u, b ≠ x → H b = some u → H' b = some u
def spRInit (K : Fg) : Sp := fun us H Q _ => ∃ x z l o f dx, us = [.ref x, .str z, Pt.vs [], .bl l, .bl o, .bl f] ∧ z ∈ (["full", "none", "optional", "any"] : List Str) ∧ H x = some (.ins (CR K) dx []) ∧ ∀ H', SameX x H H' → Ro K H' x ⟨l, o, f⟩ → Q .non H'
def optK (z : Str) (l o f : Bool) : List (Key × V) := [(Sum.inr "pads", .str z), (Sum.inr "skip", Pt.vs []), (Sum.inr "lines", .bl l), (Sum.inr "loose", .bl o), (Sum.inr "fold", .bl f)]
theorem optK_merge (z : Str) (l o f : Bool) : mergeK [] (optK z l o f) = optK z l o f := by rfl
theorem optK_skip (z : Str) (l o f : Bool) : valV (optK z l o f) (Sum.inr "skip") = some (Pt.vs []) := by rfl
theorem optK_lines (z : Str) (l o f : Bool) : valV (optK z l o f) (Sum.inr "lines") = some (.bl l) := by rfl
theorem optK_loose (z : Str) (l o f : Bool) : valV (optK z l o f) (Sum.inr "loose") = some (.bl o) := by rfl
theorem optK_fold (z : Str) (l o f : Bool) : valV (optK z l o f) (Sum.inr "fold") = some (.bl f) := by rfl
theorem optK_pads (z : Str) (l o f : Bool) : valV (optK z l o f) (Sum.inr "pads") = some (.str z) := by rfl
theorem optK_get {z : Str} {l o f : Bool} (hz : z ∈ (["full", "none", "optional", "any"] : List Str)) : ∀ (i : Nat) (x : V), ([.str "pads", .str "skip", .str "lines", .str "loose", .str "fold"] : List V)[i]? = some x →
    ∃ nm v, x = .str nm ∧ valV (optK z l o f) (Sum.inr nm) = some v ∧ OptV nm v true
  | 0, x, h => by cases h; exact ⟨_, _, rfl, optK_pads z l o f, .inl ⟨rfl, z, rfl, (decide_eq_true hz).symm⟩⟩
  | 1, x, h => by cases h; exact ⟨_, _, rfl, optK_skip z l o f, .inr (.inl ⟨rfl, [], rfl, by decide, by decide +kernel⟩)⟩
  | 2, x, h => by cases h; exact ⟨_, _, rfl, optK_lines z l o f, .inr (.inr ⟨by decide +kernel, by decide +kernel, l, rfl, rfl⟩)⟩
  | 3, x, h => by cases h; exact ⟨_, _, rfl, optK_loose z l o f, .inr (.inr ⟨by decide +kernel, by decide +kernel, o, rfl, rfl⟩)⟩
  | 4, x, h => by cases h; exact ⟨_, _, rfl, optK_fold z l o f, .inr (.inr ⟨by decide +kernel, by decide +kernel, f, rfl, rfl⟩)⟩
  | i + 5, x, h => by cases h
theorem Same.sameX {x : Addr} {H H' : Hp} (h : Same H H') : SameX x H H' := fun b u _ e => h b u e
theorem SameX.upd {x : Addr} {H H' : Hp} {o : HO} (h : SameX x H H') : SameX x H (upd H' x o) := fun b u n e => by rw [upd_ne n]; exact h b u n e
theorem sc_Rules_init : FnScope ["self", "pads", "skip", "lines", "loose", "fold", "name"] ["self", "pads", "skip", "lines", "loose", "fold"] (defScope s_Rules_init) := ⟨rfl, rfl, rfl, by decide +kernel, rfl, by decide +kernel, by decide +kernel⟩
theorem Rules_init_fn (T : Tx K mg) {z : FuncData} (F : d_Rules_init.Is K z) : FnOk P w K mg base CX0 3 (d_Rules_init.adr K) z ["self", "pads", "skip", "lines", "loose", "fold"] (spRInit K) := by
  refine fnk F sc_Rules_init (fun vs H Q E h => ?_) (fun cdv A outer s H vs Q E hr h => ?_)
  · obtain ⟨x, z, l, o, f, dx, rfl, _⟩ := h; rfl
  · obtain ⟨x, z, l, o, f, dx, rfl, hz, hx, k⟩ := h
    have hu := hu_of hr
    refine ⟨_, (pss_cons (ps_fld (pv 0) (pe_disp (pps_cons pe_str (pv 1) (pps_cons pe_str (pv 2) (pps_cons pe_str (pv 3) (pps_cons pe_str (pv 4) (pps_cons pe_str (pv 5) pps_nil))))) (by rfl) (by rfl) (fun z => by cases z) (by decide)) rfl)
        (pss_one (ps_for PassesOwn.never rfl (pi_tup (pe_gR T.g_OPTIONS)) (pg_name (i := 6) sc_Rules_init.nd rfl (Or.inl rfl)) (pss_one (ps_if (pt_not (pt_val (pe_cF (ok_is_option T) (hr.mono (by decide)) T.g_is_option (pa_cons (pv 6) (pa_cons (pe_dget hu (pe_fld (pv 0) rfl) (pv 6) (fun _ _ => rfl)) pa_nil))))) (pss_one ps_never) pss_nil))))), ?_⟩
    simp [tPar, tPar3, -List.lookup_eq_none_iff, sizeLine_eq, tSl, tPart, tNoPart, rSlS, cut_lo, cut_hi, gc_cons, gn_nil, tJs, tFmt8, S_empty, tTup, tNever, tNext, tM1, tM0, tRet, tRetN, tAndV, tOrV, tNotV, tCall, tMeth, tProp, tVar, tC, tCons, tNil, L2.start, tChain, tTest, rI, rI0, tOp, tUn, tSeq, tIfS, tAnd, tOr, tNot, tB, tIf, tAsg, gName, tDrop, tCB, tFld, rEq, rNe, scal, rIsi_int, rIsi_bl, rIsi_str, rIsi_non, kit_ii, kit_ib, kit_is, kit_bi, kit_bb, kit_bs, kit_si, kit_sb, kit_ss, kit_ni, kit_nb, kit_ns, S_inj, S_app, S_len, S_list, S_one, lit_no, lit_sp, lit_nl, lit_eq, cx_K, ex2, ex3, ex2b, rd_spN, rd_spC, rd_spI, rd_spIII, rd_spS, kNL, kBL, kES, kSB, sFld]
    intro p hp
    simp [tPar, tPar3, -List.lookup_eq_none_iff, sizeLine_eq, tSl, tPart, tNoPart, rSlS, cut_lo, cut_hi, gc_cons, gn_nil, tJs, tFmt8, S_empty, tTup, tNever, tNext, tM1, tM0, tRet, tRetN, tAndV, tOrV, tNotV, tCall, tMeth, tProp, tVar, tC, tCons, tNil, L2.start, tChain, tTest, rI, rI0, tOp, tUn, tSeq, tIfS, tAnd, tOr, tNot, tB, tIf, tAsg, gName, tDrop, tCB, tFld, rEq, rNe, scal, rIsi_int, rIsi_bl, rIsi_str, rIsi_non, kit_ii, kit_ib, kit_is, kit_bi, kit_bb, kit_bs, kit_si, kit_sb, kit_ss, kit_ni, kit_nb, kit_ns, S_inj, S_app, S_len, S_list, S_one, lit_no, lit_sp, lit_nl, lit_eq, cx_K, ex2, ex3, ex2b, rd_spN, rd_spC, rd_spI, rd_spIII, rd_spS, kNL, kBL, kES, kSB, tPairs]
    refine ⟨upd_same, optK z l o f, rfl, Nat.le_of_ble_eq_true rfl, ?_⟩
    rw [optK_merge]
    have px : p ≠ x := fun e => by subst e; rw [hx] at hp; cases hp
    refine ⟨CR K, dx, [], by rw [upd_ne px.symm, upd_ne px.symm]; exact hx, T.c_Rules, T.a_Rules_options, by decide, ?_⟩
    generalize hG : upd (upd (upd H p (.dK [])) p (.dK (optK z l o f))) x (.ins (CR K) dx (putF "options" (.ref p) [])) = H1
    have g1 : H1 x = some (.ins (CR K) dx [("options", .ref p)]) := by rw [← hG]; exact upd_same
    have g2 : H1 p = some (.dK (optK z l o f)) := by rw [← hG, upd_ne px]; exact upd_same
    have g3 : SameX x H H1 := by
      rw [← hG]
      exact SameX.upd (Same.sameX (same_put hp (same_upd hp)))
    refine ⟨_, rfl, ⟨_, T.t_OPTIONS H1⟩, for_tup (K := K) (xs := _) (fun i σ H' => ∃ v, σ = [some (.ref x), some (.str z), some (Pt.vs []), some (.bl l), some (.bl o), some (.bl f), v] ∧ Same H1 H') ⟨none, rfl, Same.refl H1⟩ (fun i σ H' _ _ => T.t_OPTIONS H') ?_ ?_⟩
    · rintro i y σ H2 hi ⟨v, rfl, s2⟩
      obtain ⟨nm, v1, rfl, e1, e2⟩ := optK_get (z := z) (l := l) (o := o) (f := f) hz i y hi
      simp [tPar, tPar3, -List.lookup_eq_none_iff, sizeLine_eq, tSl, tPart, tNoPart, rSlS, cut_lo, cut_hi, gc_cons, gn_nil, tJs, tFmt8, S_empty, tTup, tNever, tNext, tM1, tM0, tRet, tRetN, tAndV, tOrV, tNotV, tCall, tMeth, tProp, tVar, tC, tCons, tNil, L2.start, tChain, tTest, rI, rI0, tOp, tUn, tSeq, tIfS, tAnd, tOr, tNot, tB, tIf, tAsg, gName, tDrop, tCB, tFld, rEq, rNe, scal, rIsi_int, rIsi_bl, rIsi_str, rIsi_non, kit_ii, kit_ib, kit_is, kit_bi, kit_bb, kit_bs, kit_si, kit_sb, kit_ss, kit_ni, kit_nb, kit_ns, S_inj, S_app, S_len, S_list, S_one, lit_no, lit_sp, lit_nl, lit_eq, cx_K, ex2, ex3, ex2b, rd_spN, rd_spC, rd_spI, rd_spIII, rd_spS, kNL, kBL, kES, kSB]
      exact ⟨_, rfl, x, _, dx, _, _, rfl, s2 _ _ g1, T.c_Rules, T.a_Rules_options, rfl, _, rfl, p, v1, rfl, dget_at (s2 _ _ g2) e1, .inr ⟨e2, fun H3 s3 => ⟨rfl, s2.trans s3⟩⟩⟩
    · rintro σ H2 ⟨v, rfl, s2⟩
      refine k H2 (fun b u n e => s2 _ _ (g3 b u n e)) ⟨dx, _, p, _, s2 _ _ g1, rfl, rfl, s2 _ _ g2, optK_skip z l o f, optK_lines z l o f, optK_loose z l o f, optK_fold z l o f⟩
theorem ok_Rules_init_0 (T : Tx K mg) : Fok P w K mg base 3 d_Rules_init ["self", "pads", "skip", "lines", "loose", "fold"] [.str "full", Pt.vs [], .bl true, .bl false, .bl false] (spRInit K) := by
  obtain ⟨z, F⟩ := T.F_Rules_init
  obtain ⟨ds, h1, h2⟩ := F.binds0 (ps := ["self", "pads", "skip", "lines", "loose", "fold"]) 1 (by intro h; cases h) rfl (fun D doc pm an cdv ct us ks hu hk => by
    match us, hu, ks, hk with
    | [u], _, [a, b, c, d, e], _ => exact ⟨_, _, _, _, _, _, rfl, rfl, _, _, _, _, _, _, rfl, rfl, _, _, _, _, _, _, rfl, rfl, _, _, _, _, _, _, rfl, rfl, _, _, _, _, _, _, rfl, rfl, rfl⟩)
  exact ⟨⟨z, ds, Rules_init_fn T F, h1, h2⟩, F.kp⟩
theorem ok_Rules_init_pllf (T : Tx K mg) : FokK P w K mg base 3 d_Rules_init ["self", "pads", "skip", "lines", "loose", "fold"] ["pads", "lines", "loose", "fold"] (fun vs zs => vs ++ (zs.take 1 ++ ([Pt.vs []] ++ zs.drop 1))) (spRInit K) := by
  obtain ⟨z, F⟩ := T.F_Rules_init
  obtain ⟨mv, hb⟩ := F.kbinds0 (ps := ["self", "pads", "skip", "lines", "loose", "fold"]) 1 ["pads", "lines", "loose", "fold"] [("skip", Pt.vs [])] (fun us ms zs => us ++ (zs.take 1 ++ (ms ++ zs.drop 1))) (by intro h; cases h) (by intro q hq; simp at hq; subst hq; exact .tail _ (.head _))
    (fun r1 r2 r3 => r1.append ((vals_take 1 r3).append (r2.append (vals_drop 1 r3))))
    (fun D doc pm an cdv ct us mv ws hu hm hw => by
      match us, hu, mv, hm, ws, hw with
      | [u], _, [m], _, [a, b, c, d], _ => exact ⟨_, _, _, _, _, _, rfl, rfl, rfl⟩)
  exact ⟨⟨z, _, Rules_init_fn T F, hb⟩⟩
end
end K45
end
section
namespace K45
open PySem PySem.Spec PyProof.Rows L2 Pt
/-- what a quoted code may be -/
def QOk (q : QC) : Prop := (q.w = 0 ∨ 4 ≤ q.w ∧ q.w ≤ 76) ∧ sgsB q.a = true ∧ q.a.length ≤ 4000
theorem ite_both {c p q : Prop} [Decidable c] (hp : c → p) (h : q) : if c then p ∧ q else q := by
  split
  · rename_i hc; exact ⟨hp hc, h⟩
  · exact h
section
variable {P : Program} {w : World} {K : Fg} {mg : Str → Option Value} {base : Heap}
def spQInit (K : Fg) : Sp := fun us H Q _ => ∃ x q dx, us = [.ref x, .int q.w, .bl q.b, Pt.vs q.a] ∧ QOk q ∧ H x = some (.ins (CQ K) dx []) ∧ ∀ H', SameX x H H' → Qo K H' x q → Q .non H'
theorem sc_Quoted_init : FnScope ["self", "width", "binary", "also", "byte"] ["self", "width", "binary", "also"] (defScope s_Quoted_init) := ⟨rfl, rfl, rfl, by decide +kernel, rfl, by decide +kernel, by decide +kernel⟩
theorem Quoted_init_fn (T : Tx K mg) {z : FuncData} (F : d_Quoted_init.Is K z) : FnOk P w K mg base CX0 6 (d_Quoted_init.adr K) z ["self", "width", "binary", "also"] (spQInit K) := by
  refine fnk F sc_Quoted_init (fun vs H Q E h => ?_) (fun cdv A outer s H vs Q E hr h => ?_)
  · obtain ⟨x, q, dx, rfl, _⟩ := h; rfl
  · obtain ⟨x, q, dx, rfl, hq, hx, k⟩ := h
    have hu := hu_of hr
    refine ⟨_, (pss_cons (ps_if ((pw_or (pt_not (pt_val (pe_cF (ok_is_within T) (hr.mono (by decide)) T.g_is_within (pa_cons (pv 1) (pa_cons pe_int (pa_cons (pe_gI T.i_WIDEST) pa_nil)))))) (pw_or1 (pt_chain op_lt op_lt pe_int (pv 1) (pe_gI T.i_LEAST_WIDTH))))).pt (pss_one ps_never) pss_nil)
        (pss_cons (ps_if (pt_not (pt_val (pe_callB call_isi (by rfl) T.n_isinstance (by decide +kernel) (pa_cons (pv 2) (pa_cons (pe_tyN (n := "bool") T.n_bool (by decide +kernel)) pa_nil))))) (pss_one ps_never) pss_nil)
        (pss_cons (ps_if (pt_not (pt_val (pe_cF (ok_are_signs T) (hr.mono (by decide)) T.g_are_signs (pa_cons (pv 3) pa_nil)))) (pss_one ps_never) pss_nil)
        (pss_cons (ps_fld (pv 0) (pe_tup (pa_cons (pv 1) (pa_cons (pv 2) (pa_cons (pv 3) pa_nil)))) rfl)
        (pss_one (ps_fld (pv 0) (pe_lc (own := [("byte", 4)]) (g := gName 4) (by rfl) sc_Quoted_init.nd (pi_range1 rfl T.n_range (pa_cons pe_int pa_nil)) (blkOk_by (own := [("byte", 4)]) (N := ["self", "width", "binary", "also", "byte"]) (sc := defScope s_Quoted_init) (by decide +kernel)) (fun _ _ _ _ _ => pg_name (i := 4) sc_Quoted_init.nd rfl (Or.inl rfl)) (fun _ _ _ _ _ => pts_nil) (fun _ _ _ _ _ => (pe_mF (ok_Quoted_item_of T) (hr.mono (by decide)) T.c_Quoted T.m_Quoted_item_of (pv 0) (pa_cons (pv 4) pa_nil)))) rfl)))))), ?_⟩
    obtain ⟨hw, ha, hl⟩ := id hq
    have e1 : (0 ≤ q.w ∧ q.w ≤ 76) = True := eq_true (by omega)
    have e2 : (0 < q.w ∧ q.w < 4) = False := eq_false (by omega)
    simp [tPar, tPar3, -List.lookup_eq_none_iff, sizeLine_eq, tSl, tPart, tNoPart, rSlS, cut_lo, cut_hi, gc_cons, gn_nil, tJs, tFmt8, S_empty, tTup, tNever, tNext, tM1, tM0, tRet, tRetN, tAndV, tOrV, tNotV, tCall, tMeth, tProp, tVar, tC, tCons, tNil, L2.start, tChain, tTest, rI, rI0, tOp, tUn, tSeq, tIfS, tAnd, tOr, tNot, tB, tIf, tAsg, gName, tDrop, tCB, tFld, rEq, rNe, scal, rIsi_int, rIsi_bl, rIsi_str, rIsi_non, kit_ii, kit_ib, kit_is, kit_bi, kit_bb, kit_bs, kit_si, kit_sb, kit_ss, kit_ni, kit_nb, kit_ns, S_inj, S_app, S_len, S_list, S_one, lit_no, lit_sp, lit_nl, lit_eq, cx_K, ex2, ex3, ex2b, rd_spN, rd_spC, rd_spI, rd_spIII, rd_spS, kNL, kBL, kES, kSB, sFld, e1, e2]
    refine ite_both (fun h => by omega) ⟨q.a, rfl, hl, fun H1 s1 => ?_⟩
    dsimp only
    rw [ha]
    refine ⟨rfl, fun p hp => ?_⟩
    have hx1 := s1 _ _ hx
    have px : p ≠ x := fun e => by subst e; rw [hx1] at hp; cases hp
    refine ⟨CQ K, dx, [], by rw [upd_ne px.symm]; exact hx1, T.c_Quoted, T.a_Quoted_ways, by decide, ?_⟩
    generalize hG : upd (upd H1 p (.tup [.int q.w, .bl q.b, Pt.vs q.a])) x (.ins (CQ K) dx (putF "ways" (.ref p) [])) = H2
    have g1 : H2 x = some (.ins (CQ K) dx [("ways", .ref p)]) := by rw [← hG]; exact upd_same
    have g2 : H2 p = some (.tup [.int q.w, .bl q.b, Pt.vs q.a]) := by rw [← hG, upd_ne px]; exact upd_same
    have g3 : SameX x H H2 := by
      rw [← hG]
      exact SameX.upd (Same.sameX (s1.trans (same_upd hp)))
    have nm : NoM [(("ways" : Str), V.ref p)] := ⟨by
      intro m hm
      have := hm
      simp at hm
      rcases hm with rfl | rfl | rfl | rfl | rfl | rfl | rfl | rfl | rfl | rfl | rfl | rfl | rfl | rfl | rfl | rfl | rfl | rfl | rfl | rfl <;> rfl⟩
    have nm2 : ∀ D, NoM [(("ways" : Str), V.ref p), ("known_items", V.ref D)] := fun D => ⟨by
      intro m hm
      simp at hm
      rcases hm with rfl | rfl | rfl | rfl | rfl | rfl | rfl | rfl | rfl | rfl | rfl | rfl | rfl | rfl | rfl | rfl | rfl | rfl | rfl | rfl <;> rfl⟩
    have W2 : Wy K H2 x q := ⟨dx, _, p, g1, rfl, g2, nm⟩
    refine lcRng (n := 256) (fun n => Pt.vs (item q n)) (fun R h => h) (by decide) (fun i H3 R hi s3 hR => ⟨rfl, ?_⟩) fun D H3 s3 e3 => ?_
    · simp [tPar, tPar3, -List.lookup_eq_none_iff, sizeLine_eq, tSl, tPart, tNoPart, rSlS, cut_lo, cut_hi, gc_cons, gn_nil, tJs, tFmt8, S_empty, tTup, tNever, tNext, tM1, tM0, tRet, tRetN, tAndV, tOrV, tNotV, tCall, tMeth, tProp, tVar, tC, tCons, tNil, L2.start, tChain, tTest, rI, rI0, tOp, tUn, tSeq, tIfS, tAnd, tOr, tNot, tB, tIf, tAsg, gName, tDrop, tCB, tFld, rEq, rNe, scal, rIsi_int, rIsi_bl, rIsi_str, rIsi_non, kit_ii, kit_ib, kit_is, kit_bi, kit_bb, kit_bs, kit_si, kit_sb, kit_ss, kit_ni, kit_nb, kit_ns, S_inj, S_app, S_len, S_list, S_one, lit_no, lit_sp, lit_nl, lit_eq, cx_K, ex2, ex3, ex2b, rd_spN, rd_spC, rd_spI, rd_spIII, rd_spS, kNL, kBL, kES, kSB, wipe, s3 _ _ g1, nm.item_of, rd_spQN (W2.same s3), hi]
      exact hR H3 (Same.refl H3)
    · refine ⟨CQ K, dx, _, s3 _ _ g1, T.c_Quoted, T.a_Quoted_known_items, Nat.lt_of_lt_of_le (by decide : 1 < 1000) (by decide), ?_⟩
      have xD : D ≠ x := fun e => by subst e; rw [s3 _ _ g1] at e3; cases e3
      have xp : p ≠ x := px
      refine k _ (SameX.upd fun b u n e => s3 _ _ (g3 b u n e)) ⟨dx, _, p, D, upd_same, rfl, ?_, nm2 D, rfl, ?_⟩
      · rw [upd_ne xp]; exact s3 _ _ g2
      · rw [upd_ne xD]; exact e3
theorem ok_Quoted_init_wba (T : Tx K mg) : FokK P w K mg base 6 d_Quoted_init ["self", "width", "binary", "also"] ["width", "binary", "also"] (fun vs zs => vs ++ ([] ++ zs)) (spQInit K) := by
  obtain ⟨z, F⟩ := T.F_Quoted_init
  obtain ⟨mv, hb⟩ := F.kbinds0 (ps := ["self", "width", "binary", "also"]) 1 ["width", "binary", "also"] [] (fun us ms zs => us ++ (ms ++ zs)) (by intro h; cases h) (by intro q hq; cases hq)
    (fun r1 r2 r3 => r1.append (r2.append r3))
    (fun D doc pm an cdv ct us mv ws hu hm hw => by
      match us, hu, mv, hm, ws, hw with
      | [u], _, [], _, [a, b, c], _ => rfl)
  exact ⟨⟨z, _, Quoted_init_fn T F, hb⟩⟩
def spUsual (K : Fg) : Sp := fun us H Q _ => ∃ c q, us = [.ref c] ∧ Wy K H c q ∧ ∀ r H', Same H H' → Ro K H' r ⟨true, false, false⟩ → H r = none → Q (.ref r) H'
theorem sc_Quoted_usual : FnScope ["self"] ["self"] (defScope s_Quoted_usual) := ⟨rfl, rfl, rfl, by decide +kernel, rfl, by decide +kernel, by decide +kernel⟩
theorem ok_Quoted_usual (T : Tx K mg) : Fok P w K mg base 5 d_Quoted_usual ["self"] [] (spUsual K) := by
  refine fok T.F_Quoted_usual sc_Quoted_usual (fun vs H Q E h => ?_) (fun _ _ _ _ _ _ us hl => match us, hl with | [_], _ => rfl) (fun cdv A outer s H vs Q E hr h => ?_)
  · obtain ⟨c, q, rfl, _⟩ := h; rfl
  · obtain ⟨c, q, rfl, W, k⟩ := h
    have hu := hu_of hr
    refine ⟨_, (pss_one (ps_ret (pe_mk0 (ok_Rules_init_0 T) (hr.mono (by decide)) T.k_Rules T.g_Rules))), ?_⟩
    simp [tPar, tPar3, -List.lookup_eq_none_iff, sizeLine_eq, tSl, tPart, tNoPart, rSlS, cut_lo, cut_hi, gc_cons, gn_nil, tJs, tFmt8, S_empty, tTup, tNever, tNext, tM1, tM0, tRet, tRetN, tAndV, tOrV, tNotV, tCall, tMeth, tProp, tVar, tC, tCons, tNil, L2.start, tChain, tTest, rI, rI0, tOp, tUn, tSeq, tIfS, tAnd, tOr, tNot, tB, tIf, tAsg, gName, tDrop, tCB, tFld, rEq, rNe, scal, rIsi_int, rIsi_bl, rIsi_str, rIsi_non, kit_ii, kit_ib, kit_is, kit_bi, kit_bb, kit_bs, kit_si, kit_sb, kit_ss, kit_ni, kit_nb, kit_ns, S_inj, S_app, S_len, S_list, S_one, lit_no, lit_sp, lit_nl, lit_eq, cx_K, ex2, ex3, ex2b, rd_spN, rd_spC, rd_spI, rd_spIII, rd_spS, kNL, kBL, kES, kSB, tMake]
    intro x dx hx hdx hn
    have a2 : Same H (upd (upd H dx (.own x)) x (.ins (CR K) dx [])) := same_put hx (same_upd hdx)
    refine ⟨x, "full", true, false, false, dx, rfl, .head _, upd_same, fun H' s' R => ⟨rfl, ?_⟩⟩
    have s2 : Same H H' := fun b u e => s' b u (ne_of_none e hx) (a2 b u e)
    exact k x H' s2 R hx
end
end K45
end
section
namespace K45
open PySem PySem.Spec PyProof.Rows L2 Pt
def usualR : RC := ⟨true, false, false⟩
section
variable {P : Program} {w : World} {K : Fg} {mg : Str → Option Value} {base : Heap}
/-- rules, or None for the usual ones: v stands for u -/
def RuV (K : Fg) (H : Hp) (v : V) (u : RC) : Prop := (∃ r, v = .ref r ∧ Ro K H r u) ∨ (v = .non ∧ u = usualR)
def spRulesFor (K : Fg) : Sp := fun us H Q _ => ∃ c q v u, us = [.ref c, v] ∧ Wy K H c q ∧ RuV K H v u ∧ ∀ r H', Same H H' → Ro K H' r u → Q (.ref r) H'
theorem sc_rules_for : FnScope ["code", "rules", "found"] ["code", "rules"] (defScope s_rules_for) := ⟨rfl, rfl, rfl, by decide +kernel, rfl, by decide +kernel, by decide +kernel⟩
theorem ok_rules_for (T : Tx K mg) : Fok P w K mg base 6 d_rules_for ["code", "rules"] [] (spRulesFor K) := by
  refine fok T.F_rules_for sc_rules_for (fun vs H Q E h => ?_) (fun _ _ _ _ _ _ us hl => match us, hl with | [_, _], _ => rfl) (fun cdv A outer s H vs Q E hr h => ?_)
  · obtain ⟨c, q, v, u, rfl, _⟩ := h; rfl
  · obtain ⟨c, q, v, u, rfl, W, hv, k⟩ := h
    obtain ⟨dx, fs, t, h1, h2, h3, h4⟩ := id W
    refine ⟨_, (pss_cons (ps_set (i := 2) sc_rules_for.nd rfl (Or.inl rfl) (pe_ifExp (pt_cmpR op_isN (pv 1) pe_non (nomark _)) (pe_mF0 (ok_Quoted_usual T) (hr.mono (by decide)) T.c_Quoted T.m_Quoted_usual (pv 0)) (pv 1)))
        (pss_cons (ps_if (pt_not (pt_val (pe_mF (ok_Rules_suit T) (hr.mono (by decide)) T.c_Rules T.m_Rules_suit (pv 2) (pa_cons (pv 0) pa_nil)))) (pss_one ps_never) pss_nil)
        (pss_one (ps_ret (pv 2))))), ?_⟩
    rcases hv with ⟨r, rfl, R⟩ | ⟨rfl, rfl⟩
    · obtain ⟨dx', fs', d, kvs, g1, g2, g3, g4, g5⟩ := id R
      simp [tPar, tPar3, -List.lookup_eq_none_iff, sizeLine_eq, tSl, tPart, tNoPart, rSlS, cut_lo, cut_hi, gc_cons, gn_nil, tJs, tFmt8, S_empty, tTup, tNever, tNext, tM1, tM0, tRet, tRetN, tAndV, tOrV, tNotV, tCall, tMeth, tProp, tVar, tC, tCons, tNil, L2.start, tChain, tTest, rI, rI0, tOp, tUn, tSeq, tIfS, tAnd, tOr, tNot, tB, tIf, tAsg, gName, tDrop, tCB, tFld, rEq, rNe, scal, rIsi_int, rIsi_bl, rIsi_str, rIsi_non, kit_ii, kit_ib, kit_is, kit_bi, kit_bb, kit_bs, kit_si, kit_sb, kit_ss, kit_ni, kit_nb, kit_ns, S_inj, S_app, S_len, S_list, S_one, lit_no, lit_sp, lit_nl, lit_eq, cx_K, ex2, ex3, ex2b, rd_spN, rd_spC, rd_spI, rd_spIII, rd_spS, kNL, kBL, kES, kSB, g1, g3]
      exact ⟨⟨u, R⟩, ⟨q, W⟩, k r H (Same.refl H) R⟩
    · simp [tPar, tPar3, -List.lookup_eq_none_iff, sizeLine_eq, tSl, tPart, tNoPart, rSlS, cut_lo, cut_hi, gc_cons, gn_nil, tJs, tFmt8, S_empty, tTup, tNever, tNext, tM1, tM0, tRet, tRetN, tAndV, tOrV, tNotV, tCall, tMeth, tProp, tVar, tC, tCons, tNil, L2.start, tChain, tTest, rI, rI0, tOp, tUn, tSeq, tIfS, tAnd, tOr, tNot, tB, tIf, tAsg, gName, tDrop, tCB, tFld, rEq, rNe, scal, rIsi_int, rIsi_bl, rIsi_str, rIsi_non, kit_ii, kit_ib, kit_is, kit_bi, kit_bb, kit_bs, kit_si, kit_sb, kit_ss, kit_ni, kit_nb, kit_ns, S_inj, S_app, S_len, S_list, S_one, lit_no, lit_sp, lit_nl, lit_eq, cx_K, ex2, ex3, ex2b, rd_spN, rd_spC, rd_spI, rd_spIII, rd_spS, kNL, kBL, kES, kSB, h1, h4.usual]
      refine ⟨c, q, rfl, W, fun r H' s' R hr => ?_⟩
      obtain ⟨dx', fs', d, kvs, g1, g2, g3, g4, g5⟩ := id R
      simp [tPar, tPar3, -List.lookup_eq_none_iff, sizeLine_eq, tSl, tPart, tNoPart, rSlS, cut_lo, cut_hi, gc_cons, gn_nil, tJs, tFmt8, S_empty, tTup, tNever, tNext, tM1, tM0, tRet, tRetN, tAndV, tOrV, tNotV, tCall, tMeth, tProp, tVar, tC, tCons, tNil, L2.start, tChain, tTest, rI, rI0, tOp, tUn, tSeq, tIfS, tAnd, tOr, tNot, tB, tIf, tAsg, gName, tDrop, tCB, tFld, rEq, rNe, scal, rIsi_int, rIsi_bl, rIsi_str, rIsi_non, kit_ii, kit_ib, kit_is, kit_bi, kit_bb, kit_bs, kit_si, kit_sb, kit_ss, kit_ni, kit_nb, kit_ns, S_inj, S_app, S_len, S_list, S_one, lit_no, lit_sp, lit_nl, lit_eq, cx_K, ex2, ex3, ex2b, rd_spN, rd_spC, rd_spI, rd_spIII, rd_spS, kNL, kBL, kES, kSB, g1, g3]
      exact ⟨⟨_, R⟩, ⟨q, W.same s'⟩, k r H' s' R⟩
def spPlain (K : Fg) : Sp := fun us H Q _ => ∃ c q r u text m, us = [.ref c, .ref r, Pt.vs text] ∧ Wy K H c q ∧ Ro K H r u ∧ text.length ≤ 12000 ∧ readQ q u text = some m ∧ NewL H (m.map vi) Q
theorem sc_plain_data : FnScope ["code", "rules", "text", "data"] ["code", "rules", "text"] (defScope s_plain_data) := ⟨rfl, rfl, rfl, by decide +kernel, rfl, by decide +kernel, by decide +kernel⟩
theorem ok_plain_data (T : Tx K mg) : Fok P w K mg base 8 d_plain_data ["code", "rules", "text"] [] (spPlain K) := by
  refine fok T.F_plain_data sc_plain_data (fun vs H Q E h => ?_) (fun _ _ _ _ _ _ us hl => match us, hl with | [_, _, _], _ => rfl) (fun cdv A outer s H vs Q E hr h => ?_)
  · obtain ⟨c, q, r, u, text, m, rfl, _⟩ := h; rfl
  · obtain ⟨c, q, r, u, text, m, rfl, W, R, hl, hm, k⟩ := h
    obtain ⟨dx, fs, t, h1, h2, h3, h4⟩ := id W
    refine ⟨_, (pss_cons (ps_set (i := 3) sc_plain_data.nd rfl (Or.inl rfl) (pe_mF (ok_Quoted_whole_data T) (hr.mono (by decide)) T.c_Quoted T.m_Quoted_whole_data (pv 0) (pa_cons (pv 1) (pa_cons (pv 2) pa_nil))))
        (pss_cons (ps_if (pt_cmpR op_isN (pv 3) pe_non (nomark _)) (pss_cons ps_never
        (pss_one ps_never)) pss_nil)
        (pss_one (ps_ret (pv 3))))), ?_⟩
    simp [tPar, tPar3, -List.lookup_eq_none_iff, sizeLine_eq, tSl, tPart, tNoPart, rSlS, cut_lo, cut_hi, gc_cons, gn_nil, tJs, tFmt8, S_empty, tTup, tNever, tNext, tM1, tM0, tRet, tRetN, tAndV, tOrV, tNotV, tCall, tMeth, tProp, tVar, tC, tCons, tNil, L2.start, tChain, tTest, rI, rI0, tOp, tUn, tSeq, tIfS, tAnd, tOr, tNot, tB, tIf, tAsg, gName, tDrop, tCB, tFld, rEq, rNe, scal, rIsi_int, rIsi_bl, rIsi_str, rIsi_non, kit_ii, kit_ib, kit_is, kit_bi, kit_bb, kit_bs, kit_si, kit_sb, kit_ss, kit_ni, kit_nb, kit_ns, S_inj, S_app, S_len, S_list, S_one, lit_no, lit_sp, lit_nl, lit_eq, cx_K, ex2, ex3, ex2b, rd_spN, rd_spC, rd_spI, rd_spIII, rd_spS, kNL, kBL, kES, kSB, h1, h4.whole_data]
    refine ⟨c, q, r, u, text, rfl, W, R, hl, ?_⟩
    rw [hm]
    intro p H1 s1 e1
    simp [tPar, tPar3, -List.lookup_eq_none_iff, sizeLine_eq, tSl, tPart, tNoPart, rSlS, cut_lo, cut_hi, gc_cons, gn_nil, tJs, tFmt8, S_empty, tTup, tNever, tNext, tM1, tM0, tRet, tRetN, tAndV, tOrV, tNotV, tCall, tMeth, tProp, tVar, tC, tCons, tNil, L2.start, tChain, tTest, rI, rI0, tOp, tUn, tSeq, tIfS, tAnd, tOr, tNot, tB, tIf, tAsg, gName, tDrop, tCB, tFld, rEq, rNe, scal, rIsi_int, rIsi_bl, rIsi_str, rIsi_non, kit_ii, kit_ib, kit_is, kit_bi, kit_bb, kit_bs, kit_si, kit_sb, kit_ss, kit_ni, kit_nb, kit_ns, S_inj, S_app, S_len, S_list, S_one, lit_no, lit_sp, lit_nl, lit_eq, cx_K, ex2, ex3, ex2b, rd_spN, rd_spC, rd_spI, rd_spIII, rd_spS, kNL, kBL, kES, kSB]
    exact k p H1 s1 e1
def spReadT (K : Fg) : Sp := fun us H Q _ => ∃ c q v u text m, us = [.ref c, Pt.vs text, v] ∧ Wy K H c q ∧ RuV K H v u ∧ TextOk text ∧ readQ q u text = some m ∧ NewL H (m.map vi) Q
theorem RuV.same {H H' : Hp} {v : V} {u : RC} (h : RuV K H v u) (s : Same H H') : RuV K H' v u := by
  rcases h with ⟨r, rfl, R⟩ | ⟨rfl, rfl⟩
  · exact .inl ⟨r, rfl, R.same s⟩
  · exact .inr ⟨rfl, rfl⟩
theorem sc_read_text : FnScope ["code", "text", "rules", "own"] ["code", "text", "rules"] (defScope s_read_text) := ⟨rfl, rfl, rfl, by decide +kernel, rfl, by decide +kernel, by decide +kernel⟩
theorem read_text_fn (T : Tx K mg) {z : FuncData} (F : d_read_text.Is K z) : FnOk P w K mg base CX0 9 (d_read_text.adr K) z ["code", "text", "rules"] (spReadT K) := by
  refine fnk F sc_read_text (fun vs H Q E h => ?_) (fun cdv A outer s H vs Q E hr h => ?_)
  · obtain ⟨c, q, v, u, text, m, rfl, _⟩ := h; rfl
  · obtain ⟨c, q, v, u, text, m, rfl, W, hv, ht, hm, k⟩ := h
    refine ⟨_, (pss_cons (ps_set (i := 3) sc_read_text.nd rfl (Or.inl rfl) (pe_cF (ok_rules_for T) (hr.mono (by decide)) T.g_rules_for (pa_cons (pv 0) (pa_cons (pv 2) pa_nil))))
        (pss_cons (ps_expr (pe_cF (ok_check_text T) (hr.mono (by decide)) T.g_check_text (pa_cons (pv 1) pa_nil)))
        (pss_one (ps_ret (pe_cF (ok_plain_data T) (hr.mono (by decide)) T.g_plain_data (pa_cons (pv 0) (pa_cons (pv 3) (pa_cons (pv 1) pa_nil)))))))), ?_⟩
    simp [tPar, tPar3, -List.lookup_eq_none_iff, sizeLine_eq, tSl, tPart, tNoPart, rSlS, cut_lo, cut_hi, gc_cons, gn_nil, tJs, tFmt8, S_empty, tTup, tNever, tNext, tM1, tM0, tRet, tRetN, tAndV, tOrV, tNotV, tCall, tMeth, tProp, tVar, tC, tCons, tNil, L2.start, tChain, tTest, rI, rI0, tOp, tUn, tSeq, tIfS, tAnd, tOr, tNot, tB, tIf, tAsg, gName, tDrop, tCB, tFld, rEq, rNe, scal, rIsi_int, rIsi_bl, rIsi_str, rIsi_non, kit_ii, kit_ib, kit_is, kit_bi, kit_bb, kit_bs, kit_si, kit_sb, kit_ss, kit_ni, kit_nb, kit_ns, S_inj, S_app, S_len, S_list, S_one, lit_no, lit_sp, lit_nl, lit_eq, cx_K, ex2, ex3, ex2b, rd_spN, rd_spC, rd_spI, rd_spIII, rd_spS, kNL, kBL, kES, kSB]
    refine ⟨c, q, v, u, rfl, W, hv, fun r H1 s1 R => ?_⟩
    simp [tPar, tPar3, -List.lookup_eq_none_iff, sizeLine_eq, tSl, tPart, tNoPart, rSlS, cut_lo, cut_hi, gc_cons, gn_nil, tJs, tFmt8, S_empty, tTup, tNever, tNext, tM1, tM0, tRet, tRetN, tAndV, tOrV, tNotV, tCall, tMeth, tProp, tVar, tC, tCons, tNil, L2.start, tChain, tTest, rI, rI0, tOp, tUn, tSeq, tIfS, tAnd, tOr, tNot, tB, tIf, tAsg, gName, tDrop, tCB, tFld, rEq, rNe, scal, rIsi_int, rIsi_bl, rIsi_str, rIsi_non, kit_ii, kit_ib, kit_is, kit_bi, kit_bb, kit_bs, kit_si, kit_sb, kit_ss, kit_ni, kit_nb, kit_ns, S_inj, S_app, S_len, S_list, S_one, lit_no, lit_sp, lit_nl, lit_eq, cx_K, ex2, ex3, ex2b, rd_spN, rd_spC, rd_spI, rd_spIII, rd_spS, kNL, kBL, kES, kSB]
    refine ⟨ht, fun H2 s2 => ?_⟩
    (try simp [tPar, tPar3, -List.lookup_eq_none_iff, sizeLine_eq, tSl, tPart, tNoPart, rSlS, cut_lo, cut_hi, gc_cons, gn_nil, tJs, tFmt8, S_empty, tTup, tNever, tNext, tM1, tM0, tRet, tRetN, tAndV, tOrV, tNotV, tCall, tMeth, tProp, tVar, tC, tCons, tNil, L2.start, tChain, tTest, rI, rI0, tOp, tUn, tSeq, tIfS, tAnd, tOr, tNot, tB, tIf, tAsg, gName, tDrop, tCB, tFld, rEq, rNe, scal, rIsi_int, rIsi_bl, rIsi_str, rIsi_non, kit_ii, kit_ib, kit_is, kit_bi, kit_bb, kit_bs, kit_si, kit_sb, kit_ss, kit_ni, kit_nb, kit_ns, S_inj, S_app, S_len, S_list, S_one, lit_no, lit_sp, lit_nl, lit_eq, cx_K, ex2, ex3, ex2b, rd_spN, rd_spC, rd_spI, rd_spIII, rd_spS, kNL, kBL, kES, kSB])
    exact ⟨c, q, r, u, text, m, rfl, W.same (s1.trans s2), R.same s2, ht.1, hm, fun p H3 s3 e3 => k p H3 ((s1.trans s2).trans s3) e3⟩
theorem ok_read_text_3 (T : Tx K mg) : Fok P w K mg base 9 d_read_text ["code", "text", "rules"] [] (spReadT K) := by
  obtain ⟨z, F⟩ := T.F_read_text
  obtain ⟨ds, h1, h2⟩ := F.binds1 (ps := ["code", "text", "rules"]) 3 1 (by intro h; cases h) rfl (fun T kV doc pm an cdv ct us its hu hi => by
    match us, hu, its, hi with
    | [a, b, c], _, [d], _ => exact ⟨_, rfl, rfl⟩)
  exact ⟨⟨z, ds, read_text_fn T F, h1, h2⟩, F.kp⟩
theorem ok_read_text_2 (T : Tx K mg) : Fok P w K mg base 9 d_read_text ["code", "text", "rules"] [.non] (spReadT K) := by
  obtain ⟨z, F⟩ := T.F_read_text
  obtain ⟨ds, h1, h2⟩ := F.binds1 (ps := ["code", "text", "rules"]) 2 0 (by intro h; cases h) rfl (fun T kV doc pm an cdv ct us its hu hi => by
    match us, hu, its, hi with
    | [a, b], _, [d], _ => exact ⟨_, rfl, rfl⟩)
  exact ⟨⟨z, ds, read_text_fn T F, h1, h2⟩, F.kp⟩
def spRight (K : Fg) : Sp := fun us H Q _ => ∃ c q v u text m, us = [.ref c, Pt.vs text, v] ∧ Wy K H c q ∧ RuV K H v u ∧ TextOk text ∧ readQ q u text = some m ∧ Val H (.bl true) Q
theorem sc_is_right : FnScope ["code", "text", "rules", "own"] ["code", "text", "rules"] (defScope s_is_right) := ⟨rfl, rfl, rfl, by decide +kernel, rfl, by decide +kernel, by decide +kernel⟩
theorem is_right_fn (T : Tx K mg) {z : FuncData} (F : d_is_right.Is K z) : FnOk P w K mg base CX0 8 (d_is_right.adr K) z ["code", "text", "rules"] (spRight K) := by
  refine fnk F sc_is_right (fun vs H Q E h => ?_) (fun cdv A outer s H vs Q E hr h => ?_)
  · obtain ⟨c, q, v, u, text, m, rfl, _⟩ := h; rfl
  · obtain ⟨c, q, v, u, text, m, rfl, W, hv, ht, hm, k⟩ := h
    obtain ⟨dx, fs, t, h1, h2, h3, h4⟩ := id W
    refine ⟨_, (pss_cons (ps_set (i := 3) sc_is_right.nd rfl (Or.inl rfl) (pe_cF (ok_rules_for T) (hr.mono (by decide)) T.g_rules_for (pa_cons (pv 0) (pa_cons (pv 2) pa_nil))))
        (pss_cons (ps_try_thru0 (pss_one (ps_expr (pe_cF (ok_check_text T) (hr.mono (by decide)) T.g_check_text (pa_cons (pv 1) pa_nil)))))
        (pss_one (ps_ret (pe_cmpR op_notN (pe_mF (ok_Quoted_whole_data T) (hr.mono (by decide)) T.c_Quoted T.m_Quoted_whole_data (pv 0) (pa_cons (pv 3) (pa_cons (pv 1) pa_nil))) pe_non (nomark _)))))), ?_⟩
    simp [tPar, tPar3, -List.lookup_eq_none_iff, sizeLine_eq, tSl, tPart, tNoPart, rSlS, cut_lo, cut_hi, gc_cons, gn_nil, tJs, tFmt8, S_empty, tTup, tNever, tNext, tM1, tM0, tRet, tRetN, tAndV, tOrV, tNotV, tCall, tMeth, tProp, tVar, tC, tCons, tNil, L2.start, tChain, tTest, rI, rI0, tOp, tUn, tSeq, tIfS, tAnd, tOr, tNot, tB, tIf, tAsg, gName, tDrop, tCB, tFld, rEq, rNe, scal, rIsi_int, rIsi_bl, rIsi_str, rIsi_non, kit_ii, kit_ib, kit_is, kit_bi, kit_bb, kit_bs, kit_si, kit_sb, kit_ss, kit_ni, kit_nb, kit_ns, S_inj, S_app, S_len, S_list, S_one, lit_no, lit_sp, lit_nl, lit_eq, cx_K, ex2, ex3, ex2b, rd_spN, rd_spC, rd_spI, rd_spIII, rd_spS, kNL, kBL, kES, kSB]
    refine ⟨c, q, v, u, rfl, W, hv, fun r H1 s1 R => ?_⟩
    simp [tPar, tPar3, -List.lookup_eq_none_iff, sizeLine_eq, tSl, tPart, tNoPart, rSlS, cut_lo, cut_hi, gc_cons, gn_nil, tJs, tFmt8, S_empty, tTup, tNever, tNext, tM1, tM0, tRet, tRetN, tAndV, tOrV, tNotV, tCall, tMeth, tProp, tVar, tC, tCons, tNil, L2.start, tChain, tTest, rI, rI0, tOp, tUn, tSeq, tIfS, tAnd, tOr, tNot, tB, tIf, tAsg, gName, tDrop, tCB, tFld, rEq, rNe, scal, rIsi_int, rIsi_bl, rIsi_str, rIsi_non, kit_ii, kit_ib, kit_is, kit_bi, kit_bb, kit_bs, kit_si, kit_sb, kit_ss, kit_ni, kit_nb, kit_ns, S_inj, S_app, S_len, S_list, S_one, lit_no, lit_sp, lit_nl, lit_eq, cx_K, ex2, ex3, ex2b, rd_spN, rd_spC, rd_spI, rd_spIII, rd_spS, kNL, kBL, kES, kSB, tThru]
    refine ⟨ht, fun H2 s2 => ?_⟩
    have s3 := s1.trans s2
    simp [tPar, tPar3, -List.lookup_eq_none_iff, sizeLine_eq, tSl, tPart, tNoPart, rSlS, cut_lo, cut_hi, gc_cons, gn_nil, tJs, tFmt8, S_empty, tTup, tNever, tNext, tM1, tM0, tRet, tRetN, tAndV, tOrV, tNotV, tCall, tMeth, tProp, tVar, tC, tCons, tNil, L2.start, tChain, tTest, rI, rI0, tOp, tUn, tSeq, tIfS, tAnd, tOr, tNot, tB, tIf, tAsg, gName, tDrop, tCB, tFld, rEq, rNe, scal, rIsi_int, rIsi_bl, rIsi_str, rIsi_non, kit_ii, kit_ib, kit_is, kit_bi, kit_bb, kit_bs, kit_si, kit_sb, kit_ss, kit_ni, kit_nb, kit_ns, S_inj, S_app, S_len, S_list, S_one, lit_no, lit_sp, lit_nl, lit_eq, cx_K, ex2, ex3, ex2b, rd_spN, rd_spC, rd_spI, rd_spIII, rd_spS, kNL, kBL, kES, kSB, s3 _ _ h1, h4.whole_data]
    refine ⟨c, q, r, u, text, rfl, W.same s3, R.same s2, ht.1, ?_⟩
    rw [hm]
    intro p H3 s4 e4
    simp [tPar, tPar3, -List.lookup_eq_none_iff, sizeLine_eq, tSl, tPart, tNoPart, rSlS, cut_lo, cut_hi, gc_cons, gn_nil, tJs, tFmt8, S_empty, tTup, tNever, tNext, tM1, tM0, tRet, tRetN, tAndV, tOrV, tNotV, tCall, tMeth, tProp, tVar, tC, tCons, tNil, L2.start, tChain, tTest, rI, rI0, tOp, tUn, tSeq, tIfS, tAnd, tOr, tNot, tB, tIf, tAsg, gName, tDrop, tCB, tFld, rEq, rNe, scal, rIsi_int, rIsi_bl, rIsi_str, rIsi_non, kit_ii, kit_ib, kit_is, kit_bi, kit_bb, kit_bs, kit_si, kit_sb, kit_ss, kit_ni, kit_nb, kit_ns, S_inj, S_app, S_len, S_list, S_one, lit_no, lit_sp, lit_nl, lit_eq, cx_K, ex2, ex3, ex2b, rd_spN, rd_spC, rd_spI, rd_spIII, rd_spS, kNL, kBL, kES, kSB]
    exact k H3 (s3.trans s4)
theorem ok_is_right_3 (T : Tx K mg) : Fok P w K mg base 8 d_is_right ["code", "text", "rules"] [] (spRight K) := by
  obtain ⟨z, F⟩ := T.F_is_right
  obtain ⟨ds, h1, h2⟩ := F.binds1 (ps := ["code", "text", "rules"]) 3 1 (by intro h; cases h) rfl (fun T kV doc pm an cdv ct us its hu hi => by
    match us, hu, its, hi with
    | [a, b, c], _, [d], _ => exact ⟨_, rfl, rfl⟩)
  exact ⟨⟨z, ds, is_right_fn T F, h1, h2⟩, F.kp⟩
end
end K45
end
section
/-! the plain law: what a quoted code writes is read as the data -/
namespace K45
open Pt PySem.Spec PyProof.Rows L2
abbrev RdS := List Nat × Int × List Nat
def runR (q : QC) (u : RC) (a : RdS) (t : List Nat) : Rd3 := t.foldl (stepR q u) (some a)
def Cc (q : QC) (u : RC) (c : Int) : Int := if u.lines = true ∧ 0 < q.w then c else 0
def Rm (q : QC) (u : RC) (c n : Int) : Prop := u.lines = false ∨ q.w = 0 ∨ c + n ≤ q.w
def B3 (b : List Nat) : Prop := b = [] ∨ b = [32] ∨ b = [61, 10]
theorem Rm.mono {q : QC} {u : RC} {c n c' n' : Int} (h : Rm q u c n) (e : c' + n' ≤ c + n) : Rm q u c' n' := by
  rcases h with h | h | h
  · exact .inl h
  · exact .inr (.inl h)
  · exact .inr (.inr (by omega))
theorem step_some {q : QC} {u : RC} {m : List Nat} {c : Int} {b : List Nat} {ch : Nat} : stepR q u (some (m, c, b)) ch = (takeQ q u c b ch).map fun y => (m ++ y.1, y.2) := rfl
theorem run_nil {q : QC} {u : RC} {a : RdS} : runR q u a [] = some a := rfl
theorem run_one {q : QC} {u : RC} {m : List Nat} {c : Int} {b : List Nat} {ch : Nat} : runR q u (m, c, b) [ch] = (takeQ q u c b ch).map fun y => (m ++ y.1, y.2) := rfl
theorem run_app {q : QC} {u : RC} {a a' : RdS} {s t : List Nat} (h : runR q u a s = some a') : runR q u a (s ++ t) = runR q u a' t := by
  unfold runR at *
  rw [List.foldl_append, h]
theorem run_app2 {q : QC} {u : RC} {a a' a'' : RdS} {s t : List Nat} (h : runR q u a s = some a') (h' : runR q u a' t = some a'') : runR q u a (s ++ t) = some a'' := (run_app h).trans h'
theorem run_cons {q : QC} {u : RC} {a a' a'' : RdS} {x : Nat} {t : List Nat} (h : runR q u a [x] = some a') (h' : runR q u a' t = some a'') : runR q u a (x :: t) = some a'' := run_app2 (s := [x]) h h'
section
variable {q : QC} {u : RC}
theorem room_ok {c n : Int} (hw : q.w = 0 ∨ 4 ≤ q.w) (h : Rm q u c n) : roomQ q u (Cc q u c) n = true := by
  unfold roomQ fits Cc
  rcases h with h | h | h
  · simp [h]
  · simp [h]
  · rcases hw with e | e
    · simp [e]
    · by_cases hl : u.lines = true
      · have : 0 < q.w := by omega
        simp [hl, this, h]
      · simp [hl]
theorem next_Cc {c : Int} : nextQ q u (Cc q u c) = Cc q u (c + 1) := by
  unfold nextQ Cc colb
  by_cases hl : u.lines = true
  · by_cases hw : 0 < q.w
    · simp [hl, hw]
    · simp [hl, hw]
  · simp [hl]
theorem Cc0 : Cc q u 0 = 0 := by unfold Cc; split <;> rfl
theorem B3.notEsc {b : List Nat} (h : B3 b) : ¬ (b.take 1 = [61] ∧ b ≠ [61, 10]) := by
  rcases h with rfl | rfl | rfl <;> simp
theorem run_esc {m b : List Nat} {c : Int} (hw : q.w = 0 ∨ 4 ≤ q.w) (hb : B3 b) (h : Rm q u c 1) : runR q u (m, Cc q u c, b) [61] = some (m, Cc q u (c + 1), [61]) := by
  have e : takeQ q u (Cc q u c) b 61 = some ([], Cc q u (c + 1), [61]) := by
    unfold takeQ
    rw [if_neg hb.notEsc, if_neg (by decide), if_neg (by simp), if_neg (by simp [room_ok hw h]), if_pos rfl, next_Cc]
  rw [run_one, e]; simp
theorem run_plain {m b : List Nat} {c : Int} {n : Nat} (hw : q.w = 0 ∨ 4 ≤ q.w) (hb : B3 b) (h : Rm q u c 1) (h1 : n ≠ 10) (h2 : n ≠ 32) (h3 : n ≠ 61) : runR q u (m, Cc q u c, b) [n] = some (m ++ [n], Cc q u (c + 1), []) := by
  have e : takeQ q u (Cc q u c) b n = some ([n], Cc q u (c + 1), []) := by
    unfold takeQ
    rw [if_neg hb.notEsc, if_neg h1, if_neg (by simp [h2]), if_neg (by simp [room_ok hw h]), if_neg h3, next_Cc]
  rw [run_one, e]; rfl
theorem run_blank {m b : List Nat} {c : Int} (hw : q.w = 0 ∨ 4 ≤ q.w) (hb : B3 b) (h : Rm q u c (if u.loose then 1 else 2)) : runR q u (m, Cc q u c, b) [32] = some (m ++ [32], Cc q u (c + 1), if u.loose then [] else [32]) := by
  have e : takeQ q u (Cc q u c) b 32 = some ([32], Cc q u (c + 1), if u.loose then [] else [32]) := by
    unfold takeQ
    rw [if_neg hb.notEsc, if_neg (by decide)]
    by_cases hl : u.loose = true
    · simp [hl] at h
      simp [hl, room_ok hw h, next_Cc]
    · have hl' : u.loose = false := by simpa using hl
      simp [hl'] at h
      simp [hl', room_ok hw h, next_Cc]
  rw [run_one, e]; rfl
theorem run_nl {m : List Nat} {c : Int} (hb : q.b = false) : runR q u (m, c, []) [10] = some (m ++ [10], 0, []) := by
  have e : takeQ q u c [] 10 = some ([10], 0, []) := by
    unfold takeQ
    simp [hb]
  rw [run_one, e]; rfl
theorem run_soft {m : List Nat} {c : Int} : runR q u (m, c, [61]) [10] = some (m, 0, if u.loose then [] else [61, 10]) := by
  have e : takeQ q u c [61] 10 = some ([], 0, if u.loose then [] else [61, 10]) := by
    unfold takeQ takeD
    simp
  rw [run_one, e]; simp
theorem B3.soft : B3 (if u.loose then [] else [61, 10]) := by
  split
  · exact .inl rfl
  · exact .inr (.inr rfl)
theorem B3.blank : B3 (if u.loose then [] else [32]) := by
  split
  · exact .inl rfl
  · exact .inr (.inl rfl)
theorem hexD10 : hexDigit u 10 = [] := by
  unfold hexDigit
  have e1 : hxP 10 = false := by decide
  have e2 : other 10 = [] := by decide
  simp [e1, e2]
theorem run_d1 {m : List Nat} {c : Int} {x d : Nat} (hw : q.w = 0 ∨ 4 ≤ q.w) (h : Rm q u c 2) (hx : hexDigit u x = [d]) : runR q u (m, Cc q u c, [61]) [x] = some (m, Cc q u (c + 1), [61, d]) := by
  have hx10 : x ≠ 10 := by intro e; subst e; rw [hexD10] at hx; cases hx
  have e : takeQ q u (Cc q u c) [61] x = some ([], Cc q u (c + 1), [61, d]) := by
    unfold takeQ takeD
    simp [hx10, hx, room_ok hw h, next_Cc]
  rw [run_one, e]; simp
theorem run_d2 {m : List Nat} {c : Int} {x d f : Nat} (hd : hxP d = true) (hx : hexDigit u x = [f]) : runR q u (m, Cc q u c, [61, d]) [x] = some (m ++ [Hx.hexNum [d, f]], Cc q u (c + 1), []) := by
  have hd10 : d ≠ 10 := by intro e; subst e; cases hd
  have e : takeQ q u (Cc q u c) [61, d] x = some ([Hx.hexNum [d, f]], Cc q u (c + 1), []) := by
    unfold takeQ takeD
    simp [hd10, hx, next_Cc]
  rw [run_one, e]; rfl
theorem hex_back : ∀ n : Fin 256, hxP (hexd (n.1 / 16)) = true ∧ hxP (hexd (n.1 % 16)) = true ∧ Hx.hexNum [hexd (n.1 / 16), hexd (n.1 % 16)] = n.1 := by decide +kernel
/-- two digits that are read as n -/
def HexT (u : RC) (n x y : Nat) : Prop := hexDigit u x = [hexd (n / 16)] ∧ hexDigit u y = [hexd (n % 16)]
theorem HexT.up {n : Nat} (h : n < 256) : HexT u n (hexd (n / 16)) (hexd (n % 16)) := by
  obtain ⟨h1, h2, _⟩ := hex_back ⟨n, h⟩
  exact ⟨by unfold hexDigit; rw [if_pos h1], by unfold hexDigit; rw [if_pos h2]⟩
theorem run_digits {m : List Nat} {c : Int} {n x y : Nat} (hw : q.w = 0 ∨ 4 ≤ q.w) (h : Rm q u c 2) (hn : n < 256) (ht : HexT u n x y) : runR q u (m, Cc q u c, [61]) [x, y] = some (m ++ [n], Cc q u (c + 2), []) := by
  obtain ⟨h1, h2, h3⟩ := hex_back ⟨n, hn⟩
  have := run_d2 (q := q) (u := u) (m := m) (c := c + 1) h1 ht.2
  rw [h3] at this
  have e : c + 1 + 1 = c + 2 := by omega
  rw [e] at this
  exact run_cons (run_d1 hw h ht.1) this
theorem run_coded {m b : List Nat} {c : Int} {n x y : Nat} (hw : q.w = 0 ∨ 4 ≤ q.w) (hb : B3 b) (h : Rm q u c 3) (hn : n < 256) (ht : HexT u n x y) : runR q u (m, Cc q u c, b) [61, x, y] = some (m ++ [n], Cc q u (c + 3), []) := by
  have := run_digits (q := q) (u := u) (m := m) (c := c + 1) hw (h.mono (by omega)) hn ht
  have e : c + 1 + 2 = c + 3 := by omega
  rw [e] at this
  exact run_cons (run_esc hw hb (h.mono (by omega))) this
theorem run_brk {m b : List Nat} {c : Int} (hw : q.w = 0 ∨ 4 ≤ q.w) (hb : B3 b) (h : Rm q u c 1) : runR q u (m, Cc q u c, b) [61, 10] = some (m, Cc q u 0, if u.loose then [] else [61, 10]) := by
  rw [Cc0]; exact run_cons (run_esc hw hb h) run_soft
/-! the writer's state and what has been read -/
def st0 : RdS := ([], 0, [])
inductive WI (q : QC) (u : RC) : List Nat → List Nat → Int → List Nat → Prop
  | free {d P : List Nat} {c : Int} : runR q u st0 P = some (d, Cc q u c, []) → (q.w = 0 ∨ c + 1 ≤ q.w) → WI q u d P c []
  | blank {d P b : List Nat} {c : Int} : runR q u st0 P = some (d, Cc q u c, b) → B3 b → (q.w = 0 ∨ c + 2 ≤ q.w) → WI q u (d ++ [32]) P c [32]
  | coded {d P : List Nat} {c : Int} {n : Nat} : runR q u st0 P = some (d, Cc q u (c + 1), [61]) → n < 256 → 4 ≤ q.w ∧ c + 3 ≤ q.w → WI q u (d ++ [n]) P c (61 :: hex2 n)
  | sign {d P b : List Nat} {c : Int} {n : Nat} : runR q u st0 P = some (d, Cc q u c, b) → B3 b → n ≠ 10 → n ≠ 32 → n ≠ 61 → 4 ≤ q.w ∧ c + 1 ≤ q.w → WI q u (d ++ [n]) P c [n]
theorem rm_of {c n : Int} (h : q.w = 0 ∨ c + n ≤ q.w) : Rm q u c n := h.elim (fun e => .inr (.inl e)) fun e => .inr (.inr e)
theorem hex32 : ([61, 50, 48] : List Nat) = [61, hexd (32 / 16), hexd (32 % 16)] := by decide
theorem WI.ending {d P h : List Nat} {c : Int} (hw : q.w = 0 ∨ 4 ≤ q.w) (W : WI q u d P c h) : ∃ c', runR q u st0 (P ++ K45.ending q c h) = some (d, c', []) := by
  unfold K45.ending
  cases W with
  | free r hc => exact ⟨Cc q u c, by simpa using r⟩
  | blank r hb hc =>
    rw [if_pos rfl]
    split
    · rename_i hf
      have hr : Rm q u c 3 := by
        unfold fits at hf
        simp at hf
        exact rm_of hf
      exact ⟨_, run_app2 r (run_coded hw hb hr (by decide) (n := 32) (x := 50) (y := 48) (HexT.up (u := u) (n := 32) (by decide)))⟩
    · refine ⟨_, run_app2 r (run_app2 (s := [61, 10]) (t := [61, 50, 48]) (run_brk hw hb ((rm_of hc).mono (by omega))) (run_coded hw B3.soft (c := 0) (rm_of ?_) (by decide) (n := 32) (x := 50) (y := 48) (HexT.up (u := u) (n := 32) (by decide))))⟩
      omega
  | @coded d P c n r hn hc =>
    rw [if_neg (by simp [hex2]), if_pos (by simp [hex2])]
    refine ⟨_, run_app2 r (run_digits hw (c := c + 1) (.inr (.inr (by omega))) hn (HexT.up hn))⟩
  | @sign d P b c n r hb h1 h2 h3 hc =>
    rw [if_neg (by simpa using h2), if_neg (by simp)]
    exact ⟨_, run_app2 r (run_plain hw hb (.inr (.inr hc.2)) h1 h2 h3)⟩
theorem WI.going {d P h : List Nat} {c : Int} (hw : q.w = 0 ∨ 4 ≤ q.w) (W : WI q u d P c h) : ∃ b, B3 b ∧ runR q u st0 (P ++ (K45.going q c h).1) = some (d, Cc q u (K45.going q c h).2, b) ∧ (q.w = 0 ∨ (K45.going q c h).2 + 1 ≤ q.w) := by
  unfold K45.going
  cases W with
  | free r hc => exact ⟨[], .inl rfl, by simpa using r, by simpa using hc⟩
  | blank r hb hc =>
    rw [if_neg (by simp), if_pos rfl]
    refine ⟨_, B3.blank (u := u), ?_, ?_⟩
    · have e : Cc q u (colb q c 1) = Cc q u (c + 1) := by
        unfold Cc colb
        by_cases h0 : 0 < q.w <;> simp [h0]
      show runR q u st0 (P ++ [32]) = some (_, Cc q u (colb q c 1), _)
      rw [e]
      exact run_app2 r (run_blank hw hb ((rm_of hc).mono (by split <;> omega)))
    · show q.w = 0 ∨ colb q c 1 + 1 ≤ q.w
      unfold colb
      split <;> omega
  | @coded d P c n r hn hc =>
    rw [if_neg (by simp), if_neg (by simp [hex2]), if_pos (by simp [hex2])]
    refine ⟨[], .inl rfl, ?_, .inr (by show (3 : Int) + 1 ≤ q.w; omega)⟩
    refine run_app2 r (run_cons run_soft ?_)
    have := run_coded (q := q) (u := u) (m := d) (c := 0) (n := n) hw (B3.soft (u := u)) (.inr (.inr (by omega))) hn (HexT.up hn)
    rw [Cc0] at this
    exact this
  | @sign d P b c n r hb h1 h2 h3 hc =>
    rw [if_neg (by simp), if_neg (by simpa using h2), if_neg (by simp)]
    refine ⟨[], .inl rfl, ?_, .inr (by show (1 : Int) + 1 ≤ q.w; omega)⟩
    exact run_app2 r (run_app2 (s := [61, 10]) (t := [n]) (run_brk hw hb (.inr (.inr hc.2))) (run_plain (c := 0) hw B3.soft (.inr (.inr (by omega))) h1 h2 h3))
theorem Cc_colb {c s : Int} : Cc q u (colb q c s) = Cc q u (c + s) := by
  unfold Cc colb
  by_cases h0 : 0 < q.w <;> simp [h0]
theorem colb_le {c s : Int} (hw : q.w = 0 ∨ 4 ≤ q.w) (h : q.w = 0 ∨ c + (s + 1) ≤ q.w) : q.w = 0 ∨ colb q c s + 1 ≤ q.w := by
  unfold colb
  split <;> omega
theorem WI.placed {d P b : List Nat} {c : Int} {n : Nat} (hw : q.w = 0 ∨ 4 ≤ q.w) (hn : n < 256) (hnl : isNl q n = false) (r : runR q u st0 P = some (d, Cc q u c, b)) (hb : B3 b) (hc : q.w = 0 ∨ c + 1 ≤ q.w) :
    WI q u (d ++ [n]) (P ++ (K45.placed q c (item q n)).1) (K45.placed q c (item q n)).2.1 (K45.placed q c (item q n)).2.2 := by
  have hf : ∀ s : Int, (fits q c s = true) = (q.w = 0 ∨ c + s ≤ q.w) := fun s => by unfold fits; simp
  by_cases h32 : n = 32
  · subst h32
    have e : item q 32 = [32] := by unfold item; rw [hnl]; rfl
    rw [e]
    unfold K45.placed
    split
    · rename_i h
      rw [hf] at h
      simpa using WI.blank (P := P) r hb (by simpa using h)
    · rw [if_pos rfl]
      exact WI.blank (run_app2 r (run_brk hw hb (rm_of hc))) B3.soft (by dsimp only; omega)
  · by_cases hp : plainB q n = true
    · have e : item q n = [n] := by unfold item; rw [hnl, hp]; rfl
      have hs : isSign n = true ∧ n ≠ 61 := by
        unfold plainB at hp
        simp [h32] at hp
        exact ⟨hp.1.1, hp.1.2⟩
      have h10 : n ≠ 10 := by
        intro e; subst e; cases hs.1
      rw [e]
      unfold K45.placed
      split
      · rename_i h
        rw [hf] at h
        rw [if_neg (by simpa using h32)]
        refine WI.free ?_ (colb_le hw (by simpa using h))
        rw [Cc_colb]
        exact run_app2 r (run_plain hw hb (rm_of hc) h10 h32 hs.2)
      · rename_i h
        rw [hf] at h
        rw [if_neg (by simpa using h32)]
        have h1 : fits q c (([n] : List Nat).length) = true := by rw [hf]; simpa using hc
        rw [if_pos h1]
        simpa using WI.sign (P := P) r hb h10 h32 hs.2 (by omega)
    · have e : item q n = 61 :: hex2 n := by
        unfold item
        rw [hnl, if_neg (by decide), if_neg hp]
      rw [e]
      have l3 : (61 :: hex2 n).length = 3 := by simp [hex2]
      have nb : ¬ (61 :: hex2 n = [32]) := by simp [hex2]
      unfold K45.placed
      rw [l3, if_neg nb, if_neg nb]
      split
      · rename_i h
        rw [hf] at h
        refine WI.free ?_ (colb_le hw (by simpa using h))
        rw [Cc_colb]
        exact run_app2 r (run_coded hw hb (rm_of (by omega)) hn (HexT.up hn))
      · rename_i h
        rw [hf] at h
        split
        · rename_i h'
          rw [hf] at h'
          rw [if_pos rfl]
          exact WI.coded (run_app2 r (run_esc hw hb (rm_of hc))) hn (by dsimp only; omega)
        · refine WI.free ?_ (by dsimp only; omega)
          exact run_app2 r (run_app2 (s := [61, 10]) (run_brk hw hb (rm_of hc)) (run_coded (c := 0) hw B3.soft (rm_of (by omega)) hn (HexT.up hn)))
theorem WI.write {d P h : List Nat} {c : Int} {n : Nat} (hw : q.w = 0 ∨ 4 ≤ q.w) (hn : n < 256) (W : WI q u d P c h) :
    WI q u (d ++ [n]) (P ++ (writeQ q c h n).1) (writeQ q c h n).2.1 (writeQ q c h n).2.2 := by
  unfold writeQ
  cases hnl : isNl q n with
  | true =>
    have e : n = 10 ∧ q.b = false := by
      unfold isNl at hnl
      simp at hnl
      exact ⟨by omega, hnl.2⟩
    obtain ⟨rfl, hb⟩ := e
    obtain ⟨c', r⟩ := W.ending hw
    rw [if_pos rfl]
    refine WI.free ?_ (by dsimp only; omega)
    rw [Cc0]
    show runR q u st0 (P ++ (K45.ending q c h ++ [10])) = _
    rw [← List.append_assoc]
    exact run_app2 r (run_nl hb)
  | false =>
    obtain ⟨b, hb, r, hc⟩ := W.going hw
    have := WI.placed hw hn hnl r hb hc
    rw [if_neg (by decide)]
    simpa using this
theorem WI.all {data : List Nat} (hw : q.w = 0 ∨ 4 ≤ q.w) : (∀ n ∈ data, n < 256) → WI q u data (accW q data).1.flatten (accW q data).2.1 (accW q data).2.2 := by
  suffices h : ∀ (data pre : List Nat) (a : List (List Nat) × Int × List Nat), (∀ n ∈ data, n < 256) → WI q u pre a.1.flatten a.2.1 a.2.2 → WI q u (pre ++ data) (data.foldl (stepW q) a).1.flatten (data.foldl (stepW q) a).2.1 (data.foldl (stepW q) a).2.2 by
    intro hd
    have := h data [] ([], 0, []) hd (WI.free (by rw [Cc0]; rfl) (by show q.w = 0 ∨ (0 : Int) + 1 ≤ q.w; omega))
    unfold accW
    simpa using this
  intro data
  induction data with
  | nil => intro pre a _ W; simpa using W
  | cons n r ih =>
    intro pre a hd W
    have W2 := W.write hw (hd n (List.mem_cons_self ..))
    have := ih (pre ++ [n]) (stepW q a n) (fun k hk => hd k (List.mem_cons_of_mem _ hk)) (by simpa [stepW] using W2)
    simpa using this
theorem read_whole {data : List Nat} (hw : q.w = 0 ∨ 4 ≤ q.w) (hd : ∀ n ∈ data, n < 256) : readQ q u (wholeQ q data) = some data := by
  obtain ⟨c', r⟩ := (WI.all (u := u) hw hd).ending hw
  have e : accR q u (wholeQ q data) = some (data, c', []) := r
  unfold readQ
  rw [e]; rfl
/-! its characters -/
def ChA (l : List Nat) : Prop := ∀ c ∈ l, c = 10 ∨ prP c = true
theorem ChA.app {a b : List Nat} (h : ChA a) (h' : ChA b) : ChA (a ++ b) := fun c hc => (List.mem_append.mp hc).elim (h c) (h' c)
theorem hex_pr : ∀ n : Fin 256, prP (hexd (n.1 / 16)) = true ∧ prP (hexd (n.1 % 16)) = true := by decide +kernel
theorem ChA.coded {n : Nat} (h : n < 256) : ChA (61 :: hex2 n) := by
  obtain ⟨h1, h2⟩ := hex_pr ⟨n, h⟩
  intro c hc
  simp [hex2] at hc
  rcases hc with rfl | rfl | rfl
  · exact .inr (by decide)
  · exact .inr h1
  · exact .inr h2
theorem ChA.nil : ChA [] := fun c h => nomatch h
theorem ChA.cons {x : Nat} {l : List Nat} (hx : x = 10 ∨ prP x = true) (h : ChA l) : ChA (x :: l) := by
  intro c hc
  rcases List.mem_cons.mp hc with rfl | hc
  · exact hx
  · exact h c hc
theorem sign_pr {n : Nat} (h : isSign n = true) : prP n = true := by
  unfold isSign at h; unfold prP
  simp at h ⊢; omega
theorem ChA.item {n : Nat} (h : n < 256) : ChA (item q n) := by
  unfold K45.item
  split
  · exact .cons (.inl rfl) .nil
  · split
    · rename_i hp
      refine .cons (.inr ?_) .nil
      unfold plainB at hp
      simp at hp
      rcases hp with rfl | hp
      · decide
      · exact sign_pr hp.1.1
    · exact .coded h
theorem ChA.soft : ChA [61, 10] := .cons (.inr (by decide)) (.cons (.inl rfl) .nil)
theorem ChA.ending {c : Int} {h : List Nat} (hh : ChA h) : ChA (K45.ending q c h) := by
  unfold K45.ending
  split
  · split
    · exact .cons (.inr (by decide)) (.cons (.inr (by decide)) (.cons (.inr (by decide)) .nil))
    · exact .cons (.inr (by decide)) (.cons (.inl rfl) (.cons (.inr (by decide)) (.cons (.inr (by decide)) (.cons (.inr (by decide)) .nil))))
  · split
    · exact fun c hc => hh c (List.mem_of_mem_drop hc)
    · exact hh
theorem ChA.going {c : Int} {h : List Nat} (hh : ChA h) : ChA (K45.going q c h).1 := by
  unfold K45.going
  split
  · exact .nil
  · split
    · exact .cons (.inr (by decide)) .nil
    · split
      · exact .cons (.inl rfl) hh
      · exact .cons (.inr (by decide)) (.cons (.inl rfl) hh)
theorem ChA.placed {c : Int} {it : List Nat} (hh : ChA it) : ChA (K45.placed q c it).1 ∧ ChA (K45.placed q c it).2.2 := by
  unfold K45.placed
  split
  · split
    · exact ⟨.nil, hh⟩
    · exact ⟨hh, .nil⟩
  · split
    · exact ⟨.soft, hh⟩
    · split
      · split
        · exact ⟨.cons (.inr (by decide)) .nil, hh⟩
        · exact ⟨.nil, hh⟩
      · exact ⟨ChA.soft.app hh, .nil⟩
theorem ChA.write {c : Int} {h : List Nat} {n : Nat} (hh : ChA h) (hn : n < 256) : ChA (writeQ q c h n).1 ∧ ChA (writeQ q c h n).2.2 := by
  unfold writeQ
  split
  · exact ⟨(ChA.ending hh).app (.cons (.inl rfl) .nil), .nil⟩
  · have := ChA.placed (q := q) (c := (K45.going q c h).2) (ChA.item (q := q) hn)
    exact ⟨(ChA.going hh).app this.1, this.2⟩
theorem ChA.all {data : List Nat} (hd : ∀ n ∈ data, n < 256) : ChA (accW q data).1.flatten ∧ ChA (accW q data).2.2 := by
  suffices h : ∀ (data : List Nat) (a : List (List Nat) × Int × List Nat), (∀ n ∈ data, n < 256) → ChA a.1.flatten ∧ ChA a.2.2 → ChA (data.foldl (stepW q) a).1.flatten ∧ ChA (data.foldl (stepW q) a).2.2 from
    h data ([], 0, []) hd ⟨.nil, .nil⟩
  intro data
  induction data with
  | nil => intro a _ h; exact h
  | cons n r ih =>
    intro a hd h
    have h2 := ChA.write (q := q) (c := a.2.1) h.2 (hd n (List.mem_cons_self ..))
    exact ih (stepW q a n) (fun k hk => hd k (List.mem_cons_of_mem _ hk)) ⟨by simpa [stepW] using h.1.app h2.1, h2.2⟩
theorem whole_ok {data : List Nat} (hd : ∀ n ∈ data, n < 256) (hl : data.length ≤ 600) : TextOk (wholeQ q data) := by
  have h := ChA.all (q := q) hd
  have L := accW_len q data
  have hz2 := ending_len (q := q) (c := (accW q data).2.1) L.1
  refine ⟨?_, h.1.app (ChA.ending h.2)⟩
  have fl : (accW q data).1.flatten.length ≤ 10 * (accW q data).1.length := by
    have hz := sum_le 10 _ L.2.2
    rw [List.length_flatten]
    refine Nat.le_trans (Nat.le_of_eq ?_) hz
    rw [List.map_map]
    exact congrArg List.sum (List.map_congr_left fun x _ => (S_len x).symm)
  unfold wholeQ
  rw [List.length_append]
  omega
end
end K45
end
section
namespace K45
open PySem PySem.Spec PyProof.Rows L2 Pt
section
variable {P : Program} {w : World} {K : Fg} {mg : Str → Option Value} {base : Heap}
/-- a bag of draws at g, at most n counted -/
def Bag (H : Hp) (g : Addr) (n : Nat) : Prop := ∃ x y z : Int, H g = some (.lst [.int x, .int y, .int z]) ∧ 0 ≤ x ∧ 0 ≤ y ∧ y < 2305843009213693951 ∧ 0 ≤ z ∧ z ≤ n
theorem Bag.mono {H : Hp} {g : Addr} {n n' : Nat} (h : Bag H g n) (e : n ≤ n') : Bag H g n' := by
  obtain ⟨x, y, z, h1, h2, h3, h4, h5, h6⟩ := h
  exact ⟨x, y, z, h1, h2, h3, h4, h5, by omega⟩
theorem Bag.same {H H' : Hp} {g : Addr} {n : Nat} (h : Bag H g n) (s : Same H H') : Bag H' g n := by
  obtain ⟨x, y, z, h1, h2⟩ := h
  exact ⟨x, y, z, s _ _ h1, h2⟩
theorem SameX.trans {x : Addr} {H H1 H2 : Hp} (h : SameX x H H1) (h' : SameX x H1 H2) : SameX x H H2 := fun b u n e => h' b u n (h b u n e)
theorem SameX.refl (x : Addr) (H : Hp) : SameX x H H := fun _ _ _ e => e
def spBag (K : Fg) : Sp := fun us H Q _ => ∃ (s : Addr) (ns : List Int) (k : Nat), us = [.ref s, vi k] ∧ SqL K H s (ns.map V.int) ∧ ns.length ≤ 1000 ∧ k ≤ 1000 ∧ ∀ g H', Same H H' → H g = none → Bag H' g 0 → Q (.ref g) H'
theorem sc_law_bag : FnScope ["_law_script", "_law_at", "_law_cell", "_law_digits"] ["_law_script", "_law_at"] (defScope s_law_bag) := ⟨rfl, rfl, rfl, by decide +kernel, rfl, by decide +kernel, by decide +kernel⟩
theorem ok_law_bag (T : Tx K mg) : Fok P w K mg base 1 d_law_bag ["_law_script", "_law_at"] [] (spBag K) := by
  refine fok T.F_law_bag sc_law_bag (fun vs H Q E h => ?_) (fun _ _ _ _ _ _ us hl => match us, hl with | [_, _], _ => rfl) (fun cdv A outer s H vs Q E hr h => ?_)
  · obtain ⟨s, ns, k, rfl, _⟩ := h; rfl
  · obtain ⟨s, ns, k, rfl, hs, hl, hk, kk⟩ := h
    have hu := hu_of hr
    refine ⟨_, (pss_cons (ps_set (i := 2) sc_law_bag.nd rfl (Or.inl rfl) (pe_ifExp (pt_cmpR op_lt (pv 1) (pe_callB call_len_seq (by rfl) T.n_len PySem.boot_len (pa_cons (pv 0) pa_nil)) (nomark _)) (pe_ix ix_list (pv 0) (pv 1) (fun _ _ => rfl)) pe_int))
        (pss_cons (ps_set (i := 3) sc_law_bag.nd rfl (Or.inl rfl) (pe_ifExp (pt_cmpR op_ge (pe_callB call_abs (by rfl) T.n_abs (by decide +kernel) (pa_cons (pv 2) pa_nil)) (pe_op op_pow pe_int pe_int) (nomark _)) (pe_callB call_abs (by rfl) T.n_abs (by decide +kernel) (pa_cons (pv 2) pa_nil)) pe_int))
        (pss_one (ps_ret (pe_lst (pa_cons (pv 3) (pa_cons (pe_op op_mod (pe_op op_mul (pe_op op_add (pe_op op_add (pe_op op_mod (pv 2) pe_int) (pe_op op_mul pe_int (pv 1))) pe_int) pe_int) pe_int) (pa_cons pe_int pa_nil)))))))), ?_⟩
    have c1 : CPow 10 18 := ⟨by decide, by decide, by decide⟩
    have c2 : CMul 5003 k := .inl ⟨by decide, by decide⟩
    have cm : ∀ i, CMul i 7368787 := fun i => .inr ⟨by decide, by decide⟩
    have nn : ∀ i : Int, 0 ≤ (if i < 0 then -i else i) := fun i => by split <;> omega
    simp [tPar, tPar3, -List.lookup_eq_none_iff, sizeLine_eq, tSl, tPart, tNoPart, rSlS, cut_lo, cut_hi, gc_cons, gn_nil, tJs, tFmt8, S_empty, tTup, tNever, tNext, tM1, tM0, tRet, tRetN, tAndV, tOrV, tNotV, tCall, tMeth, tProp, tVar, tC, tCons, tNil, L2.start, tChain, tTest, rI, rI0, tOp, tUn, tSeq, tIfS, tAnd, tOr, tNot, tB, tIf, tAsg, gName, tDrop, tCB, tFld, rEq, rNe, scal, rIsi_int, rIsi_bl, rIsi_str, rIsi_non, kit_ii, kit_ib, kit_is, kit_bi, kit_bb, kit_bs, kit_si, kit_sb, kit_ss, kit_ni, kit_nb, kit_ns, S_inj, S_app, S_len, S_list, S_one, lit_no, lit_sp, lit_nl, lit_eq, cx_K, ex2, ex3, ex2b, rd_spN, rd_spC, rd_spI, rd_spIII, rd_spS, kNL, kBL, kES, kSB, c1]
    refine ⟨ns.map V.int, .inl (hs), ?_⟩
    rw [List.length_map]
    by_cases h : k < ns.length
    · rw [if_pos h]
      refine ⟨s, ns.map V.int, k, .int ns[k], rfl, rfl, hs, atI_nat (by simp [h]), ?_⟩
      simp [tPar, tPar3, -List.lookup_eq_none_iff, sizeLine_eq, tSl, tPart, tNoPart, rSlS, cut_lo, cut_hi, gc_cons, gn_nil, tJs, tFmt8, S_empty, tTup, tNever, tNext, tM1, tM0, tRet, tRetN, tAndV, tOrV, tNotV, tCall, tMeth, tProp, tVar, tC, tCons, tNil, L2.start, tChain, tTest, rI, rI0, tOp, tUn, tSeq, tIfS, tAnd, tOr, tNot, tB, tIf, tAsg, gName, tDrop, tCB, tFld, rEq, rNe, scal, rIsi_int, rIsi_bl, rIsi_str, rIsi_non, kit_ii, kit_ib, kit_is, kit_bi, kit_bb, kit_bs, kit_si, kit_sb, kit_ss, kit_ni, kit_nb, kit_ns, S_inj, S_app, S_len, S_list, S_one, lit_no, lit_sp, lit_nl, lit_eq, cx_K, ex2, ex3, ex2b, rd_spN, rd_spC, rd_spI, rd_spIII, rd_spS, kNL, kBL, kES, kSB, tLst, c2, cm]
      repeat' split
      all_goals exact fun g hg => kk g _ (same_upd hg) hg ⟨_, _, 0, upd_same, by first | exact Int.le_refl 0 | omega, Int.emod_nonneg _ (by decide), Int.emod_lt_of_pos _ (by decide), by decide, by decide⟩
    · rw [if_neg h]
      simp [tPar, tPar3, -List.lookup_eq_none_iff, sizeLine_eq, tSl, tPart, tNoPart, rSlS, cut_lo, cut_hi, gc_cons, gn_nil, tJs, tFmt8, S_empty, tTup, tNever, tNext, tM1, tM0, tRet, tRetN, tAndV, tOrV, tNotV, tCall, tMeth, tProp, tVar, tC, tCons, tNil, L2.start, tChain, tTest, rI, rI0, tOp, tUn, tSeq, tIfS, tAnd, tOr, tNot, tB, tIf, tAsg, gName, tDrop, tCB, tFld, rEq, rNe, scal, rIsi_int, rIsi_bl, rIsi_str, rIsi_non, kit_ii, kit_ib, kit_is, kit_bi, kit_bb, kit_bs, kit_si, kit_sb, kit_ss, kit_ni, kit_nb, kit_ns, S_inj, S_app, S_len, S_list, S_one, lit_no, lit_sp, lit_nl, lit_eq, cx_K, ex2, ex3, ex2b, rd_spN, rd_spC, rd_spI, rd_spIII, rd_spS, kNL, kBL, kES, kSB, tLst, c2, cm]
      exact fun g hg => kk g _ (same_upd hg) hg ⟨_, _, 0, upd_same, Int.le_refl 0, Int.emod_nonneg _ (by decide), Int.emod_lt_of_pos _ (by decide), by decide, by decide⟩
def spTake : Sp := fun us H Q _ => ∃ (g : Addr) (m : Int) (n : Nat), us = [.ref g, .int m] ∧ 0 < m ∧ m ≤ 100000 ∧ Bag H g n ∧ n ≤ 1000000 ∧ ∀ r H', 0 ≤ r → r < m → SameX g H H' → Bag H' g (n + 1) → Q (.int r) H'
theorem sc_law_take : FnScope ["_law_bag_here", "_law_many", "_law_digit", "_law_mixed"] ["_law_bag_here", "_law_many"] (defScope s_law_take) := ⟨rfl, rfl, rfl, by decide +kernel, rfl, by decide +kernel, by decide +kernel⟩
theorem ok_law_take (T : Tx K mg) : Fok P w K mg base 1 d_law_take ["_law_bag_here", "_law_many"] [] spTake := by
  refine fok T.F_law_take sc_law_take (fun vs H Q E h => ?_) (fun _ _ _ _ _ _ us hl => match us, hl with | [_, _], _ => rfl) (fun cdv A outer s H vs Q E hr h => ?_)
  · obtain ⟨g, m, n, rfl, _⟩ := h; rfl
  · obtain ⟨g, m, n, rfl, hm, hm2, ⟨x, y, z, hg, hx, hy, hy2, hz, hzn⟩, hn, k⟩ := h
    have hu := hu_of hr
    refine ⟨_, (pss_cons (ps_if (pt_cmpR op_gt (pe_ix ix_list (pv 0) pe_int (fun _ _ => rfl)) pe_int (nomark _)) (pss_cons (ps_set (i := 2) sc_law_take.nd rfl (Or.inl rfl) (pe_op op_mod (pe_ix ix_list (pv 0) pe_int (fun _ _ => rfl)) (pv 1)))
        (pss_cons (ps_asg (pe_op op_fdiv (pe_ix ix_list (pv 0) pe_int (fun _ _ => rfl)) (pv 1)) (pg_sub (pv 0) pe_int set_list))
        (pss_one (ps_ret (pv 2))))) pss_nil)
        (pss_cons (ps_asg (pe_op op_add (pe_ix ix_list (pv 0) pe_int (fun _ _ => rfl)) pe_int) (pg_sub (pv 0) pe_int set_list))
        (pss_cons (ps_set (i := 3) sc_law_take.nd rfl (Or.inl rfl) (pe_op op_mod (pe_op op_pow (pe_op op_add (pe_ix ix_list (pv 0) pe_int (fun _ _ => rfl)) (pe_op op_mul pe_int (pe_ix ix_list (pv 0) pe_int (fun _ _ => rfl)))) pe_int) pe_int))
        (pss_cons (ps_set (i := 3) sc_law_take.nd rfl (Or.inl rfl) (pe_op op_mod (pe_op op_pow (pe_op op_add (pv 3) (pe_op op_mul pe_int (pe_ix ix_list (pv 0) pe_int (fun _ _ => rfl)))) pe_int) pe_int))
        (pss_one (ps_ret (pe_op op_mod (pe_op op_fdiv (pv 3) pe_int) (pv 1)))))))), ?_⟩
    have rd0 : ∀ {H1 : Hp} {a b c : Int} {Q : VK}, H1 g = some (.lst [.int a, .int b, .int c]) → Q (.int a) H1 → rIxL K (.ref g) (.int 0) H1 Q := fun h k => ⟨g, _, 0, _, rfl, rfl, SqL.of h, rfl, k⟩
    have rd1 : ∀ {H1 : Hp} {a b c : Int} {Q : VK}, H1 g = some (.lst [.int a, .int b, .int c]) → Q (.int b) H1 → rIxL K (.ref g) (.int 1) H1 Q := fun h k => ⟨g, _, 1, _, rfl, rfl, SqL.of h, rfl, k⟩
    have rd2 : ∀ {H1 : Hp} {a b c : Int} {Q : VK}, H1 g = some (.lst [.int a, .int b, .int c]) → Q (.int c) H1 → rIxL K (.ref g) (.int 2) H1 Q := fun h k => ⟨g, _, 2, _, rfl, rfl, SqL.of h, rfl, k⟩
    have cd : ∀ i : Int, CDiv i m := fun i => ⟨hm, by omega⟩
    have sx : ∀ {o : HO}, SameX g H (upd H g o) := fun {o} => SameX.upd (SameX.refl g H)
    simp [tPar, tPar3, -List.lookup_eq_none_iff, sizeLine_eq, tSl, tPart, tNoPart, rSlS, cut_lo, cut_hi, gc_cons, gn_nil, tJs, tFmt8, S_empty, tTup, tNever, tNext, tM1, tM0, tRet, tRetN, tAndV, tOrV, tNotV, tCall, tMeth, tProp, tVar, tC, tCons, tNil, L2.start, tChain, tTest, rI, rI0, tOp, tUn, tSeq, tIfS, tAnd, tOr, tNot, tB, tIf, tAsg, gName, tDrop, tCB, tFld, rEq, rNe, scal, rIsi_int, rIsi_bl, rIsi_str, rIsi_non, kit_ii, kit_ib, kit_is, kit_bi, kit_bb, kit_bs, kit_si, kit_sb, kit_ss, kit_ni, kit_nb, kit_ns, S_inj, S_app, S_len, S_list, S_one, lit_no, lit_sp, lit_nl, lit_eq, cx_K, ex2, ex3, ex2b, rd_spN, rd_spC, rd_spI, rd_spIII, rd_spS, kNL, kBL, kES, kSB]
    refine rd0 hg ⟨x, rfl, ?_⟩
    by_cases hx0 : 0 < x
    · rw [if_pos hx0]
      refine rd0 hg ⟨x, rfl, hm, rd0 hg ⟨x, rfl, cd x, ?_⟩⟩
      refine ⟨.ref g, rfl, g, _, 0, 0, rfl, rfl, hg, rfl, ?_⟩
      refine ⟨_, rfl, k _ _ (Int.emod_nonneg _ (by omega)) (Int.emod_lt_of_pos _ hm) sx ⟨_, _, _, upd_same, Int.ediv_nonneg hx (by omega), hy, hy2, hz, by omega⟩⟩
    · rw [if_neg hx0]
      refine rd2 hg ⟨z, rfl, ?_⟩
      refine ⟨.ref g, rfl, g, _, 2, 2, rfl, rfl, hg, rfl, ?_⟩
      have hg2 : upd H g (.lst [.int x, .int y, .int (z + 1)]) g = some (.lst [.int x, .int y, .int (z + 1)]) := upd_same
      show tSeq _ _ _ _ (upd H g (.lst [.int x, .int y, .int (z + 1)]))
      generalize hH : upd H g (.lst [.int x, .int y, .int (z + 1)]) = H1 at hg2
      simp [tPar, tPar3, -List.lookup_eq_none_iff, sizeLine_eq, tSl, tPart, tNoPart, rSlS, cut_lo, cut_hi, gc_cons, gn_nil, tJs, tFmt8, S_empty, tTup, tNever, tNext, tM1, tM0, tRet, tRetN, tAndV, tOrV, tNotV, tCall, tMeth, tProp, tVar, tC, tCons, tNil, L2.start, tChain, tTest, rI, rI0, tOp, tUn, tSeq, tIfS, tAnd, tOr, tNot, tB, tIf, tAsg, gName, tDrop, tCB, tFld, rEq, rNe, scal, rIsi_int, rIsi_bl, rIsi_str, rIsi_non, kit_ii, kit_ib, kit_is, kit_bi, kit_bb, kit_bs, kit_si, kit_sb, kit_ss, kit_ni, kit_nb, kit_ns, S_inj, S_app, S_len, S_list, S_one, lit_no, lit_sp, lit_nl, lit_eq, cx_K, ex2, ex3, ex2b, rd_spN, rd_spC, rd_spI, rd_spIII, rd_spS, kNL, kBL, kES, kSB]
      have q1 := Int.emod_nonneg ((y + 1000033 * (z + 1)) ^ 3) (by decide : (2305843009213693921 : Int) ≠ 0)
      have q2 := Int.emod_lt_of_pos ((y + 1000033 * (z + 1)) ^ 3) (by decide : (0 : Int) < 2305843009213693921)
      refine rd1 hg2 (rd2 hg2 ⟨z + 1, rfl, .inl ⟨by decide, by decide⟩, y, rfl, ⟨by decide, by decide, by omega⟩, rd2 hg2 ⟨z + 1, rfl, .inl ⟨by decide, by decide⟩, ⟨by decide, by decide, ?_⟩, ⟨by decide, by decide⟩, hm, ?_⟩⟩)
      · generalize (y + 1000033 * (z + 1)) ^ 3 % 2305843009213693921 = e at q1 q2
        omega
      · exact k _ _ (Int.emod_nonneg _ (by omega)) (Int.emod_lt_of_pos _ hm) (by rw [← hH]; exact sx) ⟨x, y, z + 1, hg2, hx, hy, hy2, by omega, by omega⟩
def spOf : Sp := fun us H Q _ => ∃ (g d : Addr) (xs : List V) (n : Nat), us = [.ref g, .ref d] ∧ H d = some (.lst xs) ∧ d ≠ g ∧ xs ≠ [] ∧ xs.length ≤ 100 ∧ Bag H g n ∧ n ≤ 1000000 ∧ ∀ v H', v ∈ xs → SameX g H H' → Bag H' g (n + 1) → Q v H'
theorem sc_law_of : FnScope ["_law_bag_here", "_law_some"] ["_law_bag_here", "_law_some"] (defScope s_law_of) := ⟨rfl, rfl, rfl, by decide +kernel, rfl, by decide +kernel, by decide +kernel⟩
theorem ok_law_of (T : Tx K mg) : Fok P w K mg base 2 d_law_of ["_law_bag_here", "_law_some"] [] spOf := by
  refine fok T.F_law_of sc_law_of (fun vs H Q E h => ?_) (fun _ _ _ _ _ _ us hl => match us, hl with | [_, _], _ => rfl) (fun cdv A outer s H vs Q E hr h => ?_)
  · obtain ⟨g, d, xs, n, rfl, _⟩ := h; rfl
  · obtain ⟨g, d, xs, n, rfl, hd, hdg, hx, hl, B, hn, k⟩ := h
    have hu := hu_of hr
    refine ⟨_, (pss_one (ps_ret (pe_ix ix_list (pv 1) (pe_cF (ok_law_take T) (hr.mono (by decide)) T.g__law_take (pa_cons (pv 0) (pa_cons (pe_callB call_len_seq (by rfl) T.n_len PySem.boot_len (pa_cons (pv 1) pa_nil)) pa_nil))) (fun _ _ => rfl)))), ?_⟩
    have hx2 : 0 < xs.length := List.length_pos_iff.mpr hx
    simp [tPar, tPar3, -List.lookup_eq_none_iff, sizeLine_eq, tSl, tPart, tNoPart, rSlS, cut_lo, cut_hi, gc_cons, gn_nil, tJs, tFmt8, S_empty, tTup, tNever, tNext, tM1, tM0, tRet, tRetN, tAndV, tOrV, tNotV, tCall, tMeth, tProp, tVar, tC, tCons, tNil, L2.start, tChain, tTest, rI, rI0, tOp, tUn, tSeq, tIfS, tAnd, tOr, tNot, tB, tIf, tAsg, gName, tDrop, tCB, tFld, rEq, rNe, scal, rIsi_int, rIsi_bl, rIsi_str, rIsi_non, kit_ii, kit_ib, kit_is, kit_bi, kit_bb, kit_bs, kit_si, kit_sb, kit_ss, kit_ni, kit_nb, kit_ns, S_inj, S_app, S_len, S_list, S_one, lit_no, lit_sp, lit_nl, lit_eq, cx_K, ex2, ex3, ex2b, rd_spN, rd_spC, rd_spI, rd_spIII, rd_spS, kNL, kBL, kES, kSB]
    refine ⟨xs, .inl (SqL.of hd), g, xs.length, n, rfl, by omega, by omega, B, hn, fun r H' h0 h1 s' B' => ?_⟩
    have hr2 : r = (r.toNat : Int) := by omega
    rw [hr2]
    have hlt : r.toNat < xs.length := by omega
    exact ⟨d, xs, _, _, rfl, rfl, SqL.of (s' _ _ hdg hd), atI_nat (by simp [hlt] : xs[r.toNat]? = some xs[r.toNat]), k _ _ (List.getElem_mem _) s' B'⟩
end
end K45
end
section
namespace K45
open PySem PySem.Spec PyProof.Rows L2 Pt
def sg (i : Nat) : Nat := if i < 4 then 33 + i else 34 + i
def sgs : List Nat := (List.range 93).map sg
theorem sg_ok {i : Nat} (h : i < 93) : isSign (sg i) = true := by
  unfold sg isSign
  split <;> simp <;> omega
theorem sg_inj {i j : Nat} (h : sg i = sg j) : i = j := by
  unfold sg at h
  split at h <;> split at h <;> omega
def moreL (f m : Nat) : List Nat := (List.range m).map fun k => sg ((f + 7 * k) % 93)
theorem moreL_ok {f m : Nat} (hm : m ≤ 93) : sgsB (moreL f m) = true := by
  unfold sgsB moreL
  rw [Bool.and_eq_true, decide_eq_true_iff]
  constructor
  · rw [List.all_eq_true]
    intro c hc
    obtain ⟨k, _, rfl⟩ := List.mem_map.mp hc
    exact sg_ok (Nat.mod_lt _ (by decide))
  · unfold List.Nodup
    rw [List.pairwise_map]
    refine List.Pairwise.imp_of_mem (fun {a b} ha hb hab e => ?_) List.pairwise_lt_range
    have h := sg_inj e
    have := List.mem_range.mp ha
    have := List.mem_range.mp hb
    omega
theorem flat_one : ∀ l : List Nat, (l.map fun c => [c]).flatten = l
  | [] => rfl
  | x :: r => by simp [flat_one r]
theorem Bag.ne {H H1 : Hp} {g d : Addr} {n : Nat} {o : HO} (B : Bag H g n) (s : SameX g H1 H) (h : H d = some o) (h2 : ∀ x y z, o ≠ .lst [.int x, .int y, .int z]) : d ≠ g := by
  intro e
  subst e
  obtain ⟨x, y, z, h1, _⟩ := B
  rw [h] at h1
  exact h2 x y z (Option.some.inj h1)
section
variable {P : Program} {w : World} {K : Fg} {mg : Str → Option Value} {base : Heap}
theorem str_eq {H : Hp} {Q : VK} {a b : Str} (e : a = b) (k : Q (.str b) H) : Q (.str a) H := by rw [e]; exact k
theorem sc_law_all_signs : FnScope ["_law_capitals_here"] [] (defScope s_law_all_signs) := ⟨rfl, rfl, rfl, by decide +kernel, rfl, by decide +kernel, by decide +kernel⟩
theorem ok_law_all_signs (T : Tx K mg) : Fok P w K mg base 1 d_law_all_signs [] [] (fun us H Q _ => us = [] ∧ Q (Pt.vs sgs) H) := by
  refine fok T.F_law_all_signs sc_law_all_signs (fun vs H Q E h => ?_) (fun _ _ _ _ _ _ us hl => match us, hl with | [], _ => rfl) (fun cdv A outer s H vs Q E hr h => ?_)
  · obtain ⟨rfl, _⟩ := h; rfl
  · obtain ⟨rfl, k⟩ := h
    refine ⟨_, (pss_cons (ps_set (i := 0) sc_law_all_signs.nd rfl (Or.inl rfl) pe_str)
        (pss_one (ps_ret (pe_op op_add_str (pe_op op_add_str (pe_op op_add_str (pe_op op_add_str pe_str (pv 0)) pe_str) (pe_lower (pv 0))) pe_str)))), ?_⟩
    simp [tPar, tPar3, -List.lookup_eq_none_iff, sizeLine_eq, tSl, tPart, tNoPart, rSlS, cut_lo, cut_hi, gc_cons, gn_nil, tJs, tFmt8, S_empty, tTup, tNever, tNext, tM1, tM0, tRet, tRetN, tAndV, tOrV, tNotV, tCall, tMeth, tProp, tVar, tC, tCons, tNil, L2.start, tChain, tTest, rI, rI0, tOp, tUn, tSeq, tIfS, tAnd, tOr, tNot, tB, tIf, tAsg, gName, tDrop, tCB, tFld, rEq, rNe, scal, rIsi_int, rIsi_bl, rIsi_str, rIsi_non, kit_ii, kit_ib, kit_is, kit_bi, kit_bb, kit_bs, kit_si, kit_sb, kit_ss, kit_ni, kit_nb, kit_ns, S_inj, S_app, S_len, S_list, S_one, lit_no, lit_sp, lit_nl, lit_eq, cx_K, ex2, ex3, ex2b, rd_spN, rd_spC, rd_spI, rd_spIII, rd_spS, kNL, kBL, kES, kSB, -S_app]
    exact ⟨by decide +kernel, by decide +kernel, by decide +kernel, by decide +kernel, by decide +kernel, str_eq (by decide +kernel) k⟩
def spQuoted : Sp := fun us H Q _ => ∃ (g : Addr) (n : Nat), us = [.ref g] ∧ Bag H g n ∧ n ≤ 999000 ∧ ∀ q p H', QOk q → SameX g H H' → Bag H' g (n + 6) → H' p = some (.tup [.int q.w, .bl q.b, Pt.vs q.a]) → Q (.ref p) H'
theorem sc_law_quoted : FnScope ["_law_bag_here", "_law_some", "_law_wide", "_law_first", "_law_more", "_law_k"] ["_law_bag_here"] (defScope s_law_quoted) := ⟨rfl, rfl, rfl, by decide +kernel, rfl, by decide +kernel, by decide +kernel⟩
theorem ok_law_quoted (T : Tx K mg) : Fok P w K mg base 3 d_law_quoted ["_law_bag_here"] [] spQuoted := by
  refine fok T.F_law_quoted sc_law_quoted (fun vs H Q E h => ?_) (fun _ _ _ _ _ _ us hl => match us, hl with | [_], _ => rfl) (fun cdv A outer s H vs Q E hr h => ?_)
  · obtain ⟨g, n, rfl, _⟩ := h; rfl
  · obtain ⟨g, n, rfl, B, hn, k⟩ := h
    have hu := hu_of hr
    refine ⟨_, (pss_cons (ps_asg (pe_tup (pa_cons (pe_cF0 (ok_law_all_signs T) (hr.mono (by decide)) T.g__law_all_signs) (pa_cons (pe_cF (ok_law_of T) (hr.mono (by decide)) T.g__law_of (pa_cons (pv 0) (pa_cons (pe_lst (pa_cons pe_int (pa_cons pe_int (pa_cons pe_int (pa_cons pe_int (pa_cons pe_int (pa_cons pe_int (pa_cons pe_int (pa_cons pe_int (pa_cons pe_int (pa_cons pe_int (pa_cons (pe_op op_add pe_int (pe_cF (ok_law_take T) (hr.mono (by decide)) T.g__law_take (pa_cons (pv 0) (pa_cons pe_int pa_nil)))) pa_nil)))))))))))) pa_nil))) pa_nil))) (pg_tup rfl (pgs_cons (pg_name (i := 1) sc_law_quoted.nd rfl (Or.inr rfl)) (pgs_cons (pg_name (i := 2) sc_law_quoted.nd rfl (Or.inl rfl)) pgs_nil))))
        (pss_cons (ps_set (i := 3) sc_law_quoted.nd rfl (Or.inr rfl) (pe_cF (ok_law_take T) (hr.mono (by decide)) T.g__law_take (pa_cons (pv 0) (pa_cons pe_int pa_nil))))
        (pss_cons (ps_setLc (i := 4) (own := [("_law_k", 5)]) (g := gName 5) (by rfl) sc_law_quoted.nd rfl rfl (sw_true rfl rfl rfl (by decide +kernel)) (pi_range1 rfl T.n_range (pa_cons (pe_cF (ok_law_of T) (hr.mono (by decide)) T.g__law_of (pa_cons (pv 0) (pa_cons (pe_lst (pa_cons pe_int (pa_cons pe_int (pa_cons pe_int (pa_cons pe_int (pa_cons pe_int pa_nil)))))) pa_nil))) pa_nil)) (blkOk_by (own := [("_law_k", 5)]) (N := ["_law_bag_here", "_law_some", "_law_wide", "_law_first", "_law_more", "_law_k"]) (sc := defScope s_law_quoted) (by decide +kernel)) (fun _ _ _ _ _ => pg_name (i := 5) sc_law_quoted.nd rfl (Or.inl rfl)) (fun _ _ _ _ _ => pts_nil) (fun _ _ _ _ _ => (pe_item_str (pv 1) (pe_op op_mod (pe_op op_add (pv 3) (pe_op op_mul pe_int (pv 5))) pe_int) (fun _ _ => rfl))))
        (pss_one (ps_ret (pe_tup (pa_cons (pv 2) (pa_cons (pe_cmpR op_eq (pe_cF (ok_law_take T) (hr.mono (by decide)) T.g__law_take (pa_cons (pv 0) (pa_cons pe_int pa_nil))) pe_int (nomark _)) (pa_cons (pe_join pe_str (pv 4)) pa_nil))))))))), ?_⟩
    simp [tPar, tPar3, -List.lookup_eq_none_iff, sizeLine_eq, tSl, tPart, tNoPart, rSlS, cut_lo, cut_hi, gc_cons, gn_nil, tJs, tFmt8, S_empty, tTup, tNever, tNext, tM1, tM0, tRet, tRetN, tAndV, tOrV, tNotV, tCall, tMeth, tProp, tVar, tC, tCons, tNil, L2.start, tChain, tTest, rI, rI0, tOp, tUn, tSeq, tIfS, tAnd, tOr, tNot, tB, tIf, tAsg, gName, tDrop, tCB, tFld, rEq, rNe, scal, rIsi_int, rIsi_bl, rIsi_str, rIsi_non, kit_ii, kit_ib, kit_is, kit_bi, kit_bb, kit_bs, kit_si, kit_sb, kit_ss, kit_ni, kit_nb, kit_ns, S_inj, S_app, S_len, S_list, S_one, lit_no, lit_sp, lit_nl, lit_eq, cx_K, ex2, ex3, ex2b, rd_spN, rd_spC, rd_spI, rd_spIII, rd_spS, kNL, kBL, kES, kSB, tLst]
    refine ⟨g, 73, n, rfl, by decide, by decide, B, by omega, fun r H1 h0 h1 s1 B1 => ?_⟩
    (try simp [tPar, tPar3, -List.lookup_eq_none_iff, sizeLine_eq, tSl, tPart, tNoPart, rSlS, cut_lo, cut_hi, gc_cons, gn_nil, tJs, tFmt8, S_empty, tTup, tNever, tNext, tM1, tM0, tRet, tRetN, tAndV, tOrV, tNotV, tCall, tMeth, tProp, tVar, tC, tCons, tNil, L2.start, tChain, tTest, rI, rI0, tOp, tUn, tSeq, tIfS, tAnd, tOr, tNot, tB, tIf, tAsg, gName, tDrop, tCB, tFld, rEq, rNe, scal, rIsi_int, rIsi_bl, rIsi_str, rIsi_non, kit_ii, kit_ib, kit_is, kit_bi, kit_bb, kit_bs, kit_si, kit_sb, kit_ss, kit_ni, kit_nb, kit_ns, S_inj, S_app, S_len, S_list, S_one, lit_no, lit_sp, lit_nl, lit_eq, cx_K, ex2, ex3, ex2b, rd_spN, rd_spC, rd_spI, rd_spIII, rd_spS, kNL, kBL, kES, kSB])
    intro p hp
    have Bp := B1.same (same_upd hp (o := .lst [.int 0, .int 4, .int 4, .int 5, .int 6, .int 7, .int 8, .int 12, .int 20, .int 76, .int (4 + r)]))
    refine ⟨g, p, _, n + 1, rfl, upd_same, Bp.ne (SameX.refl _ _) upd_same (fun x y z e => by simp at e), by simp, by simp, Bp, by omega, fun v H2 hv s2 B2 => ?_⟩
    obtain ⟨wd, rfl, hw⟩ : ∃ wd : Int, v = .int wd ∧ (wd = 0 ∨ 4 ≤ wd ∧ wd ≤ 76) := by
      simp at hv
      rcases hv with rfl | rfl | rfl | rfl | rfl | rfl | rfl | rfl | rfl | rfl | rfl
      all_goals exact ⟨_, rfl, by omega⟩
    have s12 : SameX g H H2 := (s1.trans (Same.sameX (same_upd hp))).trans s2
    intro p2 hp2
    refine gTup_at upd_same rfl ?_
    simp [tPar, tPar3, -List.lookup_eq_none_iff, sizeLine_eq, tSl, tPart, tNoPart, rSlS, cut_lo, cut_hi, gc_cons, gn_nil, tJs, tFmt8, S_empty, tTup, tNever, tNext, tM1, tM0, tRet, tRetN, tAndV, tOrV, tNotV, tCall, tMeth, tProp, tVar, tC, tCons, tNil, L2.start, tChain, tTest, rI, rI0, tOp, tUn, tSeq, tIfS, tAnd, tOr, tNot, tB, tIf, tAsg, gName, tDrop, tCB, tFld, rEq, rNe, scal, rIsi_int, rIsi_bl, rIsi_str, rIsi_non, kit_ii, kit_ib, kit_is, kit_bi, kit_bb, kit_bs, kit_si, kit_sb, kit_ss, kit_ni, kit_nb, kit_ns, S_inj, S_app, S_len, S_list, S_one, lit_no, lit_sp, lit_nl, lit_eq, cx_K, ex2, ex3, ex2b, rd_spN, rd_spC, rd_spI, rd_spIII, rd_spS, kNL, kBL, kES, kSB]
    have B3 := B2.same (same_upd hp2 (o := .tup [Pt.vs sgs, .int wd]))
    have s3 := s12.trans (Same.sameX (same_upd hp2 (o := .tup [Pt.vs sgs, .int wd])))
    refine ⟨g, 93, n + 2, rfl, by decide, by decide, B3, by omega, fun f H3 f0 f1 s4 B4 => ?_⟩
    simp [tPar, tPar3, -List.lookup_eq_none_iff, sizeLine_eq, tSl, tPart, tNoPart, rSlS, cut_lo, cut_hi, gc_cons, gn_nil, tJs, tFmt8, S_empty, tTup, tNever, tNext, tM1, tM0, tRet, tRetN, tAndV, tOrV, tNotV, tCall, tMeth, tProp, tVar, tC, tCons, tNil, L2.start, tChain, tTest, rI, rI0, tOp, tUn, tSeq, tIfS, tAnd, tOr, tNot, tB, tIf, tAsg, gName, tDrop, tCB, tFld, rEq, rNe, scal, rIsi_int, rIsi_bl, rIsi_str, rIsi_non, kit_ii, kit_ib, kit_is, kit_bi, kit_bb, kit_bs, kit_si, kit_sb, kit_ss, kit_ni, kit_nb, kit_ns, S_inj, S_app, S_len, S_list, S_one, lit_no, lit_sp, lit_nl, lit_eq, cx_K, ex2, ex3, ex2b, rd_spN, rd_spC, rd_spI, rd_spIII, rd_spS, kNL, kBL, kES, kSB, tLc_rng, tLst]
    intro p5 hp5
    have B5 := B4.same (same_upd hp5 (o := .lst [.int 0, .int 0, .int 1, .int 3, .int 93]))
    refine ⟨g, p5, _, n + 3, rfl, upd_same, B5.ne (SameX.refl _ _) upd_same (fun x y z e => by simp at e), by simp, by simp, B5, by omega, fun v H6 hv s6 B6 => ?_⟩
    obtain ⟨m, rfl, hm⟩ : ∃ m : Nat, v = vi m ∧ m ≤ 93 := by
      simp at hv
      rcases hv with rfl | rfl | rfl | rfl
      · exact ⟨0, rfl, by decide⟩
      · exact ⟨1, rfl, by decide⟩
      · exact ⟨3, rfl, by decide⟩
      · exact ⟨93, rfl, by decide⟩
    have s7' : SameX g H H6 := (s3.trans s4).trans ((Same.sameX (same_upd hp5)).trans s6)
    obtain ⟨f, rfl⟩ : ∃ f' : Nat, f = f' := ⟨f.toNat, by omega⟩
    refine InnR.of (n := m) (fun k => Pt.vs [sg ((f + 7 * k) % 93)]) (by omega) (fun i H7 R hi s7 hR => ⟨rfl, ?_⟩) fun D H8 s8 e8 => ?_
    · simp [tPar, tPar3, -List.lookup_eq_none_iff, sizeLine_eq, tSl, tPart, tNoPart, rSlS, cut_lo, cut_hi, gc_cons, gn_nil, tJs, tFmt8, S_empty, tTup, tNever, tNext, tM1, tM0, tRet, tRetN, tAndV, tOrV, tNotV, tCall, tMeth, tProp, tVar, tC, tCons, tNil, L2.start, tChain, tTest, rI, rI0, tOp, tUn, tSeq, tIfS, tAnd, tOr, tNot, tB, tIf, tAsg, gName, tDrop, tCB, tFld, rEq, rNe, scal, rIsi_int, rIsi_bl, rIsi_str, rIsi_non, kit_ii, kit_ib, kit_is, kit_bi, kit_bb, kit_bs, kit_si, kit_sb, kit_ss, kit_ni, kit_nb, kit_ns, S_inj, S_app, S_len, S_list, S_one, lit_no, lit_sp, lit_nl, lit_eq, cx_K, ex2, ex3, ex2b, rd_spN, rd_spC, rd_spI, rd_spIII, rd_spS, kNL, kBL, kES, kSB, wipe]
      have e : (((f : Int) + 7 * (i : Int)) % 93) = (((f + 7 * i) % 93 : Nat) : Int) := by omega
      have l : sgs.length = 93 := by simp [sgs]
      rw [e, l, Int.toNat_natCast]
      have hlt := Nat.mod_lt (f + 7 * i) (by decide : 93 > 0)
      refine ⟨.inl ⟨by decide, by decide⟩, by omega, by omega, by omega, sg ((f + 7 * i) % 93), ?_, hR H7 (Same.refl H7)⟩
      unfold sgs
      rw [List.getElem?_map, List.getElem?_range hlt]; rfl
    · simp [tPar, tPar3, -List.lookup_eq_none_iff, sizeLine_eq, tSl, tPart, tNoPart, rSlS, cut_lo, cut_hi, gc_cons, gn_nil, tJs, tFmt8, S_empty, tTup, tNever, tNext, tM1, tM0, tRet, tRetN, tAndV, tOrV, tNotV, tCall, tMeth, tProp, tVar, tC, tCons, tNil, L2.start, tChain, tTest, rI, rI0, tOp, tUn, tSeq, tIfS, tAnd, tOr, tNot, tB, tIf, tAsg, gName, tDrop, tCB, tFld, rEq, rNe, scal, rIsi_int, rIsi_bl, rIsi_str, rIsi_non, kit_ii, kit_ib, kit_is, kit_bi, kit_bb, kit_bs, kit_si, kit_sb, kit_ss, kit_ni, kit_nb, kit_ns, S_inj, S_app, S_len, S_list, S_one, lit_no, lit_sp, lit_nl, lit_eq, cx_K, ex2, ex3, ex2b, rd_spN, rd_spC, rd_spI, rd_spIII, rd_spS, kNL, kBL, kES, kSB]
      have B8 := B6.same s8
      have hDg : D ≠ g := B8.ne (SameX.refl _ _) e8 (fun x y z e => by
        cases m with
        | zero => simp at e
        | succ m => rw [List.range_succ_eq_map] at e; simp at e)
      refine ⟨g, 3, n + 4, rfl, by decide, by decide, B8, by omega, fun r2 H9 _ _ s9 B9 => ?_⟩
      have e9 := s9 _ _ hDg e8
      simp [tPar, tPar3, -List.lookup_eq_none_iff, sizeLine_eq, tSl, tPart, tNoPart, rSlS, cut_lo, cut_hi, gc_cons, gn_nil, tJs, tFmt8, S_empty, tTup, tNever, tNext, tM1, tM0, tRet, tRetN, tAndV, tOrV, tNotV, tCall, tMeth, tProp, tVar, tC, tCons, tNil, L2.start, tChain, tTest, rI, rI0, tOp, tUn, tSeq, tIfS, tAnd, tOr, tNot, tB, tIf, tAsg, gName, tDrop, tCB, tFld, rEq, rNe, scal, rIsi_int, rIsi_bl, rIsi_str, rIsi_non, kit_ii, kit_ib, kit_is, kit_bi, kit_bb, kit_bs, kit_si, kit_sb, kit_ss, kit_ni, kit_nb, kit_ns, S_inj, S_app, S_len, S_list, S_one, lit_no, lit_sp, lit_nl, lit_eq, cx_K, ex2, ex3, ex2b, rd_spN, rd_spC, rd_spI, rd_spIII, rd_spS, kNL, kBL, kES, kSB]
      have ej : Txt.join (S []) ((List.range m).map fun k => S [sg ((f + 7 * k) % 93)]) = S (moreL f m) := by
        have : ((List.range m).map fun k => S [sg ((f + 7 * k) % 93)]) = ((moreL f m).map fun c => [c]).map S := by unfold moreL; simp
        rw [this, join_S]
        congr 1
        exact flat_one _
      have el : (((List.range m).map fun k => S [sg ((f + 7 * k) % 93)]).map fun x => x.length).sum ≤ 16777216 := by
        have e1 : ((List.range m).map fun k => S [sg ((f + 7 * k) % 93)]) = ((moreL f m).map fun c => [c]).map S := by unfold moreL; simp
        rw [e1]
        refine Nat.le_trans (sum_le 1 ((moreL f m).map fun c => [c]) (fun y hy => by
          obtain ⟨c, _, rfl⟩ := List.mem_map.mp hy
          exact Nat.le_refl 1)) ?_
        unfold moreL
        simp
        omega
      refine ⟨(List.range m).map fun k => S [sg ((f + 7 * k) % 93)], .inl (SqL.of (by rw [e9, List.map_map]; rfl)), el, fun p9 hp9 => ?_⟩
      rw [ej]
      exact k ⟨wd, decide (r2 = 0), moreL f m⟩ p9 _ ⟨hw, moreL_ok hm, by unfold moreL; simp; omega⟩ ((s7'.trans (Same.sameX s8)).trans (s9.trans (Same.sameX (same_upd hp9)))) ((B9.same (same_upd hp9)).mono (by omega)) upd_same
end
end K45
end
section
namespace K45
open PySem PySem.Spec PyProof.Rows L2 Pt
theorem hex_dig : ∀ k : Fin 16, (Str.ofString "0123456789ABCDEF").cps[k.1]? = some (hexd k.1) := by decide +kernel
section
variable {P : Program} {w : World} {K : Fg} {mg : Str → Option Value} {base : Heap}
def TupQ (H : Hp) (t : Addr) (q : QC) : Prop := H t = some (.tup [.int q.w, .bl q.b, Pt.vs q.a])
def TupR (H : Hp) (t : Addr) (u : RC) : Prop := H t = some (.tup [.bl u.lines, .bl u.loose, .bl u.fold])
theorem ixT {K : Fg} {H : Hp} {t : Addr} {xs : List V} {i : Nat} {v : V} {Q : VK} (h : H t = some (.tup xs)) (e : xs[i]? = some v) (k : Q v H) : rIxT K (.ref t) (.int (i : Int)) H Q := ⟨t, xs, _, v, rfl, rfl, SqT.of h, atI_nat e, k⟩
theorem sc_law_quoting : FnScope ["_law_code"] ["_law_code"] (defScope s_law_quoting) := ⟨rfl, rfl, rfl, by decide +kernel, rfl, by decide +kernel, by decide +kernel⟩
theorem ok_law_quoting (T : Tx K mg) : Fok P w K mg base 8 d_law_quoting ["_law_code"] [] (fun us H Q _ => ∃ t q, us = [.ref t] ∧ TupQ H t q ∧ QOk q ∧ ∀ c H', Same H H' → Qo K H' c q → Q (.ref c) H') := by
  refine fok T.F_law_quoting sc_law_quoting (fun vs H Q E h => ?_) (fun _ _ _ _ _ _ us hl => match us, hl with | [_], _ => rfl) (fun cdv A outer s H vs Q E hr h => ?_)
  · obtain ⟨t, q, rfl, _⟩ := h; rfl
  · obtain ⟨t, q, rfl, ht, hq, k⟩ := h
    refine ⟨_, (pss_one (ps_ret (pe_mkK0 (ok_Quoted_init_wba T) (hr.mono (by decide)) T.k_Quoted T.g_Quoted (pk_cons (pe_ix ix_tup (pv 0) pe_int (fun _ _ => rfl)) (pk_cons (pe_ix ix_tup (pv 0) pe_int (fun _ _ => rfl)) (pk_cons (pe_ix ix_tup (pv 0) pe_int (fun _ _ => rfl)) pk_nil)))))), ?_⟩
    simp [tPar, tPar3, -List.lookup_eq_none_iff, sizeLine_eq, tSl, tPart, tNoPart, rSlS, cut_lo, cut_hi, gc_cons, gn_nil, tJs, tFmt8, S_empty, tTup, tNever, tNext, tM1, tM0, tRet, tRetN, tAndV, tOrV, tNotV, tCall, tMeth, tProp, tVar, tC, tCons, tNil, L2.start, tChain, tTest, rI, rI0, tOp, tUn, tSeq, tIfS, tAnd, tOr, tNot, tB, tIf, tAsg, gName, tDrop, tCB, tFld, rEq, rNe, scal, rIsi_int, rIsi_bl, rIsi_str, rIsi_non, kit_ii, kit_ib, kit_is, kit_bi, kit_bb, kit_bs, kit_si, kit_sb, kit_ss, kit_ni, kit_nb, kit_ns, S_inj, S_app, S_len, S_list, S_one, lit_no, lit_sp, lit_nl, lit_eq, cx_K, ex2, ex3, ex2b, rd_spN, rd_spC, rd_spI, rd_spIII, rd_spS, kNL, kBL, kES, kSB, tMakeK]
    refine ixT (i := 0) ht rfl (ixT (i := 1) ht rfl (ixT (i := 2) ht rfl ?_))
    (try simp [tPar, tPar3, -List.lookup_eq_none_iff, sizeLine_eq, tSl, tPart, tNoPart, rSlS, cut_lo, cut_hi, gc_cons, gn_nil, tJs, tFmt8, S_empty, tTup, tNever, tNext, tM1, tM0, tRet, tRetN, tAndV, tOrV, tNotV, tCall, tMeth, tProp, tVar, tC, tCons, tNil, L2.start, tChain, tTest, rI, rI0, tOp, tUn, tSeq, tIfS, tAnd, tOr, tNot, tB, tIf, tAsg, gName, tDrop, tCB, tFld, rEq, rNe, scal, rIsi_int, rIsi_bl, rIsi_str, rIsi_non, kit_ii, kit_ib, kit_is, kit_bi, kit_bb, kit_bs, kit_si, kit_sb, kit_ss, kit_ni, kit_nb, kit_ns, S_inj, S_app, S_len, S_list, S_one, lit_no, lit_sp, lit_nl, lit_eq, cx_K, ex2, ex3, ex2b, rd_spN, rd_spC, rd_spI, rd_spIII, rd_spS, kNL, kBL, kES, kSB])
    intro x dx hx hdx hn
    refine ⟨x, q, dx, rfl, hq, upd_same, fun H' s' W => ?_⟩
    simp [tPar, tPar3, -List.lookup_eq_none_iff, sizeLine_eq, tSl, tPart, tNoPart, rSlS, cut_lo, cut_hi, gc_cons, gn_nil, tJs, tFmt8, S_empty, tTup, tNever, tNext, tM1, tM0, tRet, tRetN, tAndV, tOrV, tNotV, tCall, tMeth, tProp, tVar, tC, tCons, tNil, L2.start, tChain, tTest, rI, rI0, tOp, tUn, tSeq, tIfS, tAnd, tOr, tNot, tB, tIf, tAsg, gName, tDrop, tCB, tFld, rEq, rNe, scal, rIsi_int, rIsi_bl, rIsi_str, rIsi_non, kit_ii, kit_ib, kit_is, kit_bi, kit_bb, kit_bs, kit_si, kit_sb, kit_ss, kit_ni, kit_nb, kit_ns, S_inj, S_app, S_len, S_list, S_one, lit_no, lit_sp, lit_nl, lit_eq, cx_K, ex2, ex3, ex2b, rd_spN, rd_spC, rd_spI, rd_spIII, rd_spS, kNL, kBL, kES, kSB]
    have a2 : Same H (upd (upd H dx (.own x)) x (.ins (CQ K) dx [])) := same_put hx (same_upd hdx)
    exact k x H' (fun b u e => s' b u (ne_of_none e hx) (a2 b u e)) W
theorem sc_law_rules : FnScope ["_law_bag_here"] ["_law_bag_here"] (defScope s_law_rules) := ⟨rfl, rfl, rfl, by decide +kernel, rfl, by decide +kernel, by decide +kernel⟩
theorem ok_law_rules (T : Tx K mg) : Fok P w K mg base 2 d_law_rules ["_law_bag_here"] [] (fun us H Q _ => ∃ (g : Addr) (n : Nat), us = [.ref g] ∧ Bag H g n ∧ n ≤ 999000 ∧ ∀ u p H', SameX g H H' → Bag H' g (n + 3) → TupR H' p u → Q (.ref p) H') := by
  refine fok T.F_law_rules sc_law_rules (fun vs H Q E h => ?_) (fun _ _ _ _ _ _ us hl => match us, hl with | [_], _ => rfl) (fun cdv A outer s H vs Q E hr h => ?_)
  · obtain ⟨g, n, rfl, _⟩ := h; rfl
  · obtain ⟨g, n, rfl, B, hn, k⟩ := h
    refine ⟨_, (pss_one (ps_ret (pe_tup (pa_cons (pe_cmpR op_gt (pe_cF (ok_law_take T) (hr.mono (by decide)) T.g__law_take (pa_cons (pv 0) (pa_cons pe_int pa_nil))) pe_int (nomark _)) (pa_cons (pe_cmpR op_eq (pe_cF (ok_law_take T) (hr.mono (by decide)) T.g__law_take (pa_cons (pv 0) (pa_cons pe_int pa_nil))) pe_int (nomark _)) (pa_cons (pe_cmpR op_eq (pe_cF (ok_law_take T) (hr.mono (by decide)) T.g__law_take (pa_cons (pv 0) (pa_cons pe_int pa_nil))) pe_int (nomark _)) pa_nil)))))), ?_⟩
    simp [tPar, tPar3, -List.lookup_eq_none_iff, sizeLine_eq, tSl, tPart, tNoPart, rSlS, cut_lo, cut_hi, gc_cons, gn_nil, tJs, tFmt8, S_empty, tTup, tNever, tNext, tM1, tM0, tRet, tRetN, tAndV, tOrV, tNotV, tCall, tMeth, tProp, tVar, tC, tCons, tNil, L2.start, tChain, tTest, rI, rI0, tOp, tUn, tSeq, tIfS, tAnd, tOr, tNot, tB, tIf, tAsg, gName, tDrop, tCB, tFld, rEq, rNe, scal, rIsi_int, rIsi_bl, rIsi_str, rIsi_non, kit_ii, kit_ib, kit_is, kit_bi, kit_bb, kit_bs, kit_si, kit_sb, kit_ss, kit_ni, kit_nb, kit_ns, S_inj, S_app, S_len, S_list, S_one, lit_no, lit_sp, lit_nl, lit_eq, cx_K, ex2, ex3, ex2b, rd_spN, rd_spC, rd_spI, rd_spIII, rd_spS, kNL, kBL, kES, kSB]
    refine ⟨g, 3, n, rfl, by decide, by decide, B, by omega, fun r1 H1 _ _ s1 B1 => ?_⟩
    simp [tPar, tPar3, -List.lookup_eq_none_iff, sizeLine_eq, tSl, tPart, tNoPart, rSlS, cut_lo, cut_hi, gc_cons, gn_nil, tJs, tFmt8, S_empty, tTup, tNever, tNext, tM1, tM0, tRet, tRetN, tAndV, tOrV, tNotV, tCall, tMeth, tProp, tVar, tC, tCons, tNil, L2.start, tChain, tTest, rI, rI0, tOp, tUn, tSeq, tIfS, tAnd, tOr, tNot, tB, tIf, tAsg, gName, tDrop, tCB, tFld, rEq, rNe, scal, rIsi_int, rIsi_bl, rIsi_str, rIsi_non, kit_ii, kit_ib, kit_is, kit_bi, kit_bb, kit_bs, kit_si, kit_sb, kit_ss, kit_ni, kit_nb, kit_ns, S_inj, S_app, S_len, S_list, S_one, lit_no, lit_sp, lit_nl, lit_eq, cx_K, ex2, ex3, ex2b, rd_spN, rd_spC, rd_spI, rd_spIII, rd_spS, kNL, kBL, kES, kSB]
    refine ⟨g, 3, n + 1, rfl, by decide, by decide, B1, by omega, fun r2 H2 _ _ s2 B2 => ?_⟩
    simp [tPar, tPar3, -List.lookup_eq_none_iff, sizeLine_eq, tSl, tPart, tNoPart, rSlS, cut_lo, cut_hi, gc_cons, gn_nil, tJs, tFmt8, S_empty, tTup, tNever, tNext, tM1, tM0, tRet, tRetN, tAndV, tOrV, tNotV, tCall, tMeth, tProp, tVar, tC, tCons, tNil, L2.start, tChain, tTest, rI, rI0, tOp, tUn, tSeq, tIfS, tAnd, tOr, tNot, tB, tIf, tAsg, gName, tDrop, tCB, tFld, rEq, rNe, scal, rIsi_int, rIsi_bl, rIsi_str, rIsi_non, kit_ii, kit_ib, kit_is, kit_bi, kit_bb, kit_bs, kit_si, kit_sb, kit_ss, kit_ni, kit_nb, kit_ns, S_inj, S_app, S_len, S_list, S_one, lit_no, lit_sp, lit_nl, lit_eq, cx_K, ex2, ex3, ex2b, rd_spN, rd_spC, rd_spI, rd_spIII, rd_spS, kNL, kBL, kES, kSB]
    refine ⟨g, 3, n + 2, rfl, by decide, by decide, B2, by omega, fun r3 H3 _ _ s3 B3 => ?_⟩
    simp [tPar, tPar3, -List.lookup_eq_none_iff, sizeLine_eq, tSl, tPart, tNoPart, rSlS, cut_lo, cut_hi, gc_cons, gn_nil, tJs, tFmt8, S_empty, tTup, tNever, tNext, tM1, tM0, tRet, tRetN, tAndV, tOrV, tNotV, tCall, tMeth, tProp, tVar, tC, tCons, tNil, L2.start, tChain, tTest, rI, rI0, tOp, tUn, tSeq, tIfS, tAnd, tOr, tNot, tB, tIf, tAsg, gName, tDrop, tCB, tFld, rEq, rNe, scal, rIsi_int, rIsi_bl, rIsi_str, rIsi_non, kit_ii, kit_ib, kit_is, kit_bi, kit_bb, kit_bs, kit_si, kit_sb, kit_ss, kit_ni, kit_nb, kit_ns, S_inj, S_app, S_len, S_list, S_one, lit_no, lit_sp, lit_nl, lit_eq, cx_K, ex2, ex3, ex2b, rd_spN, rd_spC, rd_spI, rd_spIII, rd_spS, kNL, kBL, kES, kSB]
    exact fun p hp => k ⟨decide (0 < r1), decide (r2 = 0), decide (r3 = 0)⟩ p _ ((s1.trans s2).trans (s3.trans (Same.sameX (same_upd hp)))) (B3.same (same_upd hp)) upd_same
theorem sc_law_ruling : FnScope ["_law_bag_here", "_law_rules_here", "_law_way"] ["_law_bag_here", "_law_rules_here"] (defScope s_law_ruling) := ⟨rfl, rfl, rfl, by decide +kernel, rfl, by decide +kernel, by decide +kernel⟩
theorem ok_law_ruling (T : Tx K mg) : Fok P w K mg base 5 d_law_ruling ["_law_bag_here", "_law_rules_here"] [] (fun us H Q _ => ∃ (g t : Addr) (n : Nat) (u : RC), us = [.ref g, .ref t] ∧ TupR H t u ∧ Bag H g n ∧ n ≤ 999000 ∧
    ∀ r H', SameX g H H' → Bag H' g (n + 1) → Ro K H' r u → Q (.ref r) H') := by
  refine fok T.F_law_ruling sc_law_ruling (fun vs H Q E h => ?_) (fun _ _ _ _ _ _ us hl => match us, hl with | [_, _], _ => rfl) (fun cdv A outer s H vs Q E hr h => ?_)
  · obtain ⟨g, t, n, u, rfl, _⟩ := h; rfl
  · obtain ⟨g, t, n, u, rfl, ht, B, hn, k⟩ := h
    refine ⟨_, (pss_cons (ps_set (i := 2) sc_law_ruling.nd rfl (Or.inl rfl) (pe_cF (ok_law_of T) (hr.mono (by decide)) T.g__law_of (pa_cons (pv 0) (pa_cons (pe_lst (pa_cons pe_str (pa_cons pe_str (pa_cons pe_str (pa_cons pe_str pa_nil))))) pa_nil))))
        (pss_one (ps_ret (pe_mkK0 (ok_Rules_init_pllf T) (hr.mono (by decide)) T.k_Rules T.g_Rules (pk_cons (pv 2) (pk_cons (pe_ix ix_tup (pv 1) pe_int (fun _ _ => rfl)) (pk_cons (pe_ix ix_tup (pv 1) pe_int (fun _ _ => rfl)) (pk_cons (pe_ix ix_tup (pv 1) pe_int (fun _ _ => rfl)) pk_nil)))))))), ?_⟩
    simp [tPar, tPar3, -List.lookup_eq_none_iff, sizeLine_eq, tSl, tPart, tNoPart, rSlS, cut_lo, cut_hi, gc_cons, gn_nil, tJs, tFmt8, S_empty, tTup, tNever, tNext, tM1, tM0, tRet, tRetN, tAndV, tOrV, tNotV, tCall, tMeth, tProp, tVar, tC, tCons, tNil, L2.start, tChain, tTest, rI, rI0, tOp, tUn, tSeq, tIfS, tAnd, tOr, tNot, tB, tIf, tAsg, gName, tDrop, tCB, tFld, rEq, rNe, scal, rIsi_int, rIsi_bl, rIsi_str, rIsi_non, kit_ii, kit_ib, kit_is, kit_bi, kit_bb, kit_bs, kit_si, kit_sb, kit_ss, kit_ni, kit_nb, kit_ns, S_inj, S_app, S_len, S_list, S_one, lit_no, lit_sp, lit_nl, lit_eq, cx_K, ex2, ex3, ex2b, rd_spN, rd_spC, rd_spI, rd_spIII, rd_spS, kNL, kBL, kES, kSB, tLst]
    intro p hp
    have B1 := B.same (same_upd hp (o := .lst [.str "full", .str "none", .str "optional", .str "any"]))
    refine ⟨g, p, _, n, rfl, upd_same, B1.ne (SameX.refl _ _) upd_same (fun x y z e => by simp at e), by simp, by simp, B1, by omega, fun v H2 hv s2 B2 => ?_⟩
    obtain ⟨z, rfl, hz⟩ : ∃ z : Str, v = .str z ∧ z ∈ (["full", "none", "optional", "any"] : List Str) := by
      simp only [List.mem_cons, List.not_mem_nil, or_false] at hv
      rcases hv with rfl | rfl | rfl | rfl
      · exact ⟨_, rfl, .head _⟩
      · exact ⟨_, rfl, .tail _ (.head _)⟩
      · exact ⟨_, rfl, .tail _ (.tail _ (.head _))⟩
      · exact ⟨_, rfl, .tail _ (.tail _ (.tail _ (.head _)))⟩
    have s12 : SameX g H H2 := (Same.sameX (same_upd hp)).trans s2
    have ht2 : TupR H2 t u := s12 _ _ (B.ne (SameX.refl _ _) ht (fun x y z e => by cases e)) ht
    simp [tPar, tPar3, -List.lookup_eq_none_iff, sizeLine_eq, tSl, tPart, tNoPart, rSlS, cut_lo, cut_hi, gc_cons, gn_nil, tJs, tFmt8, S_empty, tTup, tNever, tNext, tM1, tM0, tRet, tRetN, tAndV, tOrV, tNotV, tCall, tMeth, tProp, tVar, tC, tCons, tNil, L2.start, tChain, tTest, rI, rI0, tOp, tUn, tSeq, tIfS, tAnd, tOr, tNot, tB, tIf, tAsg, gName, tDrop, tCB, tFld, rEq, rNe, scal, rIsi_int, rIsi_bl, rIsi_str, rIsi_non, kit_ii, kit_ib, kit_is, kit_bi, kit_bb, kit_bs, kit_si, kit_sb, kit_ss, kit_ni, kit_nb, kit_ns, S_inj, S_app, S_len, S_list, S_one, lit_no, lit_sp, lit_nl, lit_eq, cx_K, ex2, ex3, ex2b, rd_spN, rd_spC, rd_spI, rd_spIII, rd_spS, kNL, kBL, kES, kSB, tMakeK]
    refine ixT (i := 0) ht2 rfl (ixT (i := 1) ht2 rfl (ixT (i := 2) ht2 rfl ?_))
    (try simp [tPar, tPar3, -List.lookup_eq_none_iff, sizeLine_eq, tSl, tPart, tNoPart, rSlS, cut_lo, cut_hi, gc_cons, gn_nil, tJs, tFmt8, S_empty, tTup, tNever, tNext, tM1, tM0, tRet, tRetN, tAndV, tOrV, tNotV, tCall, tMeth, tProp, tVar, tC, tCons, tNil, L2.start, tChain, tTest, rI, rI0, tOp, tUn, tSeq, tIfS, tAnd, tOr, tNot, tB, tIf, tAsg, gName, tDrop, tCB, tFld, rEq, rNe, scal, rIsi_int, rIsi_bl, rIsi_str, rIsi_non, kit_ii, kit_ib, kit_is, kit_bi, kit_bb, kit_bs, kit_si, kit_sb, kit_ss, kit_ni, kit_nb, kit_ns, S_inj, S_app, S_len, S_list, S_one, lit_no, lit_sp, lit_nl, lit_eq, cx_K, ex2, ex3, ex2b, rd_spN, rd_spC, rd_spI, rd_spIII, rd_spS, kNL, kBL, kES, kSB])
    intro x dx hx hdx hne
    refine ⟨x, z, u.lines, u.loose, u.fold, dx, rfl, hz, upd_same, fun H' s' W => ?_⟩
    simp [tPar, tPar3, -List.lookup_eq_none_iff, sizeLine_eq, tSl, tPart, tNoPart, rSlS, cut_lo, cut_hi, gc_cons, gn_nil, tJs, tFmt8, S_empty, tTup, tNever, tNext, tM1, tM0, tRet, tRetN, tAndV, tOrV, tNotV, tCall, tMeth, tProp, tVar, tC, tCons, tNil, L2.start, tChain, tTest, rI, rI0, tOp, tUn, tSeq, tIfS, tAnd, tOr, tNot, tB, tIf, tAsg, gName, tDrop, tCB, tFld, rEq, rNe, scal, rIsi_int, rIsi_bl, rIsi_str, rIsi_non, kit_ii, kit_ib, kit_is, kit_bi, kit_bb, kit_bs, kit_si, kit_sb, kit_ss, kit_ni, kit_nb, kit_ns, S_inj, S_app, S_len, S_list, S_one, lit_no, lit_sp, lit_nl, lit_eq, cx_K, ex2, ex3, ex2b, rd_spN, rd_spC, rd_spI, rd_spIII, rd_spS, kNL, kBL, kES, kSB]
    have a2 : Same H2 (upd (upd H2 dx (.own x)) x (.ins (CR K) dx [])) := same_put hx (same_upd hdx)
    have s3 : Same H2 H' := fun b u e => s' b u (ne_of_none e hx) (a2 b u e)
    exact k x H' (s12.trans (Same.sameX s3)) (B2.same s3) W
theorem sc_law_capitals : FnScope ["_law_byte"] ["_law_byte"] (defScope s_law_capitals) := ⟨rfl, rfl, rfl, by decide +kernel, rfl, by decide +kernel, by decide +kernel⟩
theorem ok_law_capitals (T : Tx K mg) : Fok P w K mg base 1 d_law_capitals ["_law_byte"] [] (spN fun n => Pt.vs (hex2 n)) := by
  refine fok T.F_law_capitals sc_law_capitals (fun vs H Q E h => ?_) (fun _ _ _ _ _ _ us hl => match us, hl with | [_], _ => rfl) (fun cdv A outer s H vs Q E hr h => ?_)
  · obtain ⟨i, rfl, _⟩ := h; rfl
  · obtain ⟨n, rfl, hn, k⟩ := h
    refine ⟨_, (pss_one (ps_ret (pe_op op_add_str (pe_item_str pe_str (pe_op op_fdiv (pv 0) pe_int) (fun _ _ => rfl)) (pe_item_str pe_str (pe_op op_mod (pv 0) pe_int) (fun _ _ => rfl))))), ?_⟩
    simp [tPar, tPar3, -List.lookup_eq_none_iff, sizeLine_eq, tSl, tPart, tNoPart, rSlS, cut_lo, cut_hi, gc_cons, gn_nil, tJs, tFmt8, S_empty, tTup, tNever, tNext, tM1, tM0, tRet, tRetN, tAndV, tOrV, tNotV, tCall, tMeth, tProp, tVar, tC, tCons, tNil, L2.start, tChain, tTest, rI, rI0, tOp, tUn, tSeq, tIfS, tAnd, tOr, tNot, tB, tIf, tAsg, gName, tDrop, tCB, tFld, rEq, rNe, scal, rIsi_int, rIsi_bl, rIsi_str, rIsi_non, kit_ii, kit_ib, kit_is, kit_bi, kit_bb, kit_bs, kit_si, kit_sb, kit_ss, kit_ni, kit_nb, kit_ns, S_inj, S_app, S_len, S_list, S_one, lit_no, lit_sp, lit_nl, lit_eq, cx_K, ex2, ex3, ex2b, rd_spN, rd_spC, rd_spI, rd_spIII, rd_spS, kNL, kBL, kES, kSB]
    have e1 : ((n : Int) / 16) = ((n / 16 : Nat) : Int) := by omega
    have e2 : ((n : Int) % 16) = ((n % 16 : Nat) : Int) := by omega
    have l : (Str.ofString "0123456789ABCDEF").length = 16 := by decide +kernel
    rw [e1, e2, l, Int.toNat_natCast, Int.toNat_natCast]
    exact ⟨⟨by decide, by decide⟩, by omega, by omega, by omega, _, hex_dig ⟨n / 16, by omega⟩, by omega, by omega, by omega, _, hex_dig ⟨n % 16, by omega⟩, k⟩
end
end K45
end
section
namespace K45
open PySem PySem.Spec PyProof.Rows L2 Pt
section
variable {P : Program} {w : World} {K : Fg} {mg : Str → Option Value} {base : Heap}
def fewL : List Nat := [65, 98, 32, 32, 10, 61, 33, 126, 0, 255, 37, 9, 13, 46]
theorem cut_few {r : Nat} (h : r < 10) : cutV (fewL.map vi) (some (r : Int)) none = (fewL.drop r).map vi := by
  unfold cutV
  rw [HT.sIx_nat]
  have e : HT.sIx (fewL.map vi).length (fewL.map vi).length none = (fewL.map vi).length := rfl
  have l : (fewL.map vi).length = 14 := rfl
  rw [e, l, Nat.min_eq_left (by omega), List.take_of_length_le (by rw [List.length_drop, l]; exact Nat.le_refl _), List.map_drop]
def spBytes : Sp := fun us H Q _ => ∃ (g : Addr) (n : Nat), us = [.ref g, .int 40] ∧ Bag H g n ∧ n ≤ 999000 ∧ ∀ (data : List Nat) (p : Addr) (H' : Hp), data.length ≤ 40 → (∀ b ∈ data, b < 256) → SameX g H H' → Bag H' g (n + 43) → H' p = some (.lst (data.map vi)) → p ≠ g → Q (.ref p) H'
theorem sc_law_bytes : FnScope ["_law_bag_here", "_law_most", "_law_few", "_law_way", "_law_some", "_law_k"] ["_law_bag_here", "_law_most"] (defScope s_law_bytes) := ⟨rfl, rfl, rfl, by decide +kernel, rfl, by decide +kernel, by decide +kernel⟩
theorem ok_law_bytes (T : Tx K mg) : Fok P w K mg base 3 d_law_bytes ["_law_bag_here", "_law_most"] [] spBytes := by
  refine fok T.F_law_bytes sc_law_bytes (fun vs H Q E h => ?_) (fun _ _ _ _ _ _ us hl => match us, hl with | [_, _], _ => rfl) (fun cdv A outer s H vs Q E hr h => ?_)
  · obtain ⟨g, n, rfl, _⟩ := h; rfl
  · obtain ⟨g, n, rfl, B, hn, k⟩ := h
    have hu := hu_of hr
    refine ⟨_, (pss_cons (ps_set (i := 2) sc_law_bytes.nd rfl (Or.inl rfl) (pe_lst (pa_cons pe_int (pa_cons pe_int (pa_cons pe_int (pa_cons pe_int (pa_cons pe_int (pa_cons pe_int (pa_cons pe_int (pa_cons pe_int (pa_cons pe_int (pa_cons pe_int (pa_cons pe_int (pa_cons pe_int (pa_cons pe_int (pa_cons pe_int pa_nil))))))))))))))))
        (pss_cons (ps_asg (pe_tup (pa_cons (pe_cF (ok_law_take T) (hr.mono (by decide)) T.g__law_take (pa_cons (pv 0) (pa_cons pe_int pa_nil))) (pa_cons (pe_slice sl_list (pv 2) (po_some (pe_cF (ok_law_take T) (hr.mono (by decide)) T.g__law_take (pa_cons (pv 0) (pa_cons pe_int pa_nil)))) po_none) pa_nil))) (pg_tup rfl (pgs_cons (pg_name (i := 3) sc_law_bytes.nd rfl (Or.inr rfl)) (pgs_cons (pg_name (i := 4) sc_law_bytes.nd rfl (Or.inr rfl)) pgs_nil))))
        (pss_one (ps_ret (pe_lc (own := [("_law_k", 5)]) (g := gName 5) (by rfl) sc_law_bytes.nd (pi_range1 rfl T.n_range (pa_cons (pe_cF (ok_law_take T) (hr.mono (by decide)) T.g__law_take (pa_cons (pv 0) (pa_cons (pe_op op_add (pv 1) pe_int) pa_nil))) pa_nil)) (blkOk_by (own := [("_law_k", 5)]) (N := ["_law_bag_here", "_law_most", "_law_few", "_law_way", "_law_some", "_law_k"]) (sc := defScope s_law_bytes) (by decide +kernel)) (fun _ _ _ _ _ => pg_name (i := 5) sc_law_bytes.nd rfl (Or.inl rfl)) (fun _ _ _ _ _ => pts_nil) (fun _ _ _ _ _ => (pe_ifExp (pt_cmpR op_eq (pv 3) pe_int (nomark _)) (pe_cF (ok_law_take T) (hr.mono (by decide)) T.g__law_take (pa_cons (pv 0) (pa_cons pe_int pa_nil))) (pe_cF (ok_law_of T) (hr.mono (by decide)) T.g__law_of (pa_cons (pv 0) (pa_cons (pv 4) pa_nil)))))))))), ?_⟩
    simp [tPar, tPar3, -List.lookup_eq_none_iff, sizeLine_eq, tSl, tPart, tNoPart, rSlS, cut_lo, cut_hi, gc_cons, gn_nil, tJs, tFmt8, S_empty, tTup, tNever, tNext, tM1, tM0, tRet, tRetN, tAndV, tOrV, tNotV, tCall, tMeth, tProp, tVar, tC, tCons, tNil, L2.start, tChain, tTest, rI, rI0, tOp, tUn, tSeq, tIfS, tAnd, tOr, tNot, tB, tIf, tAsg, gName, tDrop, tCB, tFld, rEq, rNe, scal, rIsi_int, rIsi_bl, rIsi_str, rIsi_non, kit_ii, kit_ib, kit_is, kit_bi, kit_bb, kit_bs, kit_si, kit_sb, kit_ss, kit_ni, kit_nb, kit_ns, S_inj, S_app, S_len, S_list, S_one, lit_no, lit_sp, lit_nl, lit_eq, cx_K, ex2, ex3, ex2b, rd_spN, rd_spC, rd_spI, rd_spIII, rd_spS, kNL, kBL, kES, kSB, tLst]
    intro p hp
    have B1 := B.same (same_upd hp (o := .lst (fewL.map vi)))
    have s0 : SameX g H (upd H p (.lst (fewL.map vi))) := Same.sameX (same_upd hp)
    refine ⟨g, 4, n, rfl, by decide, by decide, B1, by omega, fun r1 H1 _ _ s1 B2 => ?_⟩
    (try simp [tPar, tPar3, -List.lookup_eq_none_iff, sizeLine_eq, tSl, tPart, tNoPart, rSlS, cut_lo, cut_hi, gc_cons, gn_nil, tJs, tFmt8, S_empty, tTup, tNever, tNext, tM1, tM0, tRet, tRetN, tAndV, tOrV, tNotV, tCall, tMeth, tProp, tVar, tC, tCons, tNil, L2.start, tChain, tTest, rI, rI0, tOp, tUn, tSeq, tIfS, tAnd, tOr, tNot, tB, tIf, tAsg, gName, tDrop, tCB, tFld, rEq, rNe, scal, rIsi_int, rIsi_bl, rIsi_str, rIsi_non, kit_ii, kit_ib, kit_is, kit_bi, kit_bb, kit_bs, kit_si, kit_sb, kit_ss, kit_ni, kit_nb, kit_ns, S_inj, S_app, S_len, S_list, S_one, lit_no, lit_sp, lit_nl, lit_eq, cx_K, ex2, ex3, ex2b, rd_spN, rd_spC, rd_spI, rd_spIII, rd_spS, kNL, kBL, kES, kSB])
    refine ⟨g, 10, n + 1, rfl, by decide, by decide, B2, by omega, fun r2 H2 h0 h1 s2 B3 => ?_⟩
    obtain ⟨r2, rfl⟩ : ∃ r' : Nat, r2 = r' := ⟨r2.toNat, by omega⟩
    have pg : p ≠ g := B1.ne (SameX.refl _ _) upd_same (fun x y z e => by cases e)
    have e2 : H2 p = some (.lst (fewL.map vi)) := s2 _ _ pg (s1 _ _ pg upd_same)
    refine ⟨r2, rfl, p, _, rfl, SqL.of e2, fun z hz => ?_⟩
    have B4 := B3.same (same_upd hz (o := .lst (cutV (fewL.map vi) (some (r2 : Int)) none)))
    have zg : z ≠ g := fun e => by
      subst e
      obtain ⟨_, _, _, h, _⟩ := B3
      rw [h] at hz; cases hz
    have s3 : SameX g H (upd H2 z (.lst (cutV (fewL.map vi) (some (r2 : Int)) none))) := ((s0.trans s1).trans s2).trans (Same.sameX (same_upd hz))
    have e3 : (upd H2 z (.lst (cutV (fewL.map vi) (some (r2 : Int)) none))) z = some (.lst ((fewL.drop r2).map vi)) := by rw [upd_same, cut_few (by omega)]
    generalize upd H2 z (.lst (cutV (fewL.map vi) (some (r2 : Int)) none)) = H3 at B4 s3 e3
    intro p4 hp4
    refine gTup_at upd_same rfl ?_
    have s4 := s3.trans (Same.sameX (same_upd hp4 (o := .tup [.int r1, .ref z])))
    have B5 := B4.same (same_upd hp4 (o := .tup [.int r1, .ref z]))
    have e4 := same_upd hp4 (o := .tup [.int r1, .ref z]) _ _ e3
    generalize upd H3 p4 (.tup [.int r1, .ref z]) = H4 at s4 B5 e4
    simp [tPar, tPar3, -List.lookup_eq_none_iff, sizeLine_eq, tSl, tPart, tNoPart, rSlS, cut_lo, cut_hi, gc_cons, gn_nil, tJs, tFmt8, S_empty, tTup, tNever, tNext, tM1, tM0, tRet, tRetN, tAndV, tOrV, tNotV, tCall, tMeth, tProp, tVar, tC, tCons, tNil, L2.start, tChain, tTest, rI, rI0, tOp, tUn, tSeq, tIfS, tAnd, tOr, tNot, tB, tIf, tAsg, gName, tDrop, tCB, tFld, rEq, rNe, scal, rIsi_int, rIsi_bl, rIsi_str, rIsi_non, kit_ii, kit_ib, kit_is, kit_bi, kit_bb, kit_bs, kit_si, kit_sb, kit_ss, kit_ni, kit_nb, kit_ns, S_inj, S_app, S_len, S_list, S_one, lit_no, lit_sp, lit_nl, lit_eq, cx_K, ex2, ex3, ex2b, rd_spN, rd_spC, rd_spI, rd_spIII, rd_spS, kNL, kBL, kES, kSB, tLc_rng]
    refine ⟨g, 41, n + 2, rfl, by decide, by decide, B5, by omega, fun m H5 h0 h1 s5 B6 => ?_⟩
    obtain ⟨m, rfl⟩ : ∃ r' : Nat, m = r' := ⟨m.toNat, by omega⟩
    refine ⟨m, rfl, by omega, by omega, fun D hD => ?_⟩
    rw [Int.toNat_natCast]
    have Dg : D ≠ g := fun e => by
      subst e
      obtain ⟨_, _, _, h, _⟩ := B6
      rw [h] at hD; cases hD
    have e5 := s5 _ _ zg e4
    have s6 := s4.trans s5
    refine lc_n (n := m) (tt := tYes) (fun i H' => SameX g H H' ∧ SameX g H5 H' ∧ Bag H' g (n + 3 + i) ∧ ∃ acc : List Nat, H' D = some (.lst (acc.map vi)) ∧ acc.length = i ∧ ∀ b ∈ acc, b < 256)
      ⟨s6.trans (Same.sameX (same_upd hD)), Same.sameX (same_upd hD), B6.same (same_upd hD), [], upd_same, rfl, fun b hb => nomatch hb⟩ (fun i H hi _ => hi) (fun H _ => Nat.le_refl m) ?_ ?_
    · rintro i H6 x H7 hi ⟨s7, s8, B7, acc, a1, a2, a3⟩ ⟨rfl, rfl⟩
      have fin : ∀ (b : Nat) (H8 : Hp), b < 256 → SameX g H7 H8 → Bag H8 g (n + 3 + i + 1) → ∃ acc : List V, H8 D = some (.lst acc) ∧ acc.length < 16777216 ∧ SameX g H (upd H8 D (.lst (acc ++ [vi b]))) ∧ SameX g H5 (upd H8 D (.lst (acc ++ [vi b]))) ∧ Bag (upd H8 D (.lst (acc ++ [vi b]))) g (n + 3 + (i + 1)) ∧
          ∃ acc' : List Nat, upd H8 D (.lst (acc ++ [vi b])) D = some (.lst (acc'.map vi)) ∧ acc'.length = i + 1 ∧ ∀ b ∈ acc', b < 256 := fun b H8 hb s9 B9 => by
        refine ⟨acc.map vi, s9 _ _ Dg a1, by rw [List.length_map]; omega, ?_, ?_, ?_, acc ++ [b], by rw [upd_same]; simp, by simp [a2], ?_⟩
        · intro b' u hne e
          rw [upd_ne]
          · exact s9 _ _ hne (s7 _ _ hne e)
          · rintro rfl
            have := s6 _ _ hne e
            rw [hD] at this; cases this
        · intro b' u hne e
          rw [upd_ne (ne_of_none e hD)]
          exact s9 _ _ hne (s8 _ _ hne e)
        · obtain ⟨x, y, z, q1, q2⟩ := B9
          exact ⟨x, y, z, by rw [upd_ne (Ne.symm Dg)]; exact q1, q2⟩
        · intro b' hb'
          rcases List.mem_append.mp hb' with q | q
          · exact a3 _ q
          · simp at q; subst q; exact hb
      refine ⟨rfl, ?_⟩
      simp [tPar, tPar3, -List.lookup_eq_none_iff, sizeLine_eq, tSl, tPart, tNoPart, rSlS, cut_lo, cut_hi, gc_cons, gn_nil, tJs, tFmt8, S_empty, tTup, tNever, tNext, tM1, tM0, tRet, tRetN, tAndV, tOrV, tNotV, tCall, tMeth, tProp, tVar, tC, tCons, tNil, L2.start, tChain, tTest, rI, rI0, tOp, tUn, tSeq, tIfS, tAnd, tOr, tNot, tB, tIf, tAsg, gName, tDrop, tCB, tFld, rEq, rNe, scal, rIsi_int, rIsi_bl, rIsi_str, rIsi_non, kit_ii, kit_ib, kit_is, kit_bi, kit_bb, kit_bs, kit_si, kit_sb, kit_ss, kit_ni, kit_nb, kit_ns, S_inj, S_app, S_len, S_list, S_one, lit_no, lit_sp, lit_nl, lit_eq, cx_K, ex2, ex3, ex2b, rd_spN, rd_spC, rd_spI, rd_spIII, rd_spS, kNL, kBL, kES, kSB, wipe, tYes]
      by_cases hr1 : r1 = 0
      · rw [if_pos hr1]
        refine ⟨g, 256, n + 3 + i, rfl, by decide, by decide, B7, by omega, fun r H8 h0 h1 s9 B9 => ?_⟩
        obtain ⟨r, rfl⟩ : ∃ r' : Nat, r = r' := ⟨r.toNat, by omega⟩
        exact fin r H8 (by omega) s9 B9
      · rw [if_neg hr1]
        have hlen : ((fewL.drop r2).map vi).length = 14 - r2 := by rw [List.length_map, List.length_drop]; rfl
        refine ⟨g, z, _, n + 3 + i, rfl, s8 _ _ zg e5, zg, fun e => by rw [e] at hlen; simp at hlen; omega, by omega, B7, by omega, fun v H8 hv s9 B9 => ?_⟩
        obtain ⟨b, hb, rfl⟩ := List.mem_map.mp hv
        have hb2 : ∀ b ∈ fewL, b < 256 := by decide
        exact fin b H8 (hb2 b (List.mem_of_mem_drop hb)) s9 B9
    · rintro H6 ⟨s7, s8, B7, acc, a1, a2, a3⟩
      exact k acc D H6 (by omega) a3 s7 (B7.mono (by omega)) a1 Dg
def linesStep (q : QC) (rows : List (List Nat)) (n : Nat) : List (List Nat) := if isNl q n then rows ++ [[]] else rows.dropLast ++ [rows.getLastD [] ++ [n]]
def linesQ (q : QC) (data : List Nat) : List (List Nat) := data.foldl (linesStep q) [[]]
/-- the loop of _law_lines: data's first i bytes are laid into the lists zs -/
def LInv (q : QC) (H : Hp) (t d p : Addr) (data : List Nat) (i : Nat) (σ : L2.St) (H' : Hp) : Prop := ∃ v zs, σ = [some (.ref t), some (.ref d), some (.ref p), v] ∧ Same H H' ∧ zs ≠ [] ∧ zs.map (·.2) = linesQ q (data.take i) ∧ H' p = some (.lst (zs.map fun (z : Addr × List Nat) => V.ref z.1)) ∧
  (∀ z ∈ zs, H' z.1 = some (.lst (z.2.map vi)) ∧ H z.1 = none ∧ z.1 ≠ p) ∧ (zs.map (·.1)).Nodup ∧ zs.length ≤ i + 1 ∧ (∀ z ∈ zs, z.2.length ≤ i)
def spLines : Sp := fun us H Q _ => ∃ (t d : Addr) (q : QC) (data : List Nat), us = [.ref t, .ref d] ∧ TupQ H t q ∧ H d = some (.lst (data.map vi)) ∧ data.length ≤ 1000 ∧ (∀ b ∈ data, b < 256) ∧
  ∀ p H' (zs : List (Addr × List Nat)), Same H H' → H p = none → zs.map (·.2) = linesQ q data → H' p = some (.lst (zs.map fun z => .ref z.1)) → (∀ z ∈ zs, H' z.1 = some (.lst (z.2.map vi)) ∧ H z.1 = none) → Q (.ref p) H'
theorem sc_law_lines : FnScope ["_law_code", "_law_data", "_law_found", "_law_byte"] ["_law_code", "_law_data"] (defScope s_law_lines) := ⟨rfl, rfl, rfl, by decide +kernel, rfl, by decide +kernel, by decide +kernel⟩
theorem ok_law_lines (T : Tx K mg) : Fok P w K mg base 1 d_law_lines ["_law_code", "_law_data"] [] spLines := by
  refine fok T.F_law_lines sc_law_lines (fun vs H Q E h => ?_) (fun _ _ _ _ _ _ us hl => match us, hl with | [_, _], _ => rfl) (fun cdv A outer s H vs Q E hr h => ?_)
  · obtain ⟨t, d, q, data, rfl, _⟩ := h; rfl
  · obtain ⟨t, d, q, data, rfl, ht, hd, hl, hb, k⟩ := h
    have hu := hu_of hr
    refine ⟨_, (pss_cons (ps_set (i := 2) sc_law_lines.nd rfl (Or.inl rfl) (pe_lst (pa_cons (pe_lst pa_nil) pa_nil)))
        (pss_cons (ps_for PassesOwn.never rfl (pi_list (pv 1)) (pg_name (i := 3) sc_law_lines.nd rfl (Or.inl rfl)) (pss_one (ps_if ((pw_and (pt_cmpR op_eq (pv 3) pe_int (nomark _)) (pw_and1 (pt_not (pt_val (pe_ix ix_tup (pv 0) pe_int (fun _ _ => rfl))))))).pt (pss_one (ps_expr (pe_bm PySem.F.plainAttrs_list PySem.F.slot_list_append PySem.F.type_list_append mt_append (pv 2) (pa_cons (pe_lst pa_nil) pa_nil)))) (pss_one (ps_expr (pe_bm PySem.F.plainAttrs_list PySem.F.slot_list_append PySem.F.type_list_append mt_append (pe_ix ix_list (pv 2) (pe_un un_neg pe_int) (fun _ _ => rfl)) (pa_cons (pv 3) pa_nil)))))))
        (pss_one (ps_ret (pv 2))))), ?_⟩
    simp [tPar, tPar3, -List.lookup_eq_none_iff, sizeLine_eq, tSl, tPart, tNoPart, rSlS, cut_lo, cut_hi, gc_cons, gn_nil, tJs, tFmt8, S_empty, tTup, tNever, tNext, tM1, tM0, tRet, tRetN, tAndV, tOrV, tNotV, tCall, tMeth, tProp, tVar, tC, tCons, tNil, L2.start, tChain, tTest, rI, rI0, tOp, tUn, tSeq, tIfS, tAnd, tOr, tNot, tB, tIf, tAsg, gName, tDrop, tCB, tFld, rEq, rNe, scal, rIsi_int, rIsi_bl, rIsi_str, rIsi_non, kit_ii, kit_ib, kit_is, kit_bi, kit_bb, kit_bs, kit_si, kit_sb, kit_ss, kit_ni, kit_nb, kit_ns, S_inj, S_app, S_len, S_list, S_one, lit_no, lit_sp, lit_nl, lit_eq, cx_K, ex2, ex3, ex2b, rd_spN, rd_spC, rd_spI, rd_spIII, rd_spS, kNL, kBL, kES, kSB, tLst]
    intro a ha p hp
    have pa : p ≠ a := fun e => by subst e; rw [upd_same] at hp; cases hp
    have s0 : Same H (upd (upd H a (.lst [])) p (.lst [.ref a])) := (same_upd ha).trans (same_upd hp)
    refine ⟨_, rfl, d, rfl, ⟨_, SqL.of (s0 _ _ hd)⟩, for_list (K := K) (a := d) (xs := data.map vi)
      (LInv q H t d p data)
      ⟨none, [(a, [])], rfl, s0, by simp, rfl, upd_same, fun z hz => by
        simp at hz; subst hz
        exact ⟨by rw [upd_ne (Ne.symm pa)]; exact upd_same, ha, Ne.symm pa⟩, by simp, by simp, fun z hz => by simp at hz; subst hz; simp⟩ (fun i σ H' _ ⟨_, _, _, s1, _⟩ => SqL.of (s1 _ _ hd)) ?_ ?_⟩
    · rintro i x σ H2 hi ⟨v, zs, rfl, s1, hne, hz, hp2, hzs, nd, hzl, hrl⟩
      rw [List.getElem?_map] at hi
      obtain ⟨n, hn, rfl⟩ := Option.map_eq_some_iff.mp hi
      have hnb := hb n (List.mem_of_getElem? hn)
      have hit := (List.getElem?_eq_some_iff.mp hn).1
      have hstep : linesQ q (data.take (i + 1)) = linesStep q (linesQ q (data.take i)) n := by
        unfold linesQ
        rw [List.take_add_one, hn, List.foldl_append]; rfl
      have ht2 : TupQ H2 t q := s1 _ _ ht
      have hp4 : H p = none := by
        by_cases e : H p = none
        · exact e
        · have := upd_ne (H := H) (o := .lst []) pa
          rw [this] at hp; exact absurd hp e
      have app : ∀ (zs' : List (Addr × List Nat)) (a : Addr) (r : List Nat), zs = zs' ++ [(a, r)] → isNl q n = false → LInv q H t d p data (i + 1) [some (.ref t), some (.ref d), some (.ref p), some (vi n)] (upd H2 a (.lst (r.map vi ++ [vi n]))) := fun zs' a r ez hnl => by
        subst ez
        have ha := hzs (a, r) (by simp)
        refine ⟨_, zs' ++ [(a, r ++ [n])], rfl, same_put ha.2.1 s1, by simp, ?_, ?_, ?_, ?_, ?_, ?_⟩
        · rw [hstep, ← hz]
          unfold linesStep
          rw [hnl, if_neg (by decide)]
          simp [List.getLastD_eq_getLast?]
        · rw [upd_ne (Ne.symm ha.2.2), hp2]; simp
        · intro z hz
          rcases List.mem_append.mp hz with h | h
          · have h2 := hzs z (List.mem_append_left _ h)
            refine ⟨?_, h2.2⟩
            have hne : z.1 ≠ a := by
              rw [List.map_append, List.nodup_append] at nd
              exact nd.2.2 z.1 (List.mem_map.mpr ⟨z, h, rfl⟩) a (by simp)
            rw [upd_ne hne]; exact h2.1
          · simp at h; subst h
            exact ⟨by rw [upd_same]; simp, ha.2⟩
        · simpa using nd
        · simp at hzl ⊢; omega
        · intro z hz
          rcases List.mem_append.mp hz with h | h
          · exact Nat.le_succ_of_le (hrl z (List.mem_append_left _ h))
          · simp at h; subst h
            have := hrl (a, r) (by simp)
            simp at this ⊢; omega
      have new : ∀ r, H2 r = none → isNl q n = true → LInv q H t d p data (i + 1) [some (.ref t), some (.ref d), some (.ref p), some (vi n)] (upd (upd H2 r (.lst [])) p (.lst ((zs.map fun z => V.ref z.1) ++ [.ref r]))) := fun r hr hnl => by
        have rp : r ≠ p := fun e => by subst e; rw [hp2] at hr; cases hr
        have hr0 : H r = none := by
          cases e : H r with
          | none => rfl
          | some u => rw [s1 _ _ e] at hr; cases hr
        refine ⟨_, zs ++ [(r, [])], rfl, same_put hp4 (s1.trans (same_upd hr)), by simp, ?_, by rw [upd_same]; simp, ?_, ?_, by simp; omega, ?_⟩
        · rw [hstep, ← hz]
          unfold linesStep
          rw [hnl, if_pos rfl]; simp
        · intro z hz
          rcases List.mem_append.mp hz with h | h
          · have h2 := hzs z h
            exact ⟨by rw [upd_ne h2.2.2, upd_ne (ne_of_none h2.1 hr)]; exact h2.1, h2.2⟩
          · simp at h; subst h
            exact ⟨by rw [upd_ne rp]; exact upd_same, hr0, rp⟩
        · rw [List.map_append, List.nodup_append]
          refine ⟨nd, by simp, ?_⟩
          intro x hx y hy
          obtain ⟨z, hz1, rfl⟩ := List.mem_map.mp hx
          simp at hy; subst hy
          exact ne_of_none (hzs z hz1).1 hr
        · intro z hz
          rcases List.mem_append.mp hz with h | h
          · exact Nat.le_succ_of_le (hrl z h)
          · simp at h; subst h; simp
      obtain ⟨zs', ⟨a', r'⟩, ez⟩ : ∃ zs' z, zs = zs' ++ [z] := ⟨zs.dropLast, zs.getLast hne, (List.dropLast_concat_getLast hne).symm⟩
      have ha' := hzs (a', r') (by rw [ez]; simp)
      have hr' := hrl (a', r') (by rw [ez]; simp)
      have lst : ∀ {Q : VK}, Q (.ref a') H2 → rIxL K (.ref p) (.int (-1)) H2 Q := fun hQ => ⟨p, _, -1, .ref a', rfl, rfl, SqL.of hp2, by rw [ez, List.map_append]; exact atI_last _ _, hQ⟩
      have hlz : (zs.map fun (z : Addr × List Nat) => V.ref z.1).length < 16777216 := by rw [List.length_map]; omega
      have hlr : (r'.map vi).length < 16777216 := by simp at hr' ⊢; omega
      simp [tPar, tPar3, -List.lookup_eq_none_iff, sizeLine_eq, tSl, tPart, tNoPart, rSlS, cut_lo, cut_hi, gc_cons, gn_nil, tJs, tFmt8, S_empty, tTup, tNever, tNext, tM1, tM0, tRet, tRetN, tAndV, tOrV, tNotV, tCall, tMeth, tProp, tVar, tC, tCons, tNil, L2.start, tChain, tTest, rI, rI0, tOp, tUn, tSeq, tIfS, tAnd, tOr, tNot, tB, tIf, tAsg, gName, tDrop, tCB, tFld, rEq, rNe, scal, rIsi_int, rIsi_bl, rIsi_str, rIsi_non, kit_ii, kit_ib, kit_is, kit_bi, kit_bb, kit_bs, kit_si, kit_sb, kit_ss, kit_ni, kit_nb, kit_ns, S_inj, S_app, S_len, S_list, S_one, lit_no, lit_sp, lit_nl, lit_eq, cx_K, ex2, ex3, ex2b, rd_spN, rd_spC, rd_spI, rd_spIII, rd_spS, kNL, kBL, kES, kSB, tBM, tLst]
      by_cases h10 : (n : Int) = 10
      · rw [if_pos h10]
        refine ixT (i := 1) ht2 rfl ?_
        cases hq : q.b with
        | false =>
          refine .inl ⟨rfl, .inl ⟨rfl, _, SqL.of hp2⟩, fun r hr => ?_⟩
          exact (append_at (K := K) (v := .ref r) (Q := fun _ H1 => LInv q H t d p data (i + 1) [some (.ref t), some (.ref d), some (.ref p), some (vi n)] H1) (same_upd hr (o := .lst []) _ _ hp2) hlz (new r hr (by unfold isNl; simp [h10, hq]))).2
        | true => exact .inr ⟨rfl, 1, rfl, lst (append_at ha'.1 hlr (app zs' a' r' ez (by unfold isNl; simp [hq])))⟩
      · rw [if_neg h10]
        exact ⟨1, rfl, lst (append_at ha'.1 hlr (app zs' a' r' ez (by unfold isNl; simp [h10])))⟩
    · rintro σ H2 ⟨v, zs, rfl, s1, hne, hz, hp2, hzs, nd, hzl, hrl⟩
      rw [List.length_map, List.take_length] at hz
      have hp3 : H p = none := by
        by_cases e : H p = none
        · exact e
        · have := upd_ne (H := H) (o := .lst []) pa
          rw [this] at hp; exact absurd hp e
      exact ⟨_, rfl, k p H2 zs s1 hp3 hz hp2 fun z hz => ⟨(hzs z hz).1, (hzs z hz).2.1⟩⟩
end
end K45
end
section
namespace K45
open PySem PySem.Spec PyProof.Rows L2 Pt
def lo (c : Nat) : Nat := if capP c then c + 32 else c
theorem lo_text : ∀ n : Fin 256, Txt.lower (S (hex2 n.1)) = S [lo (hexd (n.1 / 16)), lo (hexd (n.1 % 16))] := by decide +kernel
theorem lo_hex : ∀ (a b : Bool) (k : Fin 16), hexDigit ⟨a, b, true⟩ (lo (hexd k.1)) = [hexd k.1] ∧ prP (lo (hexd k.1)) = true := by decide +kernel
theorem HexT.low {u : RC} {n : Nat} (h : n < 256) (hf : u.fold = true) : HexT u n (lo (hexd (n / 16))) (lo (hexd (n % 16))) := by
  obtain ⟨a, b, c⟩ := u
  dsimp only at hf
  subst hf
  exact ⟨(lo_hex a b ⟨n / 16, by omega⟩).1, (lo_hex a b ⟨n % 16, by omega⟩).1⟩
/-- how a byte may be spelled -/
def ItemOk (u : RC) (n : Nat) (last : Bool) (it : List Nat) : Prop := (∃ x y, it = [61, x, y] ∧ HexT u n x y ∧ prP x = true ∧ prP y = true) ∨ (it = [n] ∧ isSign n = true ∧ n ≠ 61) ∨ (n = 32 ∧ it = [32] ∧ (u.loose = true ∨ last = false))
theorem ItemOk.up {u : RC} {n : Nat} {last : Bool} (h : n < 256) : ItemOk u n last (61 :: hex2 n) :=
  .inl ⟨_, _, rfl, HexT.up h, (hex_pr ⟨n, h⟩).1, (hex_pr ⟨n, h⟩).2⟩
theorem ItemOk.low {u : RC} {n : Nat} {last : Bool} (h : n < 256) (hf : u.fold = true) : ItemOk u n last [61, lo (hexd (n / 16)), lo (hexd (n % 16))] :=
  .inl ⟨_, _, rfl, HexT.low h hf, (lo_hex false false ⟨n / 16, by omega⟩).2, (lo_hex false false ⟨n % 16, by omega⟩).2⟩
section
variable {P : Program} {w : World} {K : Fg} {mg : Str → Option Value} {base : Heap}
def spItem : Sp := fun us H Q _ => ∃ (g cd ru : Addr) (n k : Nat) (last : Bool) (u : RC), us = [.ref g, .ref cd, .ref ru, vi n, .bl last] ∧ TupR H ru u ∧ n < 256 ∧ Bag H g k ∧ k ≤ 999000 ∧
  ∀ (it : List Nat) H', ItemOk u n last it → SameX g H H' → Bag H' g (k + 2) → Q (Pt.vs it) H'
theorem sc_law_spelled_item : FnScope ["_law_bag_here", "_law_code", "_law_rules_here", "_law_byte", "_law_is_last", "_law_digits", "_law_signs", "_law_is_plain"] ["_law_bag_here", "_law_code", "_law_rules_here", "_law_byte", "_law_is_last"] (defScope s_law_spelled_item) := ⟨rfl, rfl, rfl, by decide +kernel, rfl, by decide +kernel, by decide +kernel⟩
theorem ok_law_spelled_item (T : Tx K mg) : Fok P w K mg base 2 d_law_spelled_item ["_law_bag_here", "_law_code", "_law_rules_here", "_law_byte", "_law_is_last"] [] spItem := by
  refine fok T.F_law_spelled_item sc_law_spelled_item (fun vs H Q E h => ?_) (fun _ _ _ _ _ _ us hl => match us, hl with | [_, _, _, _, _], _ => rfl) (fun cdv A outer s H vs Q E hr h => ?_)
  · obtain ⟨g, cd, ru, n, k, last, u, rfl, _⟩ := h; rfl
  · obtain ⟨g, cd, ru, n, k, last, u, rfl, hu2, hn, B, hk, kk⟩ := h
    have hu := hu_of hr
    refine ⟨_, (pss_cons (ps_set (i := 5) sc_law_spelled_item.nd rfl (Or.inl rfl) (pe_cF (ok_law_capitals T) (hr.mono (by decide)) T.g__law_capitals (pa_cons (pv 3) pa_nil)))
        (pss_cons (ps_if ((pw_and (pt_val (pe_ix ix_tup (pv 2) pe_int (fun _ _ => rfl))) (pw_and1 (pt_cmpR op_eq (pe_cF (ok_law_take T) (hr.mono (by decide)) T.g__law_take (pa_cons (pv 0) (pa_cons pe_int pa_nil))) pe_int (nomark _))))).pt (pss_one (ps_set (i := 5) sc_law_spelled_item.nd rfl (Or.inl rfl) (pe_lower (pv 5)))) pss_nil)
        (pss_cons (ps_set (i := 6) sc_law_spelled_item.nd rfl (Or.inl rfl) (pe_cF0 (ok_law_all_signs T) (hr.mono (by decide)) T.g__law_all_signs))
        (pss_cons (ps_set (i := 7) sc_law_spelled_item.nd rfl (Or.inl rfl) (pe_or (pe_and (pe_chain op_lt op_lt pe_int (pv 3) pe_int) (pe_and (pe_cmpR op_ne (pv 3) pe_int (nomark _)) (pe_one (pe_cmpR op_ne (pv 3) pe_int (nomark _))))) (pe_one (pe_and (pe_cmpR op_eq (pv 3) pe_int (nomark _)) (pe_one (pe_or (pe_ix ix_tup (pv 2) pe_int (fun _ _ => rfl)) (pe_one (pe_not (pv 4)))))))))
        (pss_cons (ps_if ((pw_or (pt_not (pt_val (pv 7))) (pw_or1 (pt_cmpR op_eq (pe_cF (ok_law_take T) (hr.mono (by decide)) T.g__law_take (pa_cons (pv 0) (pa_cons pe_int pa_nil))) pe_int (nomark _))))).pt (pss_one (ps_ret (pe_op op_add_str pe_str (pv 5)))) pss_nil)
        (pss_one (ps_ret (pe_ifExp (pt_cmpR op_eq (pv 3) pe_int (nomark _)) pe_str (pe_item_str (pv 6) (pe_op op_sub (pe_op op_sub (pv 3) pe_int) (pe_callTy call_int1 (by rfl) T.n_int (by decide +kernel) (pa_cons (pe_cmpR op_gt (pv 3) pe_int (nomark _)) pa_nil))) (fun _ _ => rfl)))))))))), ?_⟩
    refine tSeq_cut fun N1 h1 => ?_
    simp [tPar, tPar3, -List.lookup_eq_none_iff, sizeLine_eq, tSl, tPart, tNoPart, rSlS, cut_lo, cut_hi, gc_cons, gn_nil, tJs, tFmt8, S_empty, tTup, tNever, tNext, tM1, tM0, tRet, tRetN, tAndV, tOrV, tNotV, tCall, tMeth, tProp, tVar, tC, tCons, tNil, L2.start, tChain, tTest, rI, rI0, tOp, tUn, tSeq, tIfS, tAnd, tOr, tNot, tB, tIf, tAsg, gName, tDrop, tCB, tFld, rEq, rNe, scal, rIsi_int, rIsi_bl, rIsi_str, rIsi_non, kit_ii, kit_ib, kit_is, kit_bi, kit_bb, kit_bs, kit_si, kit_sb, kit_ss, kit_ni, kit_nb, kit_ns, S_inj, S_app, S_len, S_list, S_one, lit_no, lit_sp, lit_nl, lit_eq, cx_K, ex2, ex3, ex2b, rd_spN, rd_spC, rd_spI, rd_spIII, rd_spS, kNL, kBL, kES, kSB, hn]
    refine h1 _ _ ?_
    clear h1
    refine tSeq_cut fun N2 h2 => ?_
    have t2 : ∀ (x y : Nat) (H1 : Hp), HexT u n x y → prP x = true → prP y = true → SameX g H H1 → Bag H1 g (k + 1) → N2 [some (.ref g), some (.ref cd), some (.ref ru), some (vi n), some (.bl last), some (Pt.vs [x, y]), none, none] H1 := by
      intro x y H1 hx px py s1 B1
      have hu3 : TupR H1 ru u := s1 _ _ (B.ne (SameX.refl _ _) hu2 (fun _ _ _ e => by cases e)) hu2
      refine h2 _ _ ?_
      clear h2
      refine tSeq_cut fun N3 h3 => ?_
      simp [tPar, tPar3, -List.lookup_eq_none_iff, sizeLine_eq, tSl, tPart, tNoPart, rSlS, cut_lo, cut_hi, gc_cons, gn_nil, tJs, tFmt8, S_empty, tTup, tNever, tNext, tM1, tM0, tRet, tRetN, tAndV, tOrV, tNotV, tCall, tMeth, tProp, tVar, tC, tCons, tNil, L2.start, tChain, tTest, rI, rI0, tOp, tUn, tSeq, tIfS, tAnd, tOr, tNot, tB, tIf, tAsg, gName, tDrop, tCB, tFld, rEq, rNe, scal, rIsi_int, rIsi_bl, rIsi_str, rIsi_non, kit_ii, kit_ib, kit_is, kit_bi, kit_bb, kit_bs, kit_si, kit_sb, kit_ss, kit_ni, kit_nb, kit_ns, S_inj, S_app, S_len, S_list, S_one, lit_no, lit_sp, lit_nl, lit_eq, cx_K, ex2, ex3, ex2b, rd_spN, rd_spC, rd_spI, rd_spIII, rd_spS, kNL, kBL, kES, kSB]
      refine h3 _ _ ?_
      clear h3
      refine tSeq_cut fun N4 h4 => ?_
      have t4 : ∀ plain : Bool, (plain = true → (isSign n = true ∧ n ≠ 61) ∨ (n = 32 ∧ (u.loose = true ∨ last = false))) →
          N4 [some (.ref g), some (.ref cd), some (.ref ru), some (vi n), some (.bl last), some (Pt.vs [x, y]), some (Pt.vs sgs), some (.bl plain)] H1 := by
        intro plain hp
        refine h4 _ _ ?_
        cases plain with
        | false =>
          simp [tPar, tPar3, -List.lookup_eq_none_iff, sizeLine_eq, tSl, tPart, tNoPart, rSlS, cut_lo, cut_hi, gc_cons, gn_nil, tJs, tFmt8, S_empty, tTup, tNever, tNext, tM1, tM0, tRet, tRetN, tAndV, tOrV, tNotV, tCall, tMeth, tProp, tVar, tC, tCons, tNil, L2.start, tChain, tTest, rI, rI0, tOp, tUn, tSeq, tIfS, tAnd, tOr, tNot, tB, tIf, tAsg, gName, tDrop, tCB, tFld, rEq, rNe, scal, rIsi_int, rIsi_bl, rIsi_str, rIsi_non, kit_ii, kit_ib, kit_is, kit_bi, kit_bb, kit_bs, kit_si, kit_sb, kit_ss, kit_ni, kit_nb, kit_ns, S_inj, S_app, S_len, S_list, S_one, lit_no, lit_sp, lit_nl, lit_eq, cx_K, ex2, ex3, ex2b, rd_spN, rd_spC, rd_spI, rd_spIII, rd_spS, kNL, kBL, kES, kSB]
          exact kk _ H1 (.inl ⟨x, y, rfl, hx, px, py⟩) s1 (B1.mono (by omega))
        | true =>
          simp [tPar, tPar3, -List.lookup_eq_none_iff, sizeLine_eq, tSl, tPart, tNoPart, rSlS, cut_lo, cut_hi, gc_cons, gn_nil, tJs, tFmt8, S_empty, tTup, tNever, tNext, tM1, tM0, tRet, tRetN, tAndV, tOrV, tNotV, tCall, tMeth, tProp, tVar, tC, tCons, tNil, L2.start, tChain, tTest, rI, rI0, tOp, tUn, tSeq, tIfS, tAnd, tOr, tNot, tB, tIf, tAsg, gName, tDrop, tCB, tFld, rEq, rNe, scal, rIsi_int, rIsi_bl, rIsi_str, rIsi_non, kit_ii, kit_ib, kit_is, kit_bi, kit_bb, kit_bs, kit_si, kit_sb, kit_ss, kit_ni, kit_nb, kit_ns, S_inj, S_app, S_len, S_list, S_one, lit_no, lit_sp, lit_nl, lit_eq, cx_K, ex2, ex3, ex2b, rd_spN, rd_spC, rd_spI, rd_spIII, rd_spS, kNL, kBL, kES, kSB]
          refine ⟨g, 3, k + 1, rfl, by decide, by decide, B1, by omega, fun r H2 _ _ s2 B2 => ?_⟩
          simp [tPar, tPar3, -List.lookup_eq_none_iff, sizeLine_eq, tSl, tPart, tNoPart, rSlS, cut_lo, cut_hi, gc_cons, gn_nil, tJs, tFmt8, S_empty, tTup, tNever, tNext, tM1, tM0, tRet, tRetN, tAndV, tOrV, tNotV, tCall, tMeth, tProp, tVar, tC, tCons, tNil, L2.start, tChain, tTest, rI, rI0, tOp, tUn, tSeq, tIfS, tAnd, tOr, tNot, tB, tIf, tAsg, gName, tDrop, tCB, tFld, rEq, rNe, scal, rIsi_int, rIsi_bl, rIsi_str, rIsi_non, kit_ii, kit_ib, kit_is, kit_bi, kit_bb, kit_bs, kit_si, kit_sb, kit_ss, kit_ni, kit_nb, kit_ns, S_inj, S_app, S_len, S_list, S_one, lit_no, lit_sp, lit_nl, lit_eq, cx_K, ex2, ex3, ex2b, rd_spN, rd_spC, rd_spI, rd_spIII, rd_spS, kNL, kBL, kES, kSB]
          by_cases hr0 : r = 0
          · rw [if_pos hr0]
            exact kk _ H2 (.inl ⟨x, y, rfl, hx, px, py⟩) (s1.trans s2) B2
          · rw [if_neg hr0]
            rcases hp rfl with ⟨hs, h61⟩ | ⟨rfl, hl⟩
            · have hs2 : 33 ≤ n ∧ n ≤ 126 ∧ n ≠ 37 := by simpa [isSign] using hs
              rw [if_neg (by omega)]
              have e : ((n : Int) - 33 - if 37 < (n : Int) then 1 else 0) = ((n - 33 - (if 37 < n then 1 else 0) : Nat) : Int) := by
                split <;> split <;> omega
              have hlt : n - 33 - (if 37 < n then 1 else 0) < 93 := by split <;> omega
              have l : sgs.length = 93 := by simp [sgs]
              have es : sg (n - 33 - (if 37 < n then 1 else 0)) = n := by
                unfold sg
                split <;> split <;> omega
              refine ⟨by split <;> omega, by rw [e]; omega, by rw [e, l]; omega, n, ?_, kk _ H2 (.inr (.inl ⟨rfl, hs, h61⟩)) (s1.trans s2) B2⟩
              rw [e, Int.toNat_natCast]
              unfold sgs
              rw [List.getElem?_map, List.getElem?_range hlt]
              exact congrArg some es
            · rw [if_pos (by decide)]
              exact kk _ H2 (.inr (.inr ⟨rfl, rfl, hl⟩)) (s1.trans s2) B2
      clear h4
      by_cases h32 : n = 32
      · subst h32
        simp [tPar, tPar3, -List.lookup_eq_none_iff, sizeLine_eq, tSl, tPart, tNoPart, rSlS, cut_lo, cut_hi, gc_cons, gn_nil, tJs, tFmt8, S_empty, tTup, tNever, tNext, tM1, tM0, tRet, tRetN, tAndV, tOrV, tNotV, tCall, tMeth, tProp, tVar, tC, tCons, tNil, L2.start, tChain, tTest, rI, rI0, tOp, tUn, tSeq, tIfS, tAnd, tOr, tNot, tB, tIf, tAsg, gName, tDrop, tCB, tFld, rEq, rNe, scal, rIsi_int, rIsi_bl, rIsi_str, rIsi_non, kit_ii, kit_ib, kit_is, kit_bi, kit_bb, kit_bs, kit_si, kit_sb, kit_ss, kit_ni, kit_nb, kit_ns, S_inj, S_app, S_len, S_list, S_one, lit_no, lit_sp, lit_nl, lit_eq, cx_K, ex2, ex3, ex2b, rd_spN, rd_spC, rd_spI, rd_spIII, rd_spS, kNL, kBL, kES, kSB]
        refine ixT (i := 1) hu3 rfl ?_
        cases hl : u.loose with
        | true => exact .inr ⟨rfl, t4 true fun _ => .inr ⟨rfl, .inl hl⟩⟩
        | false =>
          refine .inl ⟨rfl, ?_⟩
          have := t4 (!last) fun h => .inr ⟨rfl, .inr (by simpa using h)⟩
          cases last with
          | false => exact .inl ⟨rfl, this⟩
          | true => exact .inr ⟨rfl, this⟩
      · have e0 : ¬ ((n : Int) = 32) := by omega
        by_cases e1 : (32 : Int) < n
        · by_cases e2 : (n : Int) < 127
          · by_cases e3 : (n : Int) = 37
            · simp [tPar, tPar3, -List.lookup_eq_none_iff, sizeLine_eq, tSl, tPart, tNoPart, rSlS, cut_lo, cut_hi, gc_cons, gn_nil, tJs, tFmt8, S_empty, tTup, tNever, tNext, tM1, tM0, tRet, tRetN, tAndV, tOrV, tNotV, tCall, tMeth, tProp, tVar, tC, tCons, tNil, L2.start, tChain, tTest, rI, rI0, tOp, tUn, tSeq, tIfS, tAnd, tOr, tNot, tB, tIf, tAsg, gName, tDrop, tCB, tFld, rEq, rNe, scal, rIsi_int, rIsi_bl, rIsi_str, rIsi_non, kit_ii, kit_ib, kit_is, kit_bi, kit_bb, kit_bs, kit_si, kit_sb, kit_ss, kit_ni, kit_nb, kit_ns, S_inj, S_app, S_len, S_list, S_one, lit_no, lit_sp, lit_nl, lit_eq, cx_K, ex2, ex3, ex2b, rd_spN, rd_spC, rd_spI, rd_spIII, rd_spS, kNL, kBL, kES, kSB, e0, e1, e2, e3]
              exact t4 false fun h => nomatch h
            · by_cases e4 : (n : Int) = 61
              · simp [tPar, tPar3, -List.lookup_eq_none_iff, sizeLine_eq, tSl, tPart, tNoPart, rSlS, cut_lo, cut_hi, gc_cons, gn_nil, tJs, tFmt8, S_empty, tTup, tNever, tNext, tM1, tM0, tRet, tRetN, tAndV, tOrV, tNotV, tCall, tMeth, tProp, tVar, tC, tCons, tNil, L2.start, tChain, tTest, rI, rI0, tOp, tUn, tSeq, tIfS, tAnd, tOr, tNot, tB, tIf, tAsg, gName, tDrop, tCB, tFld, rEq, rNe, scal, rIsi_int, rIsi_bl, rIsi_str, rIsi_non, kit_ii, kit_ib, kit_is, kit_bi, kit_bb, kit_bs, kit_si, kit_sb, kit_ss, kit_ni, kit_nb, kit_ns, S_inj, S_app, S_len, S_list, S_one, lit_no, lit_sp, lit_nl, lit_eq, cx_K, ex2, ex3, ex2b, rd_spN, rd_spC, rd_spI, rd_spIII, rd_spS, kNL, kBL, kES, kSB, e0, e1, e2, e3, e4]
                exact t4 false fun h => nomatch h
              · simp [tPar, tPar3, -List.lookup_eq_none_iff, sizeLine_eq, tSl, tPart, tNoPart, rSlS, cut_lo, cut_hi, gc_cons, gn_nil, tJs, tFmt8, S_empty, tTup, tNever, tNext, tM1, tM0, tRet, tRetN, tAndV, tOrV, tNotV, tCall, tMeth, tProp, tVar, tC, tCons, tNil, L2.start, tChain, tTest, rI, rI0, tOp, tUn, tSeq, tIfS, tAnd, tOr, tNot, tB, tIf, tAsg, gName, tDrop, tCB, tFld, rEq, rNe, scal, rIsi_int, rIsi_bl, rIsi_str, rIsi_non, kit_ii, kit_ib, kit_is, kit_bi, kit_bb, kit_bs, kit_si, kit_sb, kit_ss, kit_ni, kit_nb, kit_ns, S_inj, S_app, S_len, S_list, S_one, lit_no, lit_sp, lit_nl, lit_eq, cx_K, ex2, ex3, ex2b, rd_spN, rd_spC, rd_spI, rd_spIII, rd_spS, kNL, kBL, kES, kSB, e0, e1, e2, e3, e4]
                exact t4 true fun _ => .inl ⟨by unfold isSign; simp; omega, by omega⟩
          · simp [tPar, tPar3, -List.lookup_eq_none_iff, sizeLine_eq, tSl, tPart, tNoPart, rSlS, cut_lo, cut_hi, gc_cons, gn_nil, tJs, tFmt8, S_empty, tTup, tNever, tNext, tM1, tM0, tRet, tRetN, tAndV, tOrV, tNotV, tCall, tMeth, tProp, tVar, tC, tCons, tNil, L2.start, tChain, tTest, rI, rI0, tOp, tUn, tSeq, tIfS, tAnd, tOr, tNot, tB, tIf, tAsg, gName, tDrop, tCB, tFld, rEq, rNe, scal, rIsi_int, rIsi_bl, rIsi_str, rIsi_non, kit_ii, kit_ib, kit_is, kit_bi, kit_bb, kit_bs, kit_si, kit_sb, kit_ss, kit_ni, kit_nb, kit_ns, S_inj, S_app, S_len, S_list, S_one, lit_no, lit_sp, lit_nl, lit_eq, cx_K, ex2, ex3, ex2b, rd_spN, rd_spC, rd_spI, rd_spIII, rd_spS, kNL, kBL, kES, kSB, e0, e1, e2]
            exact t4 false fun h => nomatch h
        · simp [tPar, tPar3, -List.lookup_eq_none_iff, sizeLine_eq, tSl, tPart, tNoPart, rSlS, cut_lo, cut_hi, gc_cons, gn_nil, tJs, tFmt8, S_empty, tTup, tNever, tNext, tM1, tM0, tRet, tRetN, tAndV, tOrV, tNotV, tCall, tMeth, tProp, tVar, tC, tCons, tNil, L2.start, tChain, tTest, rI, rI0, tOp, tUn, tSeq, tIfS, tAnd, tOr, tNot, tB, tIf, tAsg, gName, tDrop, tCB, tFld, rEq, rNe, scal, rIsi_int, rIsi_bl, rIsi_str, rIsi_non, kit_ii, kit_ib, kit_is, kit_bi, kit_bb, kit_bs, kit_si, kit_sb, kit_ss, kit_ni, kit_nb, kit_ns, S_inj, S_app, S_len, S_list, S_one, lit_no, lit_sp, lit_nl, lit_eq, cx_K, ex2, ex3, ex2b, rd_spN, rd_spC, rd_spI, rd_spIII, rd_spS, kNL, kBL, kES, kSB, e0, e1]
          exact t4 false fun h => nomatch h
    clear h2
    simp [tPar, tPar3, -List.lookup_eq_none_iff, sizeLine_eq, tSl, tPart, tNoPart, rSlS, cut_lo, cut_hi, gc_cons, gn_nil, tJs, tFmt8, S_empty, tTup, tNever, tNext, tM1, tM0, tRet, tRetN, tAndV, tOrV, tNotV, tCall, tMeth, tProp, tVar, tC, tCons, tNil, L2.start, tChain, tTest, rI, rI0, tOp, tUn, tSeq, tIfS, tAnd, tOr, tNot, tB, tIf, tAsg, gName, tDrop, tCB, tFld, rEq, rNe, scal, rIsi_int, rIsi_bl, rIsi_str, rIsi_non, kit_ii, kit_ib, kit_is, kit_bi, kit_bb, kit_bs, kit_si, kit_sb, kit_ss, kit_ni, kit_nb, kit_ns, S_inj, S_app, S_len, S_list, S_one, lit_no, lit_sp, lit_nl, lit_eq, cx_K, ex2, ex3, ex2b, rd_spN, rd_spC, rd_spI, rd_spIII, rd_spS, kNL, kBL, kES, kSB]
    have pr := hex_pr ⟨n, hn⟩
    have up : ∀ H1, SameX g H H1 → Bag H1 g (k + 1) → N2 [some (.ref g), some (.ref cd), some (.ref ru), some (vi n), some (.bl last), some (Pt.vs (hex2 n)), none, none] H1 := fun H1 s1 B1 => t2 _ _ H1 (HexT.up hn) pr.1 pr.2 s1 B1
    refine ixT (i := 2) hu2 rfl ?_
    cases hf : u.fold with
    | false => exact .inl ⟨rfl, up H (SameX.refl _ _) (B.mono (by omega))⟩
    | true =>
      refine .inr ⟨rfl, g, 2, k, rfl, by decide, by decide, B, by omega, fun r H1 _ _ s1 B1 => ?_⟩
      simp [tPar, tPar3, -List.lookup_eq_none_iff, sizeLine_eq, tSl, tPart, tNoPart, rSlS, cut_lo, cut_hi, gc_cons, gn_nil, tJs, tFmt8, S_empty, tTup, tNever, tNext, tM1, tM0, tRet, tRetN, tAndV, tOrV, tNotV, tCall, tMeth, tProp, tVar, tC, tCons, tNil, L2.start, tChain, tTest, rI, rI0, tOp, tUn, tSeq, tIfS, tAnd, tOr, tNot, tB, tIf, tAsg, gName, tDrop, tCB, tFld, rEq, rNe, scal, rIsi_int, rIsi_bl, rIsi_str, rIsi_non, kit_ii, kit_ib, kit_is, kit_bi, kit_bb, kit_bs, kit_si, kit_sb, kit_ss, kit_ni, kit_nb, kit_ns, S_inj, S_app, S_len, S_list, S_one, lit_no, lit_sp, lit_nl, lit_eq, cx_K, ex2, ex3, ex2b, rd_spN, rd_spC, rd_spI, rd_spIII, rd_spS, kNL, kBL, kES, kSB]
      split
      · refine ⟨by simp [hex2], ?_⟩
        rw [lo_text ⟨n, hn⟩]
        exact t2 _ _ H1 (HexT.low hn hf) (lo_hex false false ⟨n / 16, by omega⟩).2 (lo_hex false false ⟨n % 16, by omega⟩).2 s1 B1
      · exact up H1 s1 B1
end
end K45
end
section
/-! the plain side of _law_spelled: any spelling is read as the data -/
namespace K45
open PySem PySem.Spec PyProof.Rows L2 Pt
def pre (R : List (List Nat)) : List Nat := (R.map fun r => r ++ [10]).flatten
theorem pre_app (A B : List (List Nat)) : pre (A ++ B) = pre A ++ pre B := by unfold pre; simp
theorem pre_one (r : List Nat) : pre [r] = r ++ [10] := by unfold pre; simp
def mostQ (q : QC) (u : RC) : Int := if u.lines = true ∧ 0 < q.w then q.w else 9
section
variable {q : QC} {u : RC}
theorem most4 (hw : q.w = 0 ∨ 4 ≤ q.w) : 4 ≤ mostQ q u := by
  unfold mostQ
  split <;> omega
theorem rm_most {c n : Int} (hw : q.w = 0 ∨ 4 ≤ q.w) (h : c + n ≤ mostQ q u) : Rm q u c n := by
  unfold mostQ at h
  by_cases hl : u.lines = true
  · rcases hw with e | e
    · exact .inr (.inl e)
    · rw [if_pos ⟨hl, by omega⟩] at h
      exact .inr (.inr h)
  · exact .inl (by simpa using hl)
def extra (u : RC) (it : List Nat) (last : Bool) : Int := if (!last || (decide (it = [32]) && !u.loose)) = true then 1 else 0
theorem extra_le (it : List Nat) (last : Bool) : 0 ≤ extra u it last ∧ extra u it last ≤ 1 := by
  unfold extra; split <;> omega
theorem run_item {m b : List Nat} {c : Int} {n : Nat} {last : Bool} {it : List Nat} (hw : q.w = 0 ∨ 4 ≤ q.w) (hb : B3 b) (ho : ItemOk u n last it) (hn : n < 256) (hr : c + it.length + extra u it last ≤ mostQ q u) :
    ∃ b', B3 b' ∧ (last = true → b' = []) ∧ runR q u (m, Cc q u c, b) it = some (m ++ [n], Cc q u (c + it.length), b') ∧ ChA it := by
  have hx := extra_le (u := u) it last
  rcases ho with ⟨x, y, rfl, ht, px, py⟩ | ⟨rfl, hs, h61⟩ | ⟨rfl, rfl, hl⟩
  · have e : (([61, x, y] : List Nat).length : Int) = 3 := rfl
    rw [e] at hr ⊢
    exact ⟨[], .inl rfl, fun _ => rfl, run_coded hw hb (rm_most hw (by omega)) hn ht, .cons (.inr (by decide)) (.cons (.inr px) (.cons (.inr py) .nil))⟩
  · have e : (([n] : List Nat).length : Int) = 1 := rfl
    rw [e] at hr ⊢
    have hs2 : 33 ≤ n ∧ n ≤ 126 ∧ n ≠ 37 := by simpa [isSign] using hs
    exact ⟨[], .inl rfl, fun _ => rfl, run_plain hw hb (rm_most hw (by omega)) (by omega) (by omega) h61, .cons (.inr (sign_pr hs)) .nil⟩
  · have e : (([32] : List Nat).length : Int) = 1 := rfl
    rw [e] at hr ⊢
    refine ⟨_, B3.blank (u := u), fun h => ?_, run_blank hw hb (rm_most hw ?_), .cons (.inr (by decide)) .nil⟩
    · rcases hl with hl | hl
      · rw [if_pos hl]
      · rw [hl] at h; cases h
    · cases hlo : u.loose with
      | true => rw [if_pos rfl]; omega
      | false =>
        have : extra u [32] last = 1 := by unfold extra; rw [hlo]; simp
        rw [if_neg (by decide)]; omega
theorem item_len3 {n : Nat} {last : Bool} {it : List Nat} (ho : ItemOk u n last it) : it.length ≤ 3 := by
  rcases ho with ⟨x, y, rfl, _⟩ | ⟨rfl, _⟩ | ⟨_, rfl, _⟩ <;> simp
/-- within a line: rows R are written, row is begun, d is read; more bytes follow in the line -/
def II (q : QC) (u : RC) (R : List (List Nat)) (row d : List Nat) (more : Bool) : Prop := ∃ b, runR q u st0 (pre R ++ row) = some (d, Cc q u row.length, b) ∧ B3 b ∧ (more = false → b = []) ∧ (more = true → (row.length : Int) + 1 ≤ mostQ q u) ∧
  ChA (pre R ++ row) ∧ (pre R ++ row).length ≤ 5 * d.length
theorem II.item {R : List (List Nat)} {row d it : List Nat} {n : Nat} {last : Bool} (hw : q.w = 0 ∨ 4 ≤ q.w) (h : II q u R row d true) (ho : ItemOk u n last it) (hn : n < 256) (hr : (row.length : Int) + it.length + extra u it last ≤ mostQ q u) :
    II q u R (row ++ it) (d ++ [n]) (!last) := by
  obtain ⟨b, h1, h2, _, h4, h5, h6⟩ := h
  obtain ⟨b', g1, g2, g3, g4⟩ := run_item (m := d) hw h2 ho hn hr
  have h3 := item_len3 ho
  refine ⟨b', ?_, g1, fun e => g2 (by simpa using e), fun e => ?_, ?_, ?_⟩
  · rw [← List.append_assoc, List.length_append, Int.natCast_add]
    exact run_app2 h1 g3
  · have : extra u it last = 1 := by unfold extra; simp at e; rw [e]; simp
    rw [List.length_append]; omega
  · rw [← List.append_assoc]; exact h5.app g4
  · simp only [List.length_append, List.length_cons, List.length_nil] at h6 ⊢; omega
theorem II.brk {R : List (List Nat)} {row d it : List Nat} {n : Nat} {last : Bool} (hw : q.w = 0 ∨ 4 ≤ q.w) (h : II q u R row d true) (ho : ItemOk u n last it) (hn : n < 256) :
    II q u (R ++ [row ++ [61]]) it (d ++ [n]) (!last) := by
  obtain ⟨b, h1, h2, _, h4, h5, h6⟩ := h
  have h3 := item_len3 ho
  have hx := extra_le (u := u) it last
  have m4 := most4 (u := u) hw
  have r1 := run_brk (q := q) (u := u) (m := d) hw h2 (rm_most hw (h4 rfl))
  obtain ⟨b', g1, g2, g3, g4⟩ := run_item (q := q) (m := d) (c := 0) hw (B3.soft (u := u)) ho hn (by omega)
  have e : pre (R ++ [row ++ [61]]) ++ it = (pre R ++ row) ++ ([61, 10] ++ it) := by rw [pre_app, pre_one]; simp
  refine ⟨b', ?_, g1, fun e => g2 (by simpa using e), fun _ => by omega, ?_, ?_⟩
  · rw [e]
    rw [Int.zero_add] at g3
    exact run_app2 h1 (run_app2 r1 g3)
  · rw [e]; exact h5.app (ChA.soft.app g4)
  · rw [e]
    simp only [List.length_append, List.length_cons, List.length_nil] at h6 ⊢; omega
/-- between lines -/
def BI (q : QC) (u : RC) (L : List (List Nat)) (i : Nat) (R : List (List Nat)) : Prop := (i = 0 ∧ R = []) ∨ ∃ j R' row line c, i = j + 1 ∧ R = R' ++ [row] ∧ L[j]? = some line ∧ runR q u st0 (pre R' ++ row) = some (pre (L.take j) ++ line, c, []) ∧
  ChA (pre R' ++ row) ∧ (pre R' ++ row).length ≤ 5 * (pre (L.take j) ++ line).length
theorem pre_take {L : List (List Nat)} {j : Nat} {line : List Nat} (h : L[j]? = some line) : pre (L.take (j + 1)) = pre (L.take j) ++ line ++ [10] := by
  rw [List.take_add_one, h, pre_app]
  show _ ++ pre [line] = _
  rw [pre_one]; simp
theorem BI.start {L R : List (List Nat)} {i : Nat} {line : List Nat} {more : Bool} (hw : q.w = 0 ∨ 4 ≤ q.w) (h : BI q u L i R) (hl : L[i]? = some line) (hb : 2 ≤ L.length → q.b = false) : II q u R [] (pre (L.take i)) more := by
  have m4 := most4 (u := u) hw
  rcases h with ⟨rfl, rfl⟩ | ⟨j, R', row, line', c, rfl, rfl, hj, h1, h2, h3⟩
  · exact ⟨[], by rw [show (([] : List Nat).length : Int) = 0 from rfl, Cc0]; rfl, .inl rfl, fun _ => rfl, fun _ => by simp; omega, .nil, Nat.zero_le _⟩
  · have hlen := (List.getElem?_eq_some_iff.mp hl).1
    have e : pre (R' ++ [row]) ++ [] = (pre R' ++ row) ++ [10] := by rw [pre_app, pre_one]; simp
    refine ⟨[], ?_, .inl rfl, fun _ => rfl, fun _ => by simp; omega, ?_, ?_⟩
    · rw [e, show (([] : List Nat).length : Int) = 0 from rfl, Cc0, pre_take hj]
      exact run_app2 h1 (run_nl (hb (by omega)))
    · rw [e]; exact h2.app (.cons (.inl rfl) .nil)
    · rw [e, pre_take hj, List.length_append, List.length_append (bs := [10])]
      simp at h3 ⊢; omega
theorem II.close {L R : List (List Nat)} {i : Nat} {row line : List Nat} (h : II q u R row (pre (L.take i) ++ line) false) (hl : L[i]? = some line) : BI q u L (i + 1) (R ++ [row]) := by
  obtain ⟨b, h1, h2, h3, h4, h5, h6⟩ := h
  rw [h3 rfl] at h1
  exact .inr ⟨i, R, row, line, _, rfl, rfl, hl, h1, h5, h6⟩
def jl (L : List (List Nat)) : List Nat := pre L.dropLast ++ L.getLastD []
theorem BI.done {L R : List (List Nat)} (h : BI q u L L.length R) (hL : L ≠ []) (hz : (jl L).length ≤ 1000) : ∃ R' row, R = R' ++ [row] ∧ readQ q u (pre R' ++ row) = some (jl L) ∧ TextOk (pre R' ++ row) := by
  rcases h with ⟨h, _⟩ | ⟨j, R', row, line, c, hj, rfl, hl, h1, h2, h3⟩
  · exact absurd (List.length_eq_zero_iff.mp h) hL
  · have e : jl L = pre (L.take j) ++ line := by
      unfold jl
      have e1 : L.dropLast = L.take j := by rw [List.dropLast_eq_take, hj]; rfl
      have e2 : L.getLastD [] = line := by
        rw [List.getLastD_eq_getLast?, List.getLast?_eq_getElem?, hj]
        simp [hl]
      rw [e1, e2]
    refine ⟨R', row, rfl, ?_, ?_, h2⟩
    · have e2 : accR q u (pre R' ++ row) = some (jl L, c, []) := by rw [e]; exact h1
      unfold readQ
      rw [e2]; rfl
    · rw [e] at hz; omega
/-! the lines of data -/
theorem lines_ne {data : List Nat} : ∀ {L : List (List Nat)}, L ≠ [] → data.foldl (linesStep q) L ≠ [] := by
  induction data with
  | nil => intro L h; exact h
  | cons n r ih =>
    intro L h
    refine ih ?_
    unfold linesStep
    split <;> simp
theorem jl_snoc (A : List (List Nat)) (x : List Nat) : jl (A ++ [x]) = pre A ++ x := by unfold jl; simp [List.getLastD_eq_getLast?]
theorem lines_jl {data : List Nat} : ∀ {L : List (List Nat)}, L ≠ [] → jl (data.foldl (linesStep q) L) = jl L ++ data := by
  induction data with
  | nil => intro L h; simp
  | cons n r ih =>
    intro L h
    obtain ⟨A, x, rfl⟩ : ∃ A x, L = A ++ [x] := ⟨L.dropLast, L.getLast h, (List.dropLast_concat_getLast h).symm⟩
    have hs : linesStep q (A ++ [x]) n ≠ [] := by unfold linesStep; split <;> simp
    rw [List.foldl_cons, ih hs]
    unfold linesStep
    split
    · rename_i hn
      have : n = 10 := by unfold isNl at hn; simp at hn; omega
      subst this
      rw [jl_snoc, jl_snoc, pre_app, pre_one]; simp
    · have e : (A ++ [x]).dropLast ++ [(A ++ [x]).getLastD [] ++ [n]] = A ++ [x ++ [n]] := by simp [List.getLastD_eq_getLast?]
      rw [e, jl_snoc, jl_snoc]; simp
theorem lines_jl0 (data : List Nat) : jl (linesQ q data) = data := by
  unfold linesQ
  rw [lines_jl (by simp)]; rfl
theorem lines_b {data : List Nat} : ∀ {L : List (List Nat)}, 2 ≤ (data.foldl (linesStep q) L).length → L.length ≤ 1 → L ≠ [] → q.b = false := by
  induction data with
  | nil => intro L h h1 _; simp at h; omega
  | cons n r ih =>
    intro L h h1 h0
    by_cases hn : isNl q n = true
    · unfold isNl at hn; simp at hn; exact hn.2
    · rw [List.foldl_cons] at h
      have e : linesStep q L n = L.dropLast ++ [L.getLastD [] ++ [n]] := by unfold linesStep; rw [if_neg hn]
      rw [e] at h
      exact ih h (by simp; omega) (by simp)
theorem jl_split (A : List (List Nat)) (x : List Nat) (B : List (List Nat)) : ∃ r, jl (A ++ x :: B) = pre A ++ x ++ r := by
  by_cases h : B = []
  · subst h; exact ⟨[], by rw [jl_snoc]; simp⟩
  · obtain ⟨B', y, rfl⟩ : ∃ B' y, B = B' ++ [y] := ⟨B.dropLast, B.getLast h, (List.dropLast_concat_getLast h).symm⟩
    refine ⟨[10] ++ pre B' ++ y, ?_⟩
    have e : A ++ x :: (B' ++ [y]) = (A ++ [x] ++ B') ++ [y] := by simp
    rw [e, jl_snoc, pre_app, pre_app, pre_one]; simp
theorem line_of {L : List (List Nat)} {i : Nat} {line : List Nat} (h : L[i]? = some line) : (pre (L.take i) ++ line).length ≤ (jl L).length ∧ ∀ b ∈ line, b ∈ jl L := by
  have hlt := (List.getElem?_eq_some_iff.mp h).1
  have hL : L = L.take i ++ line :: L.drop (i + 1) := by
    have e := (List.getElem?_eq_some_iff.mp h).2
    rw [← e]
    simp
  obtain ⟨r, hr⟩ := jl_split (L.take i) line (L.drop (i + 1))
  rw [← hL] at hr
  rw [hr]
  refine ⟨by simp, fun b hb => by simp [hb]⟩
/-! "\\n".join -/
theorem join_nl : ∀ (R : List (List Nat)) (x : List Nat), Txt.join (S [10]) ((R ++ [x]).map S) = S (pre R ++ x) := by
  intro R x
  show PySem.Builtin.Str.glued _ _ = _
  rw [StrLaws.glued_eq_join]
  induction R with
  | nil => simp [Str.join, pre]
  | cons y r ih =>
    have e : ((y :: r) ++ [x]).map S = S y :: ((r ++ [x]).map S) := by simp
    rw [e]
    have hne : (r ++ [x]).map S ≠ [] := by simp
    cases hr : (r ++ [x]).map S with
    | nil => exact absurd hr hne
    | cons a b =>
      rw [hr] at ih
      unfold Str.join
      rw [ih, S_app, S_app]
      unfold pre
      simp
end
end K45
end
section
namespace K45
open PySem PySem.Spec PyProof.Rows L2 Pt
section
variable {P : Program} {w : World} {K : Fg} {mg : Str → Option Value} {base : Heap}
theorem sum_len : ∀ R : List (List Nat), ((R.map S).map fun x => x.length).sum + R.length = (pre R).length
  | [] => rfl
  | r :: R => by
    have := sum_len R
    have e : pre (r :: R) = r ++ [10] ++ pre R := by unfold pre; simp
    rw [e]
    simp only [List.map_cons, List.sum_cons, List.length_cons, List.length_append, List.length_nil, S_len] at this ⊢
    omega
/-- what stood stands, but for g and rl -/
def SXX (g rl : Addr) (H H' : Hp) : Prop := ∀ b u, b ≠ g → b ≠ rl → H b = some u → H' b = some u
def VOut (q : QC) (u : RC) (H2 : Hp) (g cd ru d rl : Addr) (n : Nat) (L : List (List Nat)) (i : Nat) (σ : L2.St) (H' : Hp) : Prop := ∃ v6 v7 v8 v9 v10 v11 v12 R, σ = [some (.ref g), some (.ref cd), some (.ref ru), some (.ref d), some (.int (mostQ q u)), some (.ref rl), v6, v7, v8, v9, v10, v11, v12] ∧
  SXX g rl H2 H' ∧ Bag H' g (n + 3 * (pre (L.take i)).length) ∧ H' rl = some (.lst (R.map Pt.vs)) ∧ BI q u L i R ∧ R.length ≤ 2 * (pre (L.take i)).length
def VIn (q : QC) (u : RC) (H2 : Hp) (g cd ru d rl : Addr) (n : Nat) (L : List (List Nat)) (i : Nat) (la : Addr) (line : List Nat) (k : Nat) (σ : L2.St) (H' : Hp) : Prop := ∃ v8 v9 v10 v11 v12 R row, σ = [some (.ref g), some (.ref cd), some (.ref ru), some (.ref d), some (.int (mostQ q u)), some (.ref rl), some (.ref la), some (Pt.vs row), v8, v9, v10, v11, v12] ∧
  SXX g rl H2 H' ∧ Bag H' g (n + 3 * (pre (L.take i) ++ line.take k).length) ∧ H' rl = some (.lst (R.map Pt.vs)) ∧ II q u R row (pre (L.take i) ++ line.take k) (decide (k < line.length)) ∧ R.length ≤ 2 * (pre (L.take i) ++ line.take k).length
theorem SXX.same {g rl : Addr} {H H1 H2 : Hp} (h : SXX g rl H H1) (s : Same H1 H2) : SXX g rl H H2 := fun b u h1 h2 e => s _ _ (h b u h1 h2 e)
theorem SXX.sameX {g rl : Addr} {H H1 H2 : Hp} (h : SXX g rl H H1) (s : SameX g H1 H2) : SXX g rl H H2 := fun b u h1 h2 e => s _ _ h1 (h b u h1 h2 e)
theorem SXX.upd {g rl : Addr} {H H1 : Hp} {o : HO} (h : SXX g rl H H1) : SXX g rl H (upd H1 rl o) := fun b u h1 h2 e => by rw [upd_ne h2]; exact h b u h1 h2 e
def spSpelled : Sp := fun us H Q _ => ∃ (g cd ru d : Addr) (n : Nat) (q : QC) (u : RC) (data : List Nat), us = [.ref g, .ref cd, .ref ru, .ref d] ∧ TupQ H cd q ∧ QOk q ∧ TupR H ru u ∧ H d = some (.lst (data.map vi)) ∧ d ≠ g ∧ data.length ≤ 40 ∧ (∀ b ∈ data, b < 256) ∧ Bag H g n ∧ n ≤ 900000 ∧
  ∀ (text : List Nat) H', TextOk text → readQ q u text = some data → SameX g H H' → Bag H' g (n + 130) → Q (Pt.vs text) H'
theorem sc_law_spelled : FnScope ["_law_bag_here", "_law_code", "_law_rules_here", "_law_data", "_law_most", "_law_rows", "_law_line", "_law_row", "_law_place", "_law_byte", "_law_is_last", "_law_item", "_law_needed"] ["_law_bag_here", "_law_code", "_law_rules_here", "_law_data"] (defScope s_law_spelled) := ⟨rfl, rfl, rfl, by decide +kernel, rfl, by decide +kernel, by decide +kernel⟩
theorem ok_law_spelled (T : Tx K mg) : Fok P w K mg base 3 d_law_spelled ["_law_bag_here", "_law_code", "_law_rules_here", "_law_data"] [] spSpelled := by
  refine fok T.F_law_spelled sc_law_spelled (fun vs H Q E h => ?_) (fun _ _ _ _ _ _ us hl => match us, hl with | [_, _, _, _], _ => rfl) (fun cdv A outer s H vs Q E hr h => ?_)
  · obtain ⟨g, cd, ru, d, n, q, u, data, rfl, _⟩ := h; rfl
  · obtain ⟨g, cd, ru, d, n, q, u, data, rfl, hc, hq, hu2, hd, hdg, hl, hb, B, hn, k⟩ := h
    have hu := hu_of hr
    refine ⟨_, (pss_cons (ps_par (i := 4) (j := 5) rfl sc_law_spelled.nd rfl rfl (by decide) rfl rfl (pa_cons (pe_ifExp ((pw_and (pt_val (pe_ix ix_tup (pv 2) pe_int (fun _ _ => rfl))) (pw_and1 (pt_cmpR op_gt (pe_ix ix_tup (pv 1) pe_int (fun _ _ => rfl)) pe_int (nomark _))))).pt (pe_ix ix_tup (pv 1) pe_int (fun _ _ => rfl)) pe_int) (pa_cons (pe_lst pa_nil) pa_nil)) (by rfl))
        (pss_cons (ps_for PassesOwn.never rfl (pi_list (pe_cF (ok_law_lines T) (hr.mono (by decide)) T.g__law_lines (pa_cons (pv 1) (pa_cons (pv 3) pa_nil)))) (pg_name (i := 6) sc_law_spelled.nd rfl (Or.inl rfl)) (pss_cons (ps_set (i := 7) sc_law_spelled.nd rfl (Or.inl rfl) pe_str)
        (pss_cons (ps_for PassesOwn.never rfl (pi_enum (by rfl) T.n_enumerate (pa_cons (pv 6) pa_nil)) (pg_tup rfl (pgs_cons (pg_name (i := 8) sc_law_spelled.nd rfl (Or.inl rfl)) (pgs_cons (pg_name (i := 9) sc_law_spelled.nd rfl (Or.inl rfl)) pgs_nil))) (pss_cons (ps_set (i := 10) sc_law_spelled.nd rfl (Or.inl rfl) (pe_cmpR op_eq (pv 8) (pe_op op_sub (pe_callB call_len_seq (by rfl) T.n_len PySem.boot_len (pa_cons (pv 6) pa_nil)) pe_int) (nomark _)))
        (pss_cons (ps_set (i := 11) sc_law_spelled.nd rfl (Or.inl rfl) (pe_cF (ok_law_spelled_item T) (hr.mono (by decide)) T.g__law_spelled_item (pa_cons (pv 0) (pa_cons (pv 1) (pa_cons (pv 2) (pa_cons (pv 9) (pa_cons (pv 10) pa_nil)))))))
        (pss_cons (ps_set (i := 12) sc_law_spelled.nd rfl (Or.inl rfl) (pe_op op_add (pe_op op_add (pe_callB call_len_str (by rfl) T.n_len PySem.boot_len (pa_cons (pv 7) pa_nil)) (pe_callB call_len_str (by rfl) T.n_len PySem.boot_len (pa_cons (pv 11) pa_nil))) (pe_callTy call_int1 (by rfl) T.n_int (by decide +kernel) (pa_cons (pe_or (pe_not (pv 10)) (pe_one (pe_and (pe_cmpR op_eq (pv 11) pe_str (nomark _)) (pe_one (pe_not (pe_ix ix_tup (pv 2) pe_int (fun _ _ => rfl))))))) pa_nil))))
        (pss_cons (ps_if ((pw_or (pt_cmpR op_gt (pv 12) (pv 4) (nomark _)) (pw_or1 ((pw_and (pt_cmpR op_ne (pv 7) pe_str (nomark _)) (pw_and1 (pt_cmpR op_eq (pe_cF (ok_law_take T) (hr.mono (by decide)) T.g__law_take (pa_cons (pv 0) (pa_cons pe_int pa_nil))) pe_int (nomark _))))).pt))).pt (pss_cons (ps_expr (pe_bm PySem.F.plainAttrs_list PySem.F.slot_list_append PySem.F.type_list_append mt_append (pv 5) (pa_cons (pe_op op_add_str (pv 7) pe_str) pa_nil)))
        (pss_one (ps_set (i := 7) sc_law_spelled.nd rfl (Or.inl rfl) pe_str))) pss_nil)
        (pss_one (ps_set (i := 7) sc_law_spelled.nd rfl (Or.inl rfl) (pe_op op_add_str (pv 7) (pv 11)))))))))
        (pss_one (ps_expr (pe_bm PySem.F.plainAttrs_list PySem.F.slot_list_append PySem.F.type_list_append mt_append (pv 5) (pa_cons (pv 7) pa_nil)))))))
        (pss_one (ps_ret (pe_join pe_str (pv 5)))))), ?_⟩
    have hw4 : q.w = 0 ∨ 4 ≤ q.w := hq.1.elim .inl fun h => .inr h.1
    refine tSeq_cut fun N1 h1 => ?_
    have t1 : ∀ (rl : Addr) (H1 : Hp), H rl = none → Same H H1 → H1 rl = some (.lst []) → N1 [some (.ref g), some (.ref cd), some (.ref ru), some (.ref d), some (.int (mostQ q u)), some (.ref rl), none, none, none, none, none, none, none] H1 := by
      intro rl H1 hrl s1 e1
      refine h1 _ _ ?_
      clear h1
      refine tSeq_cut fun N2 h2 => ?_
      have hc1 : TupQ H1 cd q := s1 _ _ hc
      refine ⟨_, rfl, _, rfl, cd, d, q, data, rfl, hc1, s1 _ _ hd, by omega, hb, fun p H2 zs s2 hp0 hz hp2 hzs => ?_⟩
      have hrl2 : H2 rl = some (.lst []) := s2 _ _ e1
      have B2 := (B.same s1).same s2
      have rlg : rl ≠ g := fun e => by
        subst e
        obtain ⟨_, _, _, h, _⟩ := B
        rw [h] at hrl; cases hrl
      have cdg : cd ≠ g := B.ne (SameX.refl _ _) hc (fun _ _ _ e => by cases e)
      have rug : ru ≠ g := B.ne (SameX.refl _ _) hu2 (fun _ _ _ e => by cases e)
      have prl : p ≠ rl := fun e => by subst e; rw [e1] at hp0; cases hp0
      have pg : p ≠ g := fun e => by
        subst e
        obtain ⟨_, _, _, h, _⟩ := B.same s1
        rw [h] at hp0; cases hp0
      have zne : ∀ z ∈ zs, z.1 ≠ g ∧ z.1 ≠ rl := fun z hz => by
        have h0 := (hzs z hz).2
        refine ⟨fun e => ?_, fun e => ?_⟩
        · rw [e] at h0
          obtain ⟨_, _, _, h, _⟩ := B.same s1
          rw [h] at h0; cases h0
        · rw [e, e1] at h0; cases h0
      have rurl : ru ≠ rl := fun e => by subst e; rw [hu2] at hrl; cases hrl
      have hu4 : TupR H2 ru u := s2 _ _ (s1 _ _ hu2)
      have hjl : jl (linesQ q data) = data := lines_jl0 data
      refine ⟨p, rfl, ⟨_, SqL.of hp2⟩, for_list (K := K) (a := p) (xs := zs.map fun z => .ref z.1) (VOut q u H2 g cd ru d rl n (linesQ q data))
        ⟨none, none, none, none, none, none, none, [], rfl, fun b o _ _ e => e, by simpa [pre] using B2, hrl2, .inl ⟨rfl, rfl⟩, by simp [pre]⟩ (fun i σ H' _ ⟨_, _, _, _, _, _, _, _, _, s3, _⟩ => SqL.of (s3 _ _ pg prl hp2)) ?_ ?_⟩
      · rintro i x σ H3 hi ⟨v6, v7, v8, v9, v10, v11, v12, R, rfl, s3, B3, r3, bi, hR⟩
        rw [List.getElem?_map] at hi
        obtain ⟨⟨la, line⟩, hzi, rfl⟩ := Option.map_eq_some_iff.mp hi
        have hL : (linesQ q data)[i]? = some line := by rw [← hz, List.getElem?_map, hzi]; rfl
        have hzm := List.mem_of_getElem? hzi
        have hla := hzs _ hzm
        have hln := zne _ hzm
        have lo1 := line_of hL
        rw [hjl] at lo1
        refine tSeq_cut fun M1 m1 => ?_
        simp [tPar, tPar3, -List.lookup_eq_none_iff, sizeLine_eq, tSl, tPart, tNoPart, rSlS, cut_lo, cut_hi, gc_cons, gn_nil, tJs, tFmt8, S_empty, tTup, tNever, tNext, tM1, tM0, tRet, tRetN, tAndV, tOrV, tNotV, tCall, tMeth, tProp, tVar, tC, tCons, tNil, L2.start, tChain, tTest, rI, rI0, tOp, tUn, tSeq, tIfS, tAnd, tOr, tNot, tB, tIf, tAsg, gName, tDrop, tCB, tFld, rEq, rNe, scal, rIsi_int, rIsi_bl, rIsi_str, rIsi_non, kit_ii, kit_ib, kit_is, kit_bi, kit_bb, kit_bs, kit_si, kit_sb, kit_ss, kit_ni, kit_nb, kit_ns, S_inj, S_app, S_len, S_list, S_one, lit_no, lit_sp, lit_nl, lit_eq, cx_K, ex2, ex3, ex2b, rd_spN, rd_spC, rd_spI, rd_spIII, rd_spS, kNL, kBL, kES, kSB]
        refine m1 _ _ ?_
        clear m1
        refine tSeq_cut fun M2 m2 => ?_
        have hla3 := s3 _ _ hln.1 hln.2 hla.1
        refine ⟨_, rfl, la, _, rfl, SqL.of hla3, for_enum (K := K) (a := la) (xs := line.map vi) (VIn q u H2 g cd ru d rl n (linesQ q data) i la line)
          ⟨v8, v9, v10, v11, v12, R, [], rfl, s3, by simpa using B3, r3, by simpa using BI.start hw4 bi hL (fun h => lines_b h (by simp) (by simp)), by simpa using hR⟩
          (fun k σ H' ⟨_, _, _, _, _, _, _, _, s4, _⟩ => SqL.of (s4 _ _ hln.1 hln.2 hla.1)) ?_ ?_⟩
        · rintro k σ H4 x T hk ⟨w8, w9, w10, w11, w12, R4, row, rfl, s4, B4, r4, ii, hR4⟩ hT
          rw [List.getElem?_map] at hk
          obtain ⟨b, hkb, rfl⟩ := Option.map_eq_some_iff.mp hk
          have hbb := hb b (lo1.2 b (List.mem_of_getElem? hkb))
          have hkl := (List.getElem?_eq_some_iff.mp hkb).1
          refine gTup_at upd_same rfl ?_
          have s5 := s4.same (same_upd hT (o := .tup [vi k, vi b]))
          have B5 := B4.same (same_upd hT (o := .tup [vi k, vi b]))
          have r5 := same_upd hT (o := .tup [vi k, vi b]) _ _ r4
          generalize upd H4 T (.tup [vi k, vi b]) = H5 at s5 B5 r5
          simp only [gc_cons, gn_nil, gName, List.set_cons_succ, List.set_cons_zero]
          refine tSeq_cut fun M3 m3 => ?_
          simp [tPar, tPar3, -List.lookup_eq_none_iff, sizeLine_eq, tSl, tPart, tNoPart, rSlS, cut_lo, cut_hi, gc_cons, gn_nil, tJs, tFmt8, S_empty, tTup, tNever, tNext, tM1, tM0, tRet, tRetN, tAndV, tOrV, tNotV, tCall, tMeth, tProp, tVar, tC, tCons, tNil, L2.start, tChain, tTest, rI, rI0, tOp, tUn, tSeq, tIfS, tAnd, tOr, tNot, tB, tIf, tAsg, gName, tDrop, tCB, tFld, rEq, rNe, scal, rIsi_int, rIsi_bl, rIsi_str, rIsi_non, kit_ii, kit_ib, kit_is, kit_bi, kit_bb, kit_bs, kit_si, kit_sb, kit_ss, kit_ni, kit_nb, kit_ns, S_inj, S_app, S_len, S_list, S_one, lit_no, lit_sp, lit_nl, lit_eq, cx_K, ex2, ex3, ex2b, rd_spN, rd_spC, rd_spI, rd_spIII, rd_spS, kNL, kBL, kES, kSB]
          refine ⟨line.map vi, .inl (SqL.of (s5 _ _ hln.1 hln.2 hla.1)), ?_⟩
          have elast : decide ((k : Int) = (((line.map vi).length : Nat) : Int) - 1) = decide (k + 1 = line.length) := by
            rw [List.length_map, decide_eq_decide]
            omega
          rw [elast]
          refine m3 _ _ ?_
          clear m3 elast
          generalize hlast : decide (k + 1 = line.length) = last
          refine tSeq_cut fun M4 m4 => ?_
          simp [tPar, tPar3, -List.lookup_eq_none_iff, sizeLine_eq, tSl, tPart, tNoPart, rSlS, cut_lo, cut_hi, gc_cons, gn_nil, tJs, tFmt8, S_empty, tTup, tNever, tNext, tM1, tM0, tRet, tRetN, tAndV, tOrV, tNotV, tCall, tMeth, tProp, tVar, tC, tCons, tNil, L2.start, tChain, tTest, rI, rI0, tOp, tUn, tSeq, tIfS, tAnd, tOr, tNot, tB, tIf, tAsg, gName, tDrop, tCB, tFld, rEq, rNe, scal, rIsi_int, rIsi_bl, rIsi_str, rIsi_non, kit_ii, kit_ib, kit_is, kit_bi, kit_bb, kit_bs, kit_si, kit_sb, kit_ss, kit_ni, kit_nb, kit_ns, S_inj, S_app, S_len, S_list, S_one, lit_no, lit_sp, lit_nl, lit_eq, cx_K, ex2, ex3, ex2b, rd_spN, rd_spC, rd_spI, rd_spIII, rd_spS, kNL, kBL, kES, kSB]
          refine ⟨g, cd, ru, b, _, last, u, rfl, s5 _ _ rug rurl hu4, hbb, B5, by simp only [List.length_append, List.length_take] at lo1 ⊢; omega, fun it H6 hit s6 B6 => ?_⟩
          (try simp [tPar, tPar3, -List.lookup_eq_none_iff, sizeLine_eq, tSl, tPart, tNoPart, rSlS, cut_lo, cut_hi, gc_cons, gn_nil, tJs, tFmt8, S_empty, tTup, tNever, tNext, tM1, tM0, tRet, tRetN, tAndV, tOrV, tNotV, tCall, tMeth, tProp, tVar, tC, tCons, tNil, L2.start, tChain, tTest, rI, rI0, tOp, tUn, tSeq, tIfS, tAnd, tOr, tNot, tB, tIf, tAsg, gName, tDrop, tCB, tFld, rEq, rNe, scal, rIsi_int, rIsi_bl, rIsi_str, rIsi_non, kit_ii, kit_ib, kit_is, kit_bi, kit_bb, kit_bs, kit_si, kit_sb, kit_ss, kit_ni, kit_nb, kit_ns, S_inj, S_app, S_len, S_list, S_one, lit_no, lit_sp, lit_nl, lit_eq, cx_K, ex2, ex3, ex2b, rd_spN, rd_spC, rd_spI, rd_spIII, rd_spS, kNL, kBL, kES, kSB])
          refine m4 _ _ ?_
          clear m4
          have s7 := s5.sameX s6
          have r7 := s6 _ _ rlg r5
          rw [decide_eq_true hkl] at ii
          have hd9 : pre ((linesQ q data).take i) ++ line.take (k + 1) = (pre ((linesQ q data).take i) ++ line.take k) ++ [b] := by rw [List.take_add_one, hkb]; simp
          have hmore : decide (k + 1 < line.length) = !last := by
            rw [← hlast]
            by_cases e : k + 1 = line.length
            · rw [decide_eq_true e, decide_eq_false (by omega)]; rfl
            · rw [decide_eq_false e, decide_eq_true (by omega)]; rfl
          have hdl : (pre ((linesQ q data).take i) ++ line.take k).length ≤ 40 := by simp only [List.length_append, List.length_take] at lo1 ⊢; omega
          have hrow : row.length ≤ 1000 := by
            obtain ⟨_, _, _, _, _, _, h6⟩ := ii
            simp only [List.length_append] at h6 hdl; omega
          have hit3 := item_len3 hit
          refine tSeq_cut fun M5 m5 => ?_
          have t5 : M5 [some (.ref g), some (.ref cd), some (.ref ru), some (.ref d), some (.int (mostQ q u)), some (.ref rl), some (.ref la), some (Pt.vs row), some (vi k), some (vi b), some (.bl last), some (Pt.vs it), some (.int ((row.length : Int) + it.length + extra u it last))] H6 := by
            refine m5 _ _ ?_
            clear m5
            refine tSeq_cut fun M6 m6 => ?_
            have fin6 : ∀ (row' : List Nat) (R' : List (List Nat)) (H8 : Hp), row'.length ≤ 1000 → SXX g rl H2 H8 → Bag H8 g (n + 3 * (pre ((linesQ q data).take i) ++ line.take k).length + 3) → H8 rl = some (.lst (R'.map Pt.vs)) →
                II q u R' (row' ++ it) ((pre ((linesQ q data).take i) ++ line.take k) ++ [b]) (!last) → R'.length ≤ 2 * ((pre ((linesQ q data).take i) ++ line.take k).length + 1) →
                M6 [some (.ref g), some (.ref cd), some (.ref ru), some (.ref d), some (.int (mostQ q u)), some (.ref rl), some (.ref la), some (Pt.vs row'), some (vi k), some (vi b), some (.bl last), some (Pt.vs it), some (.int ((row.length : Int) + it.length + extra u it last))] H8 := by
              intro row' R' H8 hr8 s8 B8 r8 i8 l8
              refine m6 _ _ ?_
              clear m6
              simp [tPar, tPar3, -List.lookup_eq_none_iff, sizeLine_eq, tSl, tPart, tNoPart, rSlS, cut_lo, cut_hi, gc_cons, gn_nil, tJs, tFmt8, S_empty, tTup, tNever, tNext, tM1, tM0, tRet, tRetN, tAndV, tOrV, tNotV, tCall, tMeth, tProp, tVar, tC, tCons, tNil, L2.start, tChain, tTest, rI, rI0, tOp, tUn, tSeq, tIfS, tAnd, tOr, tNot, tB, tIf, tAsg, gName, tDrop, tCB, tFld, rEq, rNe, scal, rIsi_int, rIsi_bl, rIsi_str, rIsi_non, kit_ii, kit_ib, kit_is, kit_bi, kit_bb, kit_bs, kit_si, kit_sb, kit_ss, kit_ni, kit_nb, kit_ns, S_inj, S_app, S_len, S_list, S_one, lit_no, lit_sp, lit_nl, lit_eq, cx_K, ex2, ex3, ex2b, rd_spN, rd_spC, rd_spI, rd_spIII, rd_spS, kNL, kBL, kES, kSB]
              refine ⟨by omega, _, _, _, _, _, R', row' ++ it, rfl, s8, ?_, r8, ?_, ?_⟩
              · rw [hd9]
                refine B8.mono ?_
                rw [List.length_append (bs := [b])]
                simp only [List.length_cons, List.length_nil]; omega
              · rw [hd9, hmore]; exact i8
              · rw [hd9, List.length_append (bs := [b])]
                exact l8
            clear m6
            have apd : ∀ H7, SXX g rl H2 H7 → Bag H7 g (n + 3 * (pre ((linesQ q data).take i) ++ line.take k).length + 3) → H7 rl = some (.lst (R4.map Pt.vs)) → tyV K "list" (.ref rl) H7 ∧ rAppend (.ref rl) [Pt.vs (row ++ [61])] H7 fun _ H8 =>
                M6 [some (.ref g), some (.ref cd), some (.ref ru), some (.ref d), some (.int (mostQ q u)), some (.ref rl), some (.ref la), some (Pt.vs []), some (vi k), some (vi b), some (.bl last), some (Pt.vs it), some (.int ((row.length : Int) + it.length + extra u it last))] H8 := by
              intro H7 s7 B7 r7
              refine append_at r7 (by rw [List.length_map]; omega) (fin6 [] (R4 ++ [row ++ [61]]) _ (by simp) s7.upd ?_ (by rw [upd_same]; simp) ?_ (by rw [List.length_append]; simp only [List.length_cons, List.length_nil]; omega))
              · obtain ⟨x, y, z, q1, q2⟩ := B7
                exact ⟨x, y, z, by rw [upd_ne (Ne.symm rlg)]; exact q1, q2⟩
              · exact ii.brk hw4 hit hbb
            simp [tPar, tPar3, -List.lookup_eq_none_iff, sizeLine_eq, tSl, tPart, tNoPart, rSlS, cut_lo, cut_hi, gc_cons, gn_nil, tJs, tFmt8, S_empty, tTup, tNever, tNext, tM1, tM0, tRet, tRetN, tAndV, tOrV, tNotV, tCall, tMeth, tProp, tVar, tC, tCons, tNil, L2.start, tChain, tTest, rI, rI0, tOp, tUn, tSeq, tIfS, tAnd, tOr, tNot, tB, tIf, tAsg, gName, tDrop, tCB, tFld, rEq, rNe, scal, rIsi_int, rIsi_bl, rIsi_str, rIsi_non, kit_ii, kit_ib, kit_is, kit_bi, kit_bb, kit_bs, kit_si, kit_sb, kit_ss, kit_ni, kit_nb, kit_ns, S_inj, S_app, S_len, S_list, S_one, lit_no, lit_sp, lit_nl, lit_eq, cx_K, ex2, ex3, ex2b, rd_spN, rd_spC, rd_spI, rd_spIII, rd_spS, kNL, kBL, kES, kSB, tBM]
            by_cases hm : mostQ q u < (row.length : Int) + it.length + extra u it last
            · rw [if_pos hm]
              have := apd H6 s7 (B6.mono (by omega)) r7
              exact ⟨this.1, by omega, this.2⟩
            · rw [if_neg hm]
              have stay : ∀ H7, SXX g rl H2 H7 → Bag H7 g (n + 3 * (pre ((linesQ q data).take i) ++ line.take k).length + 3) → H7 rl = some (.lst (R4.map Pt.vs)) →
                M6 [some (.ref g), some (.ref cd), some (.ref ru), some (.ref d), some (.int (mostQ q u)), some (.ref rl), some (.ref la), some (Pt.vs row), some (vi k), some (vi b), some (.bl last), some (Pt.vs it), some (.int ((row.length : Int) + it.length + extra u it last))] H7 := fun H7 s7 B7 r7 =>
                fin6 row R4 H7 hrow s7 B7 r7 (ii.item hw4 hit hbb (by omega)) (by omega)
              by_cases hr0 : row = []
              · exact .inl ⟨hr0, stay H6 s7 (B6.mono (by omega)) r7⟩
              · refine .inr ⟨hr0, g, 6, _, rfl, by decide, by decide, B6, by omega, fun r H7 _ _ s8 B7 => ?_⟩
                simp [tPar, tPar3, -List.lookup_eq_none_iff, sizeLine_eq, tSl, tPart, tNoPart, rSlS, cut_lo, cut_hi, gc_cons, gn_nil, tJs, tFmt8, S_empty, tTup, tNever, tNext, tM1, tM0, tRet, tRetN, tAndV, tOrV, tNotV, tCall, tMeth, tProp, tVar, tC, tCons, tNil, L2.start, tChain, tTest, rI, rI0, tOp, tUn, tSeq, tIfS, tAnd, tOr, tNot, tB, tIf, tAsg, gName, tDrop, tCB, tFld, rEq, rNe, scal, rIsi_int, rIsi_bl, rIsi_str, rIsi_non, kit_ii, kit_ib, kit_is, kit_bi, kit_bb, kit_bs, kit_si, kit_sb, kit_ss, kit_ni, kit_nb, kit_ns, S_inj, S_app, S_len, S_list, S_one, lit_no, lit_sp, lit_nl, lit_eq, cx_K, ex2, ex3, ex2b, rd_spN, rd_spC, rd_spI, rd_spIII, rd_spS, kNL, kBL, kES, kSB]
                have r8 := s8 _ _ rlg r7
                have s9 := s7.sameX s8
                split
                · have := apd H7 s9 (B7.mono (by omega)) r8
                  exact ⟨this.1, by omega, this.2⟩
                · exact stay H7 s9 (B7.mono (by omega)) r8
          clear m5
          simp [tPar, tPar3, -List.lookup_eq_none_iff, sizeLine_eq, tSl, tPart, tNoPart, rSlS, cut_lo, cut_hi, gc_cons, gn_nil, tJs, tFmt8, S_empty, tTup, tNever, tNext, tM1, tM0, tRet, tRetN, tAndV, tOrV, tNotV, tCall, tMeth, tProp, tVar, tC, tCons, tNil, L2.start, tChain, tTest, rI, rI0, tOp, tUn, tSeq, tIfS, tAnd, tOr, tNot, tB, tIf, tAsg, gName, tDrop, tCB, tFld, rEq, rNe, scal, rIsi_int, rIsi_bl, rIsi_str, rIsi_non, kit_ii, kit_ib, kit_is, kit_bi, kit_bb, kit_bs, kit_si, kit_sb, kit_ss, kit_ni, kit_nb, kit_ns, S_inj, S_app, S_len, S_list, S_one, lit_no, lit_sp, lit_nl, lit_eq, cx_K, ex2, ex3, ex2b, rd_spN, rd_spC, rd_spI, rd_spIII, rd_spS, kNL, kBL, kES, kSB]
          refine ⟨by omega, by omega, ?_⟩
          have hu6 : TupR H6 ru u := s6 _ _ rug (s5 _ _ rug rurl hu4)
          cases last with
          | false =>
            have e : extra u it false = 1 := by unfold extra; simp
            rw [e] at t5
            exact .inl ⟨rfl, t5⟩
          | true =>
            refine .inr ⟨rfl, ?_⟩
            by_cases hi : it = [32]
            · rw [if_pos hi]
              refine ixT (i := 1) hu6 rfl ?_
              cases hlo : u.loose with
              | false =>
                have e : extra u it true = 1 := by unfold extra; simp [hi, hlo]
                rw [e] at t5
                exact .inl ⟨rfl, t5⟩
              | true =>
                have e : extra u it true = 0 := by unfold extra; simp [hlo]
                rw [e, Int.add_zero] at t5
                exact .inr ⟨rfl, t5⟩
            · rw [if_neg hi]
              have e : extra u it true = 0 := by unfold extra; simp [hi]
              rw [e, Int.add_zero] at t5
              exact t5
        · rintro σ H4 ⟨w8, w9, w10, w11, w12, R4, row, rfl, s4, B4, r4, ii, hR4⟩
          refine m2 _ _ ?_
          clear m2
          simp [tPar, tPar3, -List.lookup_eq_none_iff, sizeLine_eq, tSl, tPart, tNoPart, rSlS, cut_lo, cut_hi, gc_cons, gn_nil, tJs, tFmt8, S_empty, tTup, tNever, tNext, tM1, tM0, tRet, tRetN, tAndV, tOrV, tNotV, tCall, tMeth, tProp, tVar, tC, tCons, tNil, L2.start, tChain, tTest, rI, rI0, tOp, tUn, tSeq, tIfS, tAnd, tOr, tNot, tB, tIf, tAsg, gName, tDrop, tCB, tFld, rEq, rNe, scal, rIsi_int, rIsi_bl, rIsi_str, rIsi_non, kit_ii, kit_ib, kit_is, kit_bi, kit_bb, kit_bs, kit_si, kit_sb, kit_ss, kit_ni, kit_nb, kit_ns, S_inj, S_app, S_len, S_list, S_one, lit_no, lit_sp, lit_nl, lit_eq, cx_K, ex2, ex3, ex2b, rd_spN, rd_spC, rd_spI, rd_spIII, rd_spS, kNL, kBL, kES, kSB, tBM]
          have hlt : line.take line.length = line := List.take_length
          rw [List.length_map] at B4 ii hR4
          rw [hlt] at B4 ii hR4
          have rlen : (R4.map Pt.vs).length < 16777216 := by rw [List.length_map]; omega
          refine append_at r4 rlen ⟨_, _, _, _, _, _, _, R4 ++ [row], rfl, s4.upd, ?_, ?_, ?_, ?_⟩
          · rw [pre_take hL]
            obtain ⟨x, y, z, q1, q2⟩ := B4
            refine Bag.mono ⟨x, y, z, by rw [upd_ne (Ne.symm rlg)]; exact q1, q2⟩ ?_
            rw [List.length_append (bs := [10])]; omega
          · rw [upd_same]; simp
          · have e : decide (line.length < line.length) = false := by simp
            rw [e] at ii
            exact ii.close hL
          · rw [pre_take hL]
            simp only [List.length_append, List.length_cons, List.length_nil] at hR4 ⊢; omega
      · rintro σ H3 ⟨v6, v7, v8, v9, v10, v11, v12, R, rfl, s3, B3, r3, bi, hR⟩
        refine h2 _ _ ?_
        clear h2
        simp [tPar, tPar3, -List.lookup_eq_none_iff, sizeLine_eq, tSl, tPart, tNoPart, rSlS, cut_lo, cut_hi, gc_cons, gn_nil, tJs, tFmt8, S_empty, tTup, tNever, tNext, tM1, tM0, tRet, tRetN, tAndV, tOrV, tNotV, tCall, tMeth, tProp, tVar, tC, tCons, tNil, L2.start, tChain, tTest, rI, rI0, tOp, tUn, tSeq, tIfS, tAnd, tOr, tNot, tB, tIf, tAsg, gName, tDrop, tCB, tFld, rEq, rNe, scal, rIsi_int, rIsi_bl, rIsi_str, rIsi_non, kit_ii, kit_ib, kit_is, kit_bi, kit_bb, kit_bs, kit_si, kit_sb, kit_ss, kit_ni, kit_nb, kit_ns, S_inj, S_app, S_len, S_list, S_one, lit_no, lit_sp, lit_nl, lit_eq, cx_K, ex2, ex3, ex2b, rd_spN, rd_spC, rd_spI, rd_spIII, rd_spS, kNL, kBL, kES, kSB]
        have ez : (zs.map fun (z : Addr × List Nat) => V.ref z.1).length = (linesQ q data).length := by rw [List.length_map, ← hz, List.length_map]
        rw [ez] at bi B3
        have hne : linesQ q data ≠ [] := lines_ne (by simp)
        obtain ⟨R', row, rfl, e1, e2⟩ := bi.done hne (by rw [hjl]; omega)
        rw [hjl] at e1
        have hpl : (pre ((linesQ q data).take (linesQ q data).length)).length ≤ data.length + 1 := by
          rw [List.take_length]
          obtain ⟨A, x, hA⟩ : ∃ A x, linesQ q data = A ++ [x] := ⟨_, _, (List.dropLast_concat_getLast hne).symm⟩
          have := congrArg List.length hjl
          rw [hA, jl_snoc] at this
          rw [hA, pre_app, pre_one]
          simp only [List.length_append, List.length_cons, List.length_nil] at this ⊢; omega
        have hsum := sum_len (R' ++ [row])
        refine ⟨(R' ++ [row]).map S, .inl (SqL.of (by rw [r3, List.map_map]; rfl)), ?_, ?_⟩
        · have := e2.1
          rw [List.length_map]
          rw [pre_app, pre_one] at hsum
          simp only [List.length_append, List.length_cons, List.length_nil] at this hsum ⊢; omega
        · rw [join_nl]
          refine k _ H3 e2 e1 (fun b o hbg e => ?_) (B3.mono (by omega))
          have hb2 : b ≠ rl := fun z => by subst z; rw [hrl] at e; cases e
          exact s3 b o hbg hb2 (s2 _ _ (s1 _ _ e))
    clear h1
    simp [tPar, tPar3, -List.lookup_eq_none_iff, sizeLine_eq, tSl, tPart, tNoPart, rSlS, cut_lo, cut_hi, gc_cons, gn_nil, tJs, tFmt8, S_empty, tTup, tNever, tNext, tM1, tM0, tRet, tRetN, tAndV, tOrV, tNotV, tCall, tMeth, tProp, tVar, tC, tCons, tNil, L2.start, tChain, tTest, rI, rI0, tOp, tUn, tSeq, tIfS, tAnd, tOr, tNot, tB, tIf, tAsg, gName, tDrop, tCB, tFld, rEq, rNe, scal, rIsi_int, rIsi_bl, rIsi_str, rIsi_non, kit_ii, kit_ib, kit_is, kit_bi, kit_bb, kit_bs, kit_si, kit_sb, kit_ss, kit_ni, kit_nb, kit_ns, S_inj, S_app, S_len, S_list, S_one, lit_no, lit_sp, lit_nl, lit_eq, cx_K, ex2, ex3, ex2b, rd_spN, rd_spC, rd_spI, rd_spIII, rd_spS, kNL, kBL, kES, kSB, tLst]
    refine ixT (i := 0) hu2 rfl ?_
    have fin : ∀ m, m = mostQ q u → ∀ p, H p = none → N1 [some (.ref g), some (.ref cd), some (.ref ru), some (.ref d), some (.int m), some (.ref p), none, none, none, none, none, none, none] (upd H p (.lst [])) := fun m e p hp => by
      subst e
      exact t1 p _ hp (same_upd hp) upd_same
    cases hli : u.lines with
    | false => exact .inl ⟨rfl, fin 9 (by unfold mostQ; simp [hli])⟩
    | true =>
      refine .inr ⟨rfl, ixT (i := 0) hc rfl ⟨q.w, rfl, ?_⟩⟩
      split
      · rename_i hw
        exact ixT (i := 0) hc rfl (fin q.w (by unfold mostQ; simp [hli, hw]))
      · rename_i hw
        exact fin 9 (by unfold mostQ; simp [hli, hw])
end
end K45
end
section
namespace K45
open PySem PySem.Spec PyProof.Rows L2 Pt
/-! ### equal lists of bytes -/
theorem dp_ints {K : Fg} {H : Hp} : ∀ l : List Nat, DpAll K H (l.map vi) ((l.map fun n : Nat => (n : Int)).map PyData.int)
  | [] => .nil
  | n :: r => .cons (.int _) (dp_ints r)
theorem ne_ints {K : Fg} {H : Hp} {a b : Addr} {Q : VK} {l : List Nat} (h1 : H a = some (.lst (l.map vi))) (h2 : H b = some (.lst (l.map vi))) (k : Q (.bl false) H) : rNeD K (.ref a) (.ref b) H Q := by
  have hs := PySem.W.ke_shaped_ints (l.map fun n : Nat => (n : Int))
  refine ⟨.list ((l.map fun n : Nat => (n : Int)).map PyData.int), _, .lst (SqL.of h1) (dp_ints l), .lst (SqL.of h2) (dp_ints l), hs, hs, ?_⟩
  rw [SeqAt.eqv_refl _ (SeqAt.canLay_of_shaped hs)]
  exact k
/-! ### what stands stands while draws are made -/
section
variable {K : Fg} {H H' : Hp} {g : Addr} {n : Nat}
theorem Bag.keep (B : Bag H g n) (s : SameX g H H') {b : Addr} {o : HO} (h : H b = some o) (h2 : ∀ x y z, o ≠ .lst [.int x, .int y, .int z]) : H' b = some o := s _ _ (B.ne (SameX.refl _ _) h h2) h
theorem Qo.draw {c : Addr} {q : QC} (h : Qo K H c q) (B : Bag H g n) (s : SameX g H H') : Qo K H' c q := by
  obtain ⟨dx, fs, t, kl, h1, h2, h3, h4, h5, h6⟩ := h
  refine ⟨dx, fs, t, kl, B.keep s h1 (fun _ _ _ e => by cases e), h2, B.keep s h3 (fun _ _ _ e => by cases e), h4, h5, B.keep s h6 (fun x y z e => ?_)⟩
  have := congrArg (fun o => match o with | HO.lst l => l.length | _ => 0) e
  simp [items] at this
theorem Ro.draw {c : Addr} {u : RC} (h : Ro K H c u) (B : Bag H g n) (s : SameX g H H') : Ro K H' c u := by
  obtain ⟨dx, fs, d, kvs, h1, h2, h3, h4, h5⟩ := h
  exact ⟨dx, fs, d, kvs, B.keep s h1 (fun _ _ _ e => by cases e), h2, h3, B.keep s h4 (fun _ _ _ e => by cases e), h5⟩
theorem TupQ.draw {c : Addr} {q : QC} (h : TupQ H c q) (B : Bag H g n) (s : SameX g H H') : TupQ H' c q := B.keep s h (fun _ _ _ e => by cases e)
theorem TupR.draw {c : Addr} {u : RC} (h : TupR H c u) (B : Bag H g n) (s : SameX g H H') : TupR H' c u := B.keep s h (fun _ _ _ e => by cases e)
end
section
variable {P : Program} {w : World} {K : Fg} {mg : Str → Option Value} {base : Heap}
def OI (H : Hp) (sa : Addr) (i : Nat) (σ : L2.St) (H' : Hp) : Prop := ∃ v1 v2 v3 v4 v5 v6 v7 v8 v9 v10 v11, σ = [some (.ref sa), v1, v2, v3, v4, v5, v6, v7, v8, v9, v10, v11] ∧ Same H H'
/-- one code and its rules stand, draws may be made -/
structure Env1 (K : Fg) (H H' : Hp) (g cd ru c r : Addr) (q : QC) (u : RC) (n : Nat) : Prop where
  same : Same H H'
  bag : Bag H' g n
  tq : TupQ H' cd q
  tr : TupR H' ru u
  code : Qo K H' c q
  rules : Ro K H' r u
theorem Env1.step {H H1 H2 : Hp} {g cd ru c r : Addr} {q : QC} {u : RC} {n : Nat} (h : Env1 K H H1 g cd ru c r q u n) (s : Same H1 H2) : Env1 K H H2 g cd ru c r q u n :=
  ⟨h.same.trans s, h.bag.same s, s _ _ h.tq, s _ _ h.tr, h.code.same s, h.rules.same s⟩
theorem Env1.draw {H H1 H2 : Hp} {g cd ru c r : Addr} {q : QC} {u : RC} {n n' : Nat} (hg : H g = none) (h : Env1 K H H1 g cd ru c r q u n) (s : SameX g H1 H2) (B : Bag H2 g n') : Env1 K H H2 g cd ru c r q u n' :=
  ⟨fun b o e => s _ _ (ne_of_none e hg) (h.same _ _ e), B, h.tq.draw h.bag s, h.tr.draw h.bag s, h.code.draw h.bag s, h.rules.draw h.bag s⟩
def TI (K : Fg) (H : Hp) (sa : Addr) (i : Nat) (g cd ru c r : Addr) (q : QC) (u : RC) (t : Nat) (σ : L2.St) (H' : Hp) : Prop := ∃ v7 v8 v9 v10 v11, σ = [some (.ref sa), some (vi i), some (.ref g), some (.ref cd), some (.ref ru), some (.ref c), some (.ref r), v7, v8, v9, v10, v11] ∧ Env1 K H H' g cd ru c r q u (10 + 433 * t)
def MI (K : Fg) (H : Hp) (sa : Addr) (i : Nat) (g cd ru c r : Addr) (q : QC) (u : RC) (t : Nat) (d : Addr) (data : List Nat) (m : Nat) (σ : L2.St) (H' : Hp) : Prop := ∃ v10 v11, σ = [some (.ref sa), some (vi i), some (.ref g), some (.ref cd), some (.ref ru), some (.ref c), some (.ref r), some (vi t), some (.ref d), some (Pt.vs (wholeQ q data)), v10, v11] ∧ Env1 K H H' g cd ru c r q u (10 + 433 * t + 43 + 130 * m) ∧
  H' d = some (.lst (data.map vi)) ∧ d ≠ g ∧ (0 < m → ∃ text, v11 = some (Pt.vs text) ∧ TextOk text ∧ readQ q u text = some data)
def spLaw (K : Fg) : Sp := fun us H Q _ => ∃ (s : Addr) (ns : List Int), us = [.ref s] ∧ SqL K H s (ns.map V.int) ∧ ns.length ≤ 63 ∧ ∀ H', Q (.bl true) H'
theorem sc_law : FnScope ["_law_script", "_law_at", "_law_bag_here", "_law_code", "_law_rules_here", "_law_real", "_law_own", "_law_turn", "_law_data", "_law_text", "_law_more", "_law_spelled_here"] ["_law_script"] (defScope s_law) := ⟨rfl, rfl, rfl, by decide +kernel, rfl, by decide +kernel, by decide +kernel⟩
theorem law_fn (T : Tx K mg) {z : FuncData} (F : d_law.Is K z) : FnOk P w K mg base CX0 10 (d_law.adr K) z ["_law_script"] (spLaw K) := by
  refine fnk F sc_law (fun vs H Q E h => ?_) (fun cdv A outer s H vs Q E hr h => ?_)
  · obtain ⟨s, ns, rfl, _⟩ := h; rfl
  · obtain ⟨sa, ns, rfl, hs, hl, k⟩ := h
    have hu := hu_of hr
    refine ⟨_, (pss_cons (ps_for PassesOwn.never rfl (pi_range1 rfl T.n_range (pa_cons (pe_callB (call_max2 rfl) (by rfl) T.n_max (by decide +kernel) (pa_cons pe_int (pa_cons (pe_callB (call_min2 rfl) (by rfl) T.n_min (by decide +kernel) (pa_cons pe_int (pa_cons (pe_callB call_len_seq (by rfl) T.n_len PySem.boot_len (pa_cons (pv 0) pa_nil)) pa_nil))) pa_nil))) pa_nil)) (pg_name (i := 1) sc_law.nd rfl (Or.inl rfl)) (pss_cons (ps_set (i := 2) sc_law.nd rfl (Or.inl rfl) (pe_cF (ok_law_bag T) (hr.mono (by decide)) T.g__law_bag (pa_cons (pv 0) (pa_cons (pv 1) pa_nil))))
        (pss_cons (ps_par (i := 3) (j := 4) rfl sc_law.nd rfl rfl (by decide) rfl rfl (pa_cons (pe_cF (ok_law_quoted T) (hr.mono (by decide)) T.g__law_quoted (pa_cons (pv 2) pa_nil)) (pa_cons (pe_cF (ok_law_rules T) (hr.mono (by decide)) T.g__law_rules (pa_cons (pv 2) pa_nil)) pa_nil)) (by rfl))
        (pss_cons (ps_par (i := 5) (j := 6) rfl sc_law.nd rfl rfl (by decide) rfl rfl (pa_cons (pe_cF (ok_law_quoting T) (hr.mono (by decide)) T.g__law_quoting (pa_cons (pv 3) pa_nil)) (pa_cons (pe_cF (ok_law_ruling T) (hr.mono (by decide)) T.g__law_ruling (pa_cons (pv 2) (pa_cons (pv 4) pa_nil))) pa_nil)) (by rfl))
        (pss_one (ps_for PassesOwn.never rfl (pi_range1 rfl T.n_range (pa_cons pe_int pa_nil)) (pg_name (i := 7) sc_law.nd rfl (Or.inl rfl)) (pss_cons (ps_set (i := 8) sc_law.nd rfl (Or.inl rfl) (pe_cF (ok_law_bytes T) (hr.mono (by decide)) T.g__law_bytes (pa_cons (pv 2) (pa_cons pe_int pa_nil))))
        (pss_cons (ps_set (i := 9) sc_law.nd rfl (Or.inl rfl) (pe_cF (ok_text_of T) (hr.mono (by decide)) T.g_text_of (pa_cons (pv 5) (pa_cons (pv 8) pa_nil))))
        (pss_cons (ps_if ((pw_or (pt_cmpR (op_neD hr.units) (pe_cF (ok_read_text_3 T) (hr.mono (by decide)) T.g_read_text (pa_cons (pv 5) (pa_cons (pv 9) (pa_cons (pv 6) pa_nil)))) (pv 8) (nomark _)) (pw_or1 (pt_cmpR (op_neD hr.units) (pe_cF (ok_read_text_2 T) (hr.mono (by decide)) T.g_read_text (pa_cons (pv 5) (pa_cons (pv 9) pa_nil))) (pv 8) (nomark _))))).pt (pss_one (ps_ret pe_bl)) pss_nil)
        (pss_cons (ps_for PassesOwn.never rfl (pi_range1 rfl T.n_range (pa_cons pe_int pa_nil)) (pg_name (i := 10) sc_law.nd rfl (Or.inl rfl)) (pss_cons (ps_set (i := 11) sc_law.nd rfl (Or.inl rfl) (pe_cF (ok_law_spelled T) (hr.mono (by decide)) T.g__law_spelled (pa_cons (pv 2) (pa_cons (pv 3) (pa_cons (pv 4) (pa_cons (pv 8) pa_nil))))))
        (pss_one (ps_if ((pw_or (pt_cmpR op_notBl (pe_cF (ok_is_right_3 T) (hr.mono (by decide)) T.g_is_right (pa_cons (pv 5) (pa_cons (pv 11) (pa_cons (pv 6) pa_nil)))) pe_bl (nomark _)) (pw_or1 (pt_cmpR (op_neD hr.units) (pe_cF (ok_read_text_3 T) (hr.mono (by decide)) T.g_read_text (pa_cons (pv 5) (pa_cons (pv 11) (pa_cons (pv 6) pa_nil)))) (pv 8) (nomark _))))).pt (pss_one (ps_ret pe_bl)) pss_nil))))
        (pss_one (ps_if (pt_cmpR op_ne (pe_cF (ok_text_of T) (hr.mono (by decide)) T.g_text_of (pa_cons (pv 5) (pa_cons (pe_cF (ok_read_text_3 T) (hr.mono (by decide)) T.g_read_text (pa_cons (pv 5) (pa_cons (pv 11) (pa_cons (pv 6) pa_nil)))) pa_nil))) (pv 9) (nomark _)) (pss_one (ps_ret pe_bl)) pss_nil))))))))))))
        (pss_one (ps_ret pe_bl))), ?_⟩
    refine tSeq_cut fun N1 h1 => ?_
    have hmm : ∀ L : Nat, 1 ≤ (if (if (L : Int) < 6 then (L : Int) else 6) > 1 then (if (L : Int) < 6 then (L : Int) else 6) else 1) ∧ (if (if (L : Int) < 6 then (L : Int) else 6) > 1 then (if (L : Int) < 6 then (L : Int) else 6) else 1) ≤ 6 := by
      intro L
      split <;> split <;> omega
    refine ⟨_, rfl, sa, _, rfl, .inl hs, 6, _, rfl, 1, _, rfl, _, rfl, ?_, ?_, ?_⟩
    · have := (hmm (ns.map V.int).length).1; omega
    · have := (hmm (ns.map V.int).length).2; omega
    have hm2 := (hmm (ns.map V.int).length).2
    generalize (if (if (((ns.map V.int).length : Nat) : Int) < 6 then (((ns.map V.int).length : Nat) : Int) else 6) > 1 then (if (((ns.map V.int).length : Nat) : Int) < 6 then (((ns.map V.int).length : Nat) : Int) else 6) else 1) = mm at hm2
    refine for_range (OI H sa) ⟨none, none, none, none, none, none, none, none, none, none, none, rfl, Same.refl H⟩ ?_ ?_
    · rintro i σ H1 hi ⟨v1, v2, v3, v4, v5, v6, v7, v8, v9, v10, v11, rfl, s1⟩
      rw [Int.zero_add]
      refine tSeq_cut fun M1 m1 => ?_
      simp [tPar, tPar3, -List.lookup_eq_none_iff, sizeLine_eq, tSl, tPart, tNoPart, rSlS, cut_lo, cut_hi, gc_cons, gn_nil, tJs, tFmt8, S_empty, tTup, tNever, tNext, tM1, tM0, tRet, tRetN, tAndV, tOrV, tNotV, tCall, tMeth, tProp, tVar, tC, tCons, tNil, L2.start, tChain, tTest, rI, rI0, tOp, tUn, tSeq, tIfS, tAnd, tOr, tNot, tB, tIf, tAsg, gName, tDrop, tCB, tFld, rEq, rNe, scal, rIsi_int, rIsi_bl, rIsi_str, rIsi_non, kit_ii, kit_ib, kit_is, kit_bi, kit_bb, kit_bs, kit_si, kit_sb, kit_ss, kit_ni, kit_nb, kit_ns, S_inj, S_app, S_len, S_list, S_one, lit_no, lit_sp, lit_nl, lit_eq, cx_K, ex2, ex3, ex2b, rd_spN, rd_spC, rd_spI, rd_spIII, rd_spS, kNL, kBL, kES, kSB]
      refine ⟨sa, ns, i, rfl, s1.seq hs, by omega, by omega, fun g H2 s2 hg B => ?_⟩
      have hgH : H g = none := by
        cases e : H g with
        | none => rfl
        | some o => rw [s1 _ _ e] at hg; cases hg
      (try simp [tPar, tPar3, -List.lookup_eq_none_iff, sizeLine_eq, tSl, tPart, tNoPart, rSlS, cut_lo, cut_hi, gc_cons, gn_nil, tJs, tFmt8, S_empty, tTup, tNever, tNext, tM1, tM0, tRet, tRetN, tAndV, tOrV, tNotV, tCall, tMeth, tProp, tVar, tC, tCons, tNil, L2.start, tChain, tTest, rI, rI0, tOp, tUn, tSeq, tIfS, tAnd, tOr, tNot, tB, tIf, tAsg, gName, tDrop, tCB, tFld, rEq, rNe, scal, rIsi_int, rIsi_bl, rIsi_str, rIsi_non, kit_ii, kit_ib, kit_is, kit_bi, kit_bb, kit_bs, kit_si, kit_sb, kit_ss, kit_ni, kit_nb, kit_ns, S_inj, S_app, S_len, S_list, S_one, lit_no, lit_sp, lit_nl, lit_eq, cx_K, ex2, ex3, ex2b, rd_spN, rd_spC, rd_spI, rd_spIII, rd_spS, kNL, kBL, kES, kSB])
      refine m1 _ _ ?_
      clear m1
      refine tSeq_cut fun M2 m2 => ?_
      simp [tPar, tPar3, -List.lookup_eq_none_iff, sizeLine_eq, tSl, tPart, tNoPart, rSlS, cut_lo, cut_hi, gc_cons, gn_nil, tJs, tFmt8, S_empty, tTup, tNever, tNext, tM1, tM0, tRet, tRetN, tAndV, tOrV, tNotV, tCall, tMeth, tProp, tVar, tC, tCons, tNil, L2.start, tChain, tTest, rI, rI0, tOp, tUn, tSeq, tIfS, tAnd, tOr, tNot, tB, tIf, tAsg, gName, tDrop, tCB, tFld, rEq, rNe, scal, rIsi_int, rIsi_bl, rIsi_str, rIsi_non, kit_ii, kit_ib, kit_is, kit_bi, kit_bb, kit_bs, kit_si, kit_sb, kit_ss, kit_ni, kit_nb, kit_ns, S_inj, S_app, S_len, S_list, S_one, lit_no, lit_sp, lit_nl, lit_eq, cx_K, ex2, ex3, ex2b, rd_spN, rd_spC, rd_spI, rd_spIII, rd_spS, kNL, kBL, kES, kSB]
      refine ⟨g, 0, rfl, B, by omega, fun q cd H3 hq s3 B3 hc => ?_⟩
      (try simp [tPar, tPar3, -List.lookup_eq_none_iff, sizeLine_eq, tSl, tPart, tNoPart, rSlS, cut_lo, cut_hi, gc_cons, gn_nil, tJs, tFmt8, S_empty, tTup, tNever, tNext, tM1, tM0, tRet, tRetN, tAndV, tOrV, tNotV, tCall, tMeth, tProp, tVar, tC, tCons, tNil, L2.start, tChain, tTest, rI, rI0, tOp, tUn, tSeq, tIfS, tAnd, tOr, tNot, tB, tIf, tAsg, gName, tDrop, tCB, tFld, rEq, rNe, scal, rIsi_int, rIsi_bl, rIsi_str, rIsi_non, kit_ii, kit_ib, kit_is, kit_bi, kit_bb, kit_bs, kit_si, kit_sb, kit_ss, kit_ni, kit_nb, kit_ns, S_inj, S_app, S_len, S_list, S_one, lit_no, lit_sp, lit_nl, lit_eq, cx_K, ex2, ex3, ex2b, rd_spN, rd_spC, rd_spI, rd_spIII, rd_spS, kNL, kBL, kES, kSB])
      refine ⟨6, B3, by omega, fun u ru H4 s4 B4 hu4 => ?_⟩
      (try simp [tPar, tPar3, -List.lookup_eq_none_iff, sizeLine_eq, tSl, tPart, tNoPart, rSlS, cut_lo, cut_hi, gc_cons, gn_nil, tJs, tFmt8, S_empty, tTup, tNever, tNext, tM1, tM0, tRet, tRetN, tAndV, tOrV, tNotV, tCall, tMeth, tProp, tVar, tC, tCons, tNil, L2.start, tChain, tTest, rI, rI0, tOp, tUn, tSeq, tIfS, tAnd, tOr, tNot, tB, tIf, tAsg, gName, tDrop, tCB, tFld, rEq, rNe, scal, rIsi_int, rIsi_bl, rIsi_str, rIsi_non, kit_ii, kit_ib, kit_is, kit_bi, kit_bb, kit_bs, kit_si, kit_sb, kit_ss, kit_ni, kit_nb, kit_ns, S_inj, S_app, S_len, S_list, S_one, lit_no, lit_sp, lit_nl, lit_eq, cx_K, ex2, ex3, ex2b, rd_spN, rd_spC, rd_spI, rd_spIII, rd_spS, kNL, kBL, kES, kSB])
      refine m2 _ _ ?_
      clear m2
      have hc4 : TupQ H4 cd q := TupQ.draw (g := g) hc B3 s4
      refine tSeq_cut fun M3 m3 => ?_
      simp [tPar, tPar3, -List.lookup_eq_none_iff, sizeLine_eq, tSl, tPart, tNoPart, rSlS, cut_lo, cut_hi, gc_cons, gn_nil, tJs, tFmt8, S_empty, tTup, tNever, tNext, tM1, tM0, tRet, tRetN, tAndV, tOrV, tNotV, tCall, tMeth, tProp, tVar, tC, tCons, tNil, L2.start, tChain, tTest, rI, rI0, tOp, tUn, tSeq, tIfS, tAnd, tOr, tNot, tB, tIf, tAsg, gName, tDrop, tCB, tFld, rEq, rNe, scal, rIsi_int, rIsi_bl, rIsi_str, rIsi_non, kit_ii, kit_ib, kit_is, kit_bi, kit_bb, kit_bs, kit_si, kit_sb, kit_ss, kit_ni, kit_nb, kit_ns, S_inj, S_app, S_len, S_list, S_one, lit_no, lit_sp, lit_nl, lit_eq, cx_K, ex2, ex3, ex2b, rd_spN, rd_spC, rd_spI, rd_spIII, rd_spS, kNL, kBL, kES, kSB]
      refine ⟨q, hc4, hq, fun c H5 s5 W5 => ?_⟩
      (try simp [tPar, tPar3, -List.lookup_eq_none_iff, sizeLine_eq, tSl, tPart, tNoPart, rSlS, cut_lo, cut_hi, gc_cons, gn_nil, tJs, tFmt8, S_empty, tTup, tNever, tNext, tM1, tM0, tRet, tRetN, tAndV, tOrV, tNotV, tCall, tMeth, tProp, tVar, tC, tCons, tNil, L2.start, tChain, tTest, rI, rI0, tOp, tUn, tSeq, tIfS, tAnd, tOr, tNot, tB, tIf, tAsg, gName, tDrop, tCB, tFld, rEq, rNe, scal, rIsi_int, rIsi_bl, rIsi_str, rIsi_non, kit_ii, kit_ib, kit_is, kit_bi, kit_bb, kit_bs, kit_si, kit_sb, kit_ss, kit_ni, kit_nb, kit_ns, S_inj, S_app, S_len, S_list, S_one, lit_no, lit_sp, lit_nl, lit_eq, cx_K, ex2, ex3, ex2b, rd_spN, rd_spC, rd_spI, rd_spIII, rd_spS, kNL, kBL, kES, kSB])
      refine ⟨9, u, s5 _ _ hu4, B4.same s5, by omega, fun r H6 s6 B6 R6 => ?_⟩
      (try simp [tPar, tPar3, -List.lookup_eq_none_iff, sizeLine_eq, tSl, tPart, tNoPart, rSlS, cut_lo, cut_hi, gc_cons, gn_nil, tJs, tFmt8, S_empty, tTup, tNever, tNext, tM1, tM0, tRet, tRetN, tAndV, tOrV, tNotV, tCall, tMeth, tProp, tVar, tC, tCons, tNil, L2.start, tChain, tTest, rI, rI0, tOp, tUn, tSeq, tIfS, tAnd, tOr, tNot, tB, tIf, tAsg, gName, tDrop, tCB, tFld, rEq, rNe, scal, rIsi_int, rIsi_bl, rIsi_str, rIsi_non, kit_ii, kit_ib, kit_is, kit_bi, kit_bb, kit_bs, kit_si, kit_sb, kit_ss, kit_ni, kit_nb, kit_ns, S_inj, S_app, S_len, S_list, S_one, lit_no, lit_sp, lit_nl, lit_eq, cx_K, ex2, ex3, ex2b, rd_spN, rd_spC, rd_spI, rd_spIII, rd_spS, kNL, kBL, kES, kSB])
      refine m3 _ _ ?_
      clear m3
      have E6 : Env1 K H H6 g cd ru c r q u (10 + 433 * 0) := by
        have B5 := B4.same s5
        refine ⟨fun b o e => ?_, B6, TupQ.draw (g := g) (s5 _ _ hc4) B5 s6, TupR.draw (g := g) (s5 _ _ hu4) B5 s6, W5.draw B5 s6, R6⟩
        have hbg := ne_of_none e hgH
        exact s6 _ _ hbg (s5 _ _ (s4 _ _ hbg (s3 _ _ hbg (s2 _ _ (s1 _ _ e)))))
      refine ⟨8, rfl, by decide, by decide, for_range (n := 8) (TI K H sa i g cd ru c r q u) ⟨_, _, _, _, _, rfl, E6⟩ ?_ ?_⟩
      · rintro t σ H7 ht ⟨v7, v8, v9, v10, v11, rfl, E7⟩
        rw [Int.zero_add]
        refine tSeq_cut fun G1 l1 => ?_
        simp [tPar, tPar3, -List.lookup_eq_none_iff, sizeLine_eq, tSl, tPart, tNoPart, rSlS, cut_lo, cut_hi, gc_cons, gn_nil, tJs, tFmt8, S_empty, tTup, tNever, tNext, tM1, tM0, tRet, tRetN, tAndV, tOrV, tNotV, tCall, tMeth, tProp, tVar, tC, tCons, tNil, L2.start, tChain, tTest, rI, rI0, tOp, tUn, tSeq, tIfS, tAnd, tOr, tNot, tB, tIf, tAsg, gName, tDrop, tCB, tFld, rEq, rNe, scal, rIsi_int, rIsi_bl, rIsi_str, rIsi_non, kit_ii, kit_ib, kit_is, kit_bi, kit_bb, kit_bs, kit_si, kit_sb, kit_ss, kit_ni, kit_nb, kit_ns, S_inj, S_app, S_len, S_list, S_one, lit_no, lit_sp, lit_nl, lit_eq, cx_K, ex2, ex3, ex2b, rd_spN, rd_spC, rd_spI, rd_spIII, rd_spS, kNL, kBL, kES, kSB]
        refine ⟨g, _, rfl, E7.bag, by omega, fun data d H8 hdl hdb s8 B8 hd hdg => ?_⟩
        have E8 := E7.draw hgH s8 B8
        (try simp [tPar, tPar3, -List.lookup_eq_none_iff, sizeLine_eq, tSl, tPart, tNoPart, rSlS, cut_lo, cut_hi, gc_cons, gn_nil, tJs, tFmt8, S_empty, tTup, tNever, tNext, tM1, tM0, tRet, tRetN, tAndV, tOrV, tNotV, tCall, tMeth, tProp, tVar, tC, tCons, tNil, L2.start, tChain, tTest, rI, rI0, tOp, tUn, tSeq, tIfS, tAnd, tOr, tNot, tB, tIf, tAsg, gName, tDrop, tCB, tFld, rEq, rNe, scal, rIsi_int, rIsi_bl, rIsi_str, rIsi_non, kit_ii, kit_ib, kit_is, kit_bi, kit_bb, kit_bs, kit_si, kit_sb, kit_ss, kit_ni, kit_nb, kit_ns, S_inj, S_app, S_len, S_list, S_one, lit_no, lit_sp, lit_nl, lit_eq, cx_K, ex2, ex3, ex2b, rd_spN, rd_spC, rd_spI, rd_spIII, rd_spS, kNL, kBL, kES, kSB])
        refine l1 _ _ ?_
        clear l1
        refine tSeq_cut fun G2 l2 => ?_
        simp [tPar, tPar3, -List.lookup_eq_none_iff, sizeLine_eq, tSl, tPart, tNoPart, rSlS, cut_lo, cut_hi, gc_cons, gn_nil, tJs, tFmt8, S_empty, tTup, tNever, tNext, tM1, tM0, tRet, tRetN, tAndV, tOrV, tNotV, tCall, tMeth, tProp, tVar, tC, tCons, tNil, L2.start, tChain, tTest, rI, rI0, tOp, tUn, tSeq, tIfS, tAnd, tOr, tNot, tB, tIf, tAsg, gName, tDrop, tCB, tFld, rEq, rNe, scal, rIsi_int, rIsi_bl, rIsi_str, rIsi_non, kit_ii, kit_ib, kit_is, kit_bi, kit_bb, kit_bs, kit_si, kit_sb, kit_ss, kit_ni, kit_nb, kit_ns, S_inj, S_app, S_len, S_list, S_one, lit_no, lit_sp, lit_nl, lit_eq, cx_K, ex2, ex3, ex2b, rd_spN, rd_spC, rd_spI, rd_spIII, rd_spS, kNL, kBL, kES, kSB]
        refine ⟨c, q, d, data, rfl, E8.code, hd, by omega, hdb, fun H9 s9 => ?_⟩
        have E9 := E8.step s9
        have hd9 := s9 _ _ hd
        (try simp [tPar, tPar3, -List.lookup_eq_none_iff, sizeLine_eq, tSl, tPart, tNoPart, rSlS, cut_lo, cut_hi, gc_cons, gn_nil, tJs, tFmt8, S_empty, tTup, tNever, tNext, tM1, tM0, tRet, tRetN, tAndV, tOrV, tNotV, tCall, tMeth, tProp, tVar, tC, tCons, tNil, L2.start, tChain, tTest, rI, rI0, tOp, tUn, tSeq, tIfS, tAnd, tOr, tNot, tB, tIf, tAsg, gName, tDrop, tCB, tFld, rEq, rNe, scal, rIsi_int, rIsi_bl, rIsi_str, rIsi_non, kit_ii, kit_ib, kit_is, kit_bi, kit_bb, kit_bs, kit_si, kit_sb, kit_ss, kit_ni, kit_nb, kit_ns, S_inj, S_app, S_len, S_list, S_one, lit_no, lit_sp, lit_nl, lit_eq, cx_K, ex2, ex3, ex2b, rd_spN, rd_spC, rd_spI, rd_spIII, rd_spS, kNL, kBL, kES, kSB])
        refine l2 _ _ ?_
        clear l2
        refine tSeq_cut fun G3 l3 => ?_
        have hw4 : q.w = 0 ∨ 4 ≤ q.w := hq.1.elim .inl fun h => .inr h.1
        have okT : TextOk (wholeQ q data) := whole_ok hdb (by omega)
        simp [tPar, tPar3, -List.lookup_eq_none_iff, sizeLine_eq, tSl, tPart, tNoPart, rSlS, cut_lo, cut_hi, gc_cons, gn_nil, tJs, tFmt8, S_empty, tTup, tNever, tNext, tM1, tM0, tRet, tRetN, tAndV, tOrV, tNotV, tCall, tMeth, tProp, tVar, tC, tCons, tNil, L2.start, tChain, tTest, rI, rI0, tOp, tUn, tSeq, tIfS, tAnd, tOr, tNot, tB, tIf, tAsg, gName, tDrop, tCB, tFld, rEq, rNe, scal, rIsi_int, rIsi_bl, rIsi_str, rIsi_non, kit_ii, kit_ib, kit_is, kit_bi, kit_bb, kit_bs, kit_si, kit_sb, kit_ss, kit_ni, kit_nb, kit_ns, S_inj, S_app, S_len, S_list, S_one, lit_no, lit_sp, lit_nl, lit_eq, cx_K, ex2, ex3, ex2b, rd_spN, rd_spC, rd_spI, rd_spIII, rd_spS, kNL, kBL, kES, kSB]
        refine ⟨c, q, .ref r, u, _, data, rfl, E9.code.wy, .inl ⟨r, rfl, E9.rules⟩, okT, read_whole hw4 hdb, fun p1 H10 s10 e10 => ne_ints e10 (s10 _ _ hd9) (.inl ⟨rfl, ?_⟩)⟩
        have E10 := E9.step s10
        refine ⟨c, q, .non, usualR, _, data, rfl, E10.code.wy, .inr ⟨rfl, rfl⟩, okT, read_whole hw4 hdb, fun p2 H11 s11 e11 => ne_ints e11 (s11 _ _ (s10 _ _ hd9)) (.inl ⟨rfl, ?_⟩)⟩
        have E11 := E10.step s11
        have hd11 := s11 _ _ (s10 _ _ hd9)
        refine l3 _ _ ?_
        clear l3
        refine tSeq_cut fun G4 l4 => ?_
        refine ⟨3, rfl, by decide, by decide, for_range (n := 3) (MI K H sa i g cd ru c r q u t d data) ⟨_, _, rfl, E11.draw hgH (SameX.refl _ _) (E11.bag.mono (by omega)), hd11, hdg, fun h => by omega⟩ ?_ ?_⟩
        · rintro m σ H12 hm ⟨v10, v11, rfl, E12, hd12, _, _⟩
          rw [Int.zero_add]
          refine tSeq_cut fun G5 l5 => ?_
          simp [tPar, tPar3, -List.lookup_eq_none_iff, sizeLine_eq, tSl, tPart, tNoPart, rSlS, cut_lo, cut_hi, gc_cons, gn_nil, tJs, tFmt8, S_empty, tTup, tNever, tNext, tM1, tM0, tRet, tRetN, tAndV, tOrV, tNotV, tCall, tMeth, tProp, tVar, tC, tCons, tNil, L2.start, tChain, tTest, rI, rI0, tOp, tUn, tSeq, tIfS, tAnd, tOr, tNot, tB, tIf, tAsg, gName, tDrop, tCB, tFld, rEq, rNe, scal, rIsi_int, rIsi_bl, rIsi_str, rIsi_non, kit_ii, kit_ib, kit_is, kit_bi, kit_bb, kit_bs, kit_si, kit_sb, kit_ss, kit_ni, kit_nb, kit_ns, S_inj, S_app, S_len, S_list, S_one, lit_no, lit_sp, lit_nl, lit_eq, cx_K, ex2, ex3, ex2b, rd_spN, rd_spC, rd_spI, rd_spIII, rd_spS, kNL, kBL, kES, kSB]
          refine ⟨g, cd, ru, d, _, q, u, data, rfl, E12.tq, hq, E12.tr, hd12, hdg, hdl, hdb, E12.bag, by omega, fun text H13 t1 t2 s13 B13 => ?_⟩
          have E13 := E12.draw hgH s13 B13
          have hd13 := s13 _ _ hdg hd12
          (try simp [tPar, tPar3, -List.lookup_eq_none_iff, sizeLine_eq, tSl, tPart, tNoPart, rSlS, cut_lo, cut_hi, gc_cons, gn_nil, tJs, tFmt8, S_empty, tTup, tNever, tNext, tM1, tM0, tRet, tRetN, tAndV, tOrV, tNotV, tCall, tMeth, tProp, tVar, tC, tCons, tNil, L2.start, tChain, tTest, rI, rI0, tOp, tUn, tSeq, tIfS, tAnd, tOr, tNot, tB, tIf, tAsg, gName, tDrop, tCB, tFld, rEq, rNe, scal, rIsi_int, rIsi_bl, rIsi_str, rIsi_non, kit_ii, kit_ib, kit_is, kit_bi, kit_bb, kit_bs, kit_si, kit_sb, kit_ss, kit_ni, kit_nb, kit_ns, S_inj, S_app, S_len, S_list, S_one, lit_no, lit_sp, lit_nl, lit_eq, cx_K, ex2, ex3, ex2b, rd_spN, rd_spC, rd_spI, rd_spIII, rd_spS, kNL, kBL, kES, kSB])
          refine l5 _ _ ?_
          clear l5
          simp [tPar, tPar3, -List.lookup_eq_none_iff, sizeLine_eq, tSl, tPart, tNoPart, rSlS, cut_lo, cut_hi, gc_cons, gn_nil, tJs, tFmt8, S_empty, tTup, tNever, tNext, tM1, tM0, tRet, tRetN, tAndV, tOrV, tNotV, tCall, tMeth, tProp, tVar, tC, tCons, tNil, L2.start, tChain, tTest, rI, rI0, tOp, tUn, tSeq, tIfS, tAnd, tOr, tNot, tB, tIf, tAsg, gName, tDrop, tCB, tFld, rEq, rNe, scal, rIsi_int, rIsi_bl, rIsi_str, rIsi_non, kit_ii, kit_ib, kit_is, kit_bi, kit_bb, kit_bs, kit_si, kit_sb, kit_ss, kit_ni, kit_nb, kit_ns, S_inj, S_app, S_len, S_list, S_one, lit_no, lit_sp, lit_nl, lit_eq, cx_K, ex2, ex3, ex2b, rd_spN, rd_spC, rd_spI, rd_spIII, rd_spS, kNL, kBL, kES, kSB]
          refine ⟨c, q, .ref r, u, text, data, rfl, E13.code.wy, .inl ⟨r, rfl, E13.rules⟩, t1, t2, fun H14 s14 => ?_⟩
          have E14 := E13.step s14
          have hd14 := s14 _ _ hd13
          refine ⟨true, true, rfl, rfl, .inl ⟨rfl, ?_⟩⟩
          refine ⟨c, q, .ref r, u, text, data, rfl, E14.code.wy, .inl ⟨r, rfl, E14.rules⟩, t1, t2, fun p3 H15 s15 e15 => ne_ints e15 (s15 _ _ hd14) (.inl ⟨rfl, ?_⟩)⟩
          have E15 := E14.step s15
          exact ⟨_, _, rfl, E15.draw hgH (SameX.refl _ _) (E15.bag.mono (by omega)), s15 _ _ hd14, hdg, fun _ => ⟨text, rfl, t1, t2⟩⟩
        · rintro σ H12 ⟨v10, v11, rfl, E12, hd12, _, ht12⟩
          obtain ⟨text, rfl, t1, t2⟩ := ht12 (by decide)
          refine l4 _ _ ?_
          clear l4
          simp [tPar, tPar3, -List.lookup_eq_none_iff, sizeLine_eq, tSl, tPart, tNoPart, rSlS, cut_lo, cut_hi, gc_cons, gn_nil, tJs, tFmt8, S_empty, tTup, tNever, tNext, tM1, tM0, tRet, tRetN, tAndV, tOrV, tNotV, tCall, tMeth, tProp, tVar, tC, tCons, tNil, L2.start, tChain, tTest, rI, rI0, tOp, tUn, tSeq, tIfS, tAnd, tOr, tNot, tB, tIf, tAsg, gName, tDrop, tCB, tFld, rEq, rNe, scal, rIsi_int, rIsi_bl, rIsi_str, rIsi_non, kit_ii, kit_ib, kit_is, kit_bi, kit_bb, kit_bs, kit_si, kit_sb, kit_ss, kit_ni, kit_nb, kit_ns, S_inj, S_app, S_len, S_list, S_one, lit_no, lit_sp, lit_nl, lit_eq, cx_K, ex2, ex3, ex2b, rd_spN, rd_spC, rd_spI, rd_spIII, rd_spS, kNL, kBL, kES, kSB]
          refine ⟨c, q, .ref r, u, text, data, rfl, E12.code.wy, .inl ⟨r, rfl, E12.rules⟩, t1, t2, fun p3 H13 s13 e13 => ?_⟩
          have E13 := E12.step s13
          refine ⟨c, q, p3, data, rfl, E13.code, e13, by omega, hdb, fun H14 s14 => ?_⟩
          have E14 := E13.step s14
          simp [tPar, tPar3, -List.lookup_eq_none_iff, sizeLine_eq, tSl, tPart, tNoPart, rSlS, cut_lo, cut_hi, gc_cons, gn_nil, tJs, tFmt8, S_empty, tTup, tNever, tNext, tM1, tM0, tRet, tRetN, tAndV, tOrV, tNotV, tCall, tMeth, tProp, tVar, tC, tCons, tNil, L2.start, tChain, tTest, rI, rI0, tOp, tUn, tSeq, tIfS, tAnd, tOr, tNot, tB, tIf, tAsg, gName, tDrop, tCB, tFld, rEq, rNe, scal, rIsi_int, rIsi_bl, rIsi_str, rIsi_non, kit_ii, kit_ib, kit_is, kit_bi, kit_bb, kit_bs, kit_si, kit_sb, kit_ss, kit_ni, kit_nb, kit_ns, S_inj, S_app, S_len, S_list, S_one, lit_no, lit_sp, lit_nl, lit_eq, cx_K, ex2, ex3, ex2b, rd_spN, rd_spC, rd_spI, rd_spIII, rd_spS, kNL, kBL, kES, kSB]
          exact ⟨_, _, _, _, _, rfl, E14.draw hgH (SameX.refl _ _) (E14.bag.mono (by omega))⟩
      · rintro σ H7 ⟨v7, v8, v9, v10, v11, rfl, E7⟩
        exact ⟨_, _, _, _, _, _, _, _, _, _, _, rfl, E7.same⟩
    · rintro σ H1 ⟨v1, v2, v3, v4, v5, v6, v7, v8, v9, v10, v11, rfl, s1⟩
      exact h1 _ _ (k H1)
end
end K45
end
section
namespace K45
open PySem PySem.Spec PyProof.Rows L2
theorem run (w : World) : HandSHeadRun.RunEq R (PySem.W.view R.prog [71]) hk ob 30000 names w := by
  intro os
  kernel_rfl
end K45
end
section
namespace K45
open PySem PySem.Spec PyProof.Rows L2 Pt
theorem facts {P : Program} {w : World} {K : Fg} {h : Heap} {mg : Str → Option Value} {f : Addr} (X : K.In h) (G : h.Ns mainGlobals mg) (hfa : mg ("law" : Str) = some (.ref f)) (c : Pt.Says fa ds K) :
    ∃ fd : FuncData, (∀ (s : Shared) (v : Value), BindsTo s fd ⟨[v], []⟩ [("_law_script", v)]) ∧ ∀ base : Heap, K.In base → base.Ns mainGlobals mg → FnOk P w K mg base CX0 10 f fd ["_law_script"] (spLaw K) := by
  have T := Tx.of X G c
  obtain ⟨fd, F⟩ := T.F_law
  have e := hfa.symm.trans T.g_law
  cases e
  have b := FunD.bindsA (ps := ["_law_script"]) F fun _ _ _ _ _ _ us hl => match us, hl with | [_], _ => rfl
  exact ⟨fd, fun s v => b s [v] rfl, fun base _ _ => law_fn T F⟩
end K45
open PySem PySem.W PySem.Calls PyProof.Rows
theorem PySem.Challenge.cw_piecetexts_k45_whole_spelled_texts_read_holds : PySem.Challenge.rw_piecetexts_k45_whole_spelled_texts_read.Holds := by
  w_on; o_law
  refine HandSHeadRun.head_any (r := OpenLaw.row PySem.Challenge.rw_piecetexts_k45_whole_spelled_texts_read) (q := view (OpenLaw.row PySem.Challenge.rw_piecetexts_k45_whole_spelled_texts_read).prog [71]) (H := K45.hk) (ob := K45.ob) (M := 30000) (loose := K45.names) (d := HandSHeadRun.topDef (OpenLaw.row PySem.Challenge.rw_piecetexts_k45_whole_spelled_texts_read).prog 71) (kwd := []) K45.ob_eq
    (by kernel_rfl) (fun s => by kernel_rfl) K45.run (by kernel_rfl) (by kernel_rfl) (by kernel_rfl) (by rfl) (by first | assumption | decide +kernel) (by decide +kernel) ⟨rfl, rfl, rfl, rfl, rfl, by decide +kernel⟩ ?hw ?hc
  case hw => w_witness2
  case hc =>
    refine L2.walk_ofE (l := PySem.Challenge.rw_piecetexts_k45_whole_spelled_texts_read) (n := 63) (k := 10) (x := "_law_script") (CX := L2.CX0) rfl (by decide) (by kernel_rfl) ⟨rfl, by decide, by decide⟩ ?F (fun _ _ _ _ z => z)
    intro w mg fa h Y G hmg0
    obtain ⟨K, KX, c⟩ := Y
    have hmg : mg ("law" : PySem.Str) = some (.ref fa) := by
      have e : (HandSHeadRun.topDef (OpenLaw.row PySem.Challenge.rw_piecetexts_k45_whole_spelled_texts_read).prog 71).name = ("law" : PySem.Str) := by kernel_rfl
      rw [← e]
      exact hmg0
    obtain ⟨fd, hb, hF⟩ := K45.facts (P := (PySem.Challenge.rw_piecetexts_k45_whole_spelled_texts_read).prog) (w := w) KX G hmg c
    exact ⟨K, fd, K45.spLaw K, KX, hb, fun H a ns hl _ hS => ⟨a, ns, rfl, hS, hl, fun _ => rfl⟩, hF⟩
end
