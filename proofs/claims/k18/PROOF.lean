import PyProof.Rows.All
import Wide.All
import OpenK.AllK
import Wide.FinOn
import PySem.Challenge.RW_weirlines_k18_refused_program_asks
import KE.KStateDown
import HandS.Head0
import HandS.Head1
import HandS.Head2
import HandS.HeadHook1
import HandS.HeadHook2
import HandS.EndBits
import KE.KExcSuper
import PySem.Str
import HandS.ForMost
import HandS.ForExc
import HandS.Star
import HandS.Wide
import HandS.WideBits
import HandS.TupAny
import HandS.TupMul
import HandS.Deep
import HandS.Conv
import HandS.CallSlots
import HandS.Walk
import HandS.Style
import HandS.List
import PyProof.SumWalkG
import PyProof.WalksMore
import PyProof.TupleIter
import HandS.IsInst
import HandS.SortInts
import HandS.WordsDict
import KE.GoesNew
import KE.GoesEnum
import HandS.Rev
import HandS.SetFor
import HandS.Strs
import HandS.DictComp
import HandS.TryMany
import HandS.ExcField
import HandS.ExcInit
import HandS.ExcSuper
import KE.KDictDisplayH
import HandS.Defaults
import HandS.TryOnly
import HandS.TupLe
import HandS.Comp
import HandS.Exc
import KE.GoesRaise
set_option Elab.async false
set_option linter.all false
section
set_option maxRecDepth 100000
namespace VH
open PySem PySem.Spec PyProof.Rows L2 He
abbrev Frag := PySem.W.Frag
def objA (K : Frag) (z : Addr) : Obj := (K.lookup z).getD default
def fdA (K : Frag) (z : Addr) : FuncData := match (objA K z).data with
  | .func fd => fd
  | _ => default
def clsA (K : Frag) (z : Addr) : ClassData := match (objA K z).data with
  | .cls c => c
  | _ => default
def seqA (K : Frag) (z : Addr) : Array Value := match (objA K z).data with
  | .seq a _ => a
  | _ => #[]
def seqN (K : Frag) (z : Addr) : Nat := match (objA K z).data with
  | .seq _ n => n
  | _ => 0
def fldA (K : Frag) (z : Addr) : Array Value := match (objA K z).data with
  | .fields a => a
  | _ => #[]
def slotA (K : Frag) (z : Addr) (i : Nat) : Option Value := (objA K z).slots.toList.getD i none
def refV : Value → Addr
  | .ref a => a
  | _ => 0
def tokV : Value → Tok
  | .int _ t => t
  | .str _ t => t
  | _ => 0
def strV : Value → Str
  | .str s _ => s
  | _ => Str.empty
def tokO : Option (Option Value) → Tok
  | some (some v) => tokV v
  | _ => 0
def tokAt (K : Frag) (z : Addr) (i : Nat) : Tok := tokV ((seqA K z).toList.getD i .none)
def refAt (K : Frag) (z : Addr) (i : Nat) : Addr := refV ((seqA K z).toList.getD i .none)
def mroAt (K : Frag) (z : Addr) (i : Nat) : Addr := refV ((clsA K z).mro.getD i .none)
def ccA (K : Frag) (z : Addr) : Addr := match (fdA K z).closure with
  | (_, a) :: _ => a
  | _ => 0
abbrev FnT : Type := Option (Str × Str × Arguments × FuncBody × Scope)
abbrev ft (n q : Str) (ps : Arguments) (b : List Stmt) (sc : Scope) : FnT := some (n, q, ps, .stmts b, sc)
def fnT (K : Frag) (z : Addr) : FnT := match K.lookup z with
  | some ⟨_, _, .func fd, _⟩ => some (fd.name, fd.qualname, fd.params, fd.body, fd.scope)
  | _ => none
def fnB (K : Frag) (z : Addr) (cl : List (Str × Addr)) (dV : Value) : Bool := match K.lookup z with
  | some ⟨_, _, .func fd, _⟩ => decide (fd.globals = mainGlobals) && (decide (fd.closure = cl) && (decide (fd.builtins = builtinsNs) && decide (fd.defaults = dV)))
  | _ => false
theorem fn_x {K : Frag} {z : Addr} {n q : Str} {ps : Arguments} {b : List Stmt} {sc : Scope} {cl : List (Str × Addr)} {dV : Value} (e : fnT K z = some (n, q, ps, .stmts b, sc)) (c : fnB K z cl dV = true) :
    K.lookup z = some ⟨(objA K z).cls, (objA K z).dict, .func (PySem.W.fnX n q ps b sc cl dV (fdA K z).kwdefaults (fdA K z).doc (fdA K z).pyModule (fdA K z).annotations (fdA K z).code (fdA K z).closureTuple), (objA K z).slots⟩ := by
  unfold fnB at c
  unfold fnT at e
  unfold fdA objA
  cases q1 : K.lookup z with
  | none => rw [q1] at c; cases c
  | some o =>
    obtain ⟨oc, od, dt, osl⟩ := o
    rw [q1] at c e
    cases dt with
    | func fd =>
      obtain ⟨n1, n2, n3, n4, n5, n6, n7, n8, n9, n10, n11, n12, n13, n14, n15⟩ := fd
      have e2 : (some (n1, n2, n3, n4, n5) : FnT) = some (n, q, ps, .stmts b, sc) := e
      simp only [Option.some.injEq, Prod.mk.injEq] at e2
      obtain ⟨h1, h2, h3, h4, h5⟩ := e2
      obtain ⟨c1, c⟩ := ba c
      obtain ⟨c2, c⟩ := ba c
      obtain ⟨c3, c4⟩ := ba c
      have d1 : n6 = mainGlobals := of_decide_eq_true c1
      have d2 : n7 = cl := of_decide_eq_true c2
      have d3 : n15 = builtinsNs := of_decide_eq_true c3
      have d4 : n8 = dV := of_decide_eq_true c4
      subst h1 h2 h3 h4 h5 d1 d2 d3 d4
      rfl
    | _ => cases c
theorem fn_is {K : Frag} {z : Addr} {n q : Str} {ps : Arguments} {b : List Stmt} {sc : Scope} {dV : Value} (e : fnT K z = some (n, q, ps, .stmts b, sc)) (c : fnB K z [] dV = true) :
    K.lookup z = some ⟨(objA K z).cls, (objA K z).dict, .func (PySem.W.fnOf n q ps b sc dV (fdA K z).kwdefaults (fdA K z).doc (fdA K z).pyModule (fdA K z).annotations (fdA K z).code (fdA K z).closureTuple), (objA K z).slots⟩ := fn_x e c
def ksB (K : Frag) (z : Addr) : Bool := fnB K z [("__class__", ccA K z)] .none && decide ((fdA K z).code = .ref (refV (fdA K z).code))
theorem ks_is {K : Frag} {z : Addr} {n q : Str} {ps : Arguments} {b : List Stmt} {sc : Scope} (e : fnT K z = some (n, q, ps, .stmts b, sc)) (c : ksB K z = true) :
    K.lookup z = some ⟨(objA K z).cls, (objA K z).dict, .func (PySem.W.ksFn n q ps b sc .none (fdA K z).kwdefaults (fdA K z).doc (fdA K z).pyModule (fdA K z).annotations (.ref (refV (fdA K z).code)) (fdA K z).closureTuple (ccA K z)), (objA K z).slots⟩ := by
  obtain ⟨c1, c2⟩ := ba c
  have := fn_x e c1
  rw [of_decide_eq_true c2] at this
  exact this
def tupB (K : Frag) (x : Addr) (its : Array Value) : Bool := match K.lookup x with
  | some ⟨.type c, _, .seq a _, _⟩ => decide (c = "tuple") && decide (a = its)
  | _ => false
theorem tup_is {K : Frag} {x : Addr} {its : Array Value} (c : tupB K x its = true) : K.lookup x = some ⟨.type "tuple", (objA K x).dict, .seq its (seqN K x), (objA K x).slots⟩ := by
  unfold tupB at c
  unfold seqN objA
  cases q1 : K.lookup x with
  | none => rw [q1] at c; cases c
  | some o =>
    obtain ⟨oc, od, dt, osl⟩ := o
    rw [q1] at c
    cases oc with
    | type t =>
      cases dt with
      | seq a n =>
        obtain ⟨c1, c2⟩ := ba (show (decide (t = "tuple") && decide (a = its)) = true from c)
        have d1 : t = "tuple" := of_decide_eq_true c1
        have d2 : a = its := of_decide_eq_true c2
        subst d1 d2
        rfl
      | _ => cases c
    | _ => cases dt <;> cases c
def excB (K : Frag) (k : Addr) (bm : List Value) : Bool := match K.lookup k with
  | some ⟨.type t, _, .cls c, sl⟩ => decide (t = "type") && (decide (c.mro = .ref k :: bm) && (c.hasDict && (!c.hasDel && decide (sl.toList = [slotA K k 0, slotA K k 1, slotA K k 2, slotA K k 3, some (.builtin "ValueError.__new__"), slotA K k 5]))))
  | _ => false
theorem exc_is {K : Frag} {k : Addr} {bm : List Value} (c : excB K k bm = true) : K.lookup k = some (excClassObj (clsA K k).name (clsA K k).qualname k (clsA K k).ns (clsA K k).bases bm true (clsA K k).slotNames (clsA K k).subclasses (clsA K k).abstract (clsA K k).collection (objA K k).dict (slotA K k 0) (slotA K k 1) (slotA K k 2) (slotA K k 3) (slotA K k 5) "ValueError.__new__") := by
  generalize e0 : slotA K k 0 = s0
  generalize e1 : slotA K k 1 = s1
  generalize e2 : slotA K k 2 = s2
  generalize e3 : slotA K k 3 = s3
  generalize e5 : slotA K k 5 = s5
  unfold excB at c
  rw [e0, e1, e2, e3, e5] at c
  unfold clsA objA
  cases q1 : K.lookup k with
  | none => rw [q1] at c; cases c
  | some o =>
    obtain ⟨oc, od, dt, osl⟩ := o
    rw [q1] at c
    cases oc with
    | type t =>
      cases dt with
      | cls d =>
        obtain ⟨n1, n2, n3, n4, n5, n6, n7, n8, n9, n10, n11⟩ := d
        obtain ⟨c1, c⟩ := ba c
        obtain ⟨c2, c⟩ := ba c
        obtain ⟨c3, c⟩ := ba c
        obtain ⟨c4, c5⟩ := ba c
        have d1 : t = "type" := of_decide_eq_true c1
        have d2 : n3 = .ref k :: bm := of_decide_eq_true c2
        have d3 : n6 = true := c3
        have d4 : n11 = false := by
          have : (!n11) = true := c4
          cases n11 with
          | true => cases this
          | false => rfl
        have d5 : osl.toList = _ := of_decide_eq_true c5
        obtain ⟨l⟩ := osl
        have d5 : l = _ := d5
        subst d1 d2 d3 d4 d5
        rfl
      | _ => cases c
    | _ => cases dt <;> cases c
def codB (K : Frag) (c : Addr) : Bool := match K.lookup c with
  | some ⟨_, _, .fields _, _⟩ => true
  | _ => false
theorem cod_is {K : Frag} {x : Addr} (c : codB K x = true) : K.lookup x = some ⟨(objA K x).cls, (objA K x).dict, .fields (fldA K x), (objA K x).slots⟩ := by
  unfold codB at c
  unfold fldA objA
  cases q1 : K.lookup x with
  | none => rw [q1] at c; cases c
  | some o =>
    obtain ⟨oc, od, dt, osl⟩ := o
    rw [q1] at c
    cases dt with
    | fields a => rfl
    | _ => cases c
def celB (K : Frag) (x k : Addr) : Bool := match K.lookup x with
  | some ⟨_, _, .cell (some v), _⟩ => decide (v = .ref k)
  | _ => false
theorem cel_is {K : Frag} {x k : Addr} (c : celB K x k = true) : K.lookup x = some ⟨(objA K x).cls, (objA K x).dict, .cell (some (.ref k)), (objA K x).slots⟩ := by
  unfold celB at c
  unfold objA
  cases q1 : K.lookup x with
  | none => rw [q1] at c; cases c
  | some o =>
    obtain ⟨oc, od, dt, osl⟩ := o
    rw [q1] at c
    cases dt with
    | cell v =>
      cases v with
      | none => cases c
      | some v =>
        have c : v = .ref k := of_decide_eq_true c
        subst c
        rfl
    | _ => cases c
def allL (l : List (Frag → Bool)) (K : Frag) : Bool := match l with
  | [] => true
  | f :: r => f K && allL r K
theorem allL_at : ∀ {l : List (Frag → Bool)} {K : Frag}, allL l K = true → ∀ (i : Nat) {f : Frag → Bool}, l[i]? = some f → f K = true
  | [], _, _, i, f, e => by simp at e
  | g :: r, K, h, 0, f, e => by
    have e : g = f := by simpa using e
    rw [← e]
    exact (ba h).1
  | g :: r, K, h, i + 1, f, e => allL_at (l := r) (ba h).2 i (by simpa using e)
def chkL (l : List (List (Frag → Bool))) (K : Frag) : Bool := match l with
  | [] => true
  | f :: r => allL f K && chkL r K
theorem chkL_at : ∀ {l : List (List (Frag → Bool))} {K : Frag}, chkL l K = true → ∀ (i : Nat) {f : List (Frag → Bool)}, l[i]? = some f → allL f K = true
  | [], _, _, i, f, e => by simp at e
  | g :: r, K, h, 0, f, e => by
    have e : g = f := by simpa using e
    rw [← e]
    exact (ba h).1
  | g :: r, K, h, i + 1, f, e => chkL_at (l := r) (ba h).2 i (by simpa using e)
def frc {α : Type} (K : Frag) (k : Frag → α) : α := match K with
  | [] => k []
  | x :: r => frc r fun r => k (x :: r)
theorem frc_eq {α : Type} : ∀ (K : Frag) (k : Frag → α), frc K k = k K
  | [], k => rfl
  | x :: r, k => by
    show frc r (fun r => k (x :: r)) = _
    rw [frc_eq]
def adr (lo : Nat) : Nat → List Addr
  | 0 => []
  | n + 1 => (lo + n) :: adr lo n
def ads (n : Nat) : List Addr := mainGlobals :: PySem.cStatics :: adr 0 n
abbrev AlH : Type := Bool × List FnT
def obsK (cs : List (List (Frag → Bool))) (fs : List (Frag → Addr)) (K : Frag) : AlH := (chkL cs K, fs.map fun f => fnT K (f K))
def obsH (n : Nat) (cs : List (List (Frag → Bool))) (fs : List (Frag → Addr)) (g : Addr → Option Obj) : AlH := frc (frG g (ads n)) (obsK cs fs)
def SaysH (cs : List (List (Frag → Bool))) (fs : List (Frag → Addr)) (ts : List FnT) (K : Frag) : Prop := obsK cs fs K = (true, ts)
def hookH (n : Nat) (cs : List (List (Frag → Bool))) (fs : List (Frag → Addr)) (ts : List FnT) : PySem.W.Hook where
  α := AlH
  obs := fun s => obsH n cs fs s.heap.get?
  val := fun _ => (true, ts)
  says := fun _ h => ∃ K : Frag, K.In h ∧ SaysH cs fs ts K
  of := fun _ _ e => ⟨_, frG_in, by
    have e2 : frc (frG _ (ads n)) (obsK cs fs) = _ := e
    rw [frc_eq] at e2
    exact e2⟩
  keeps := fun _ _ _ ⟨K, hK, c⟩ k => ⟨K, PySem.W.Frag.In.keeps hK k, c⟩
theorem obsH_eq {n : Nat} {cs : List (List (Frag → Bool))} {fs : List (Frag → Addr)} {ts : List FnT} (s : PySem.W.SharedT) : obsH n cs fs (HandSHeadRun.getT s) = (hookH n cs fs ts).obs s.abs := by
  have e : HandSHeadRun.getT s = s.abs.heap.get? := funext (HandSHeadRun.getT_eq s)
  rw [e] <;> rfl
section
variable {cs : List (List (Frag → Bool))} {fs : List (Frag → Addr)} {ts : List FnT} {K : Frag}
theorem SaysH.chk (c : SaysH cs fs ts K) : chkL cs K = true := congrArg (fun z : AlH => z.1) c
theorem SaysH.fn (c : SaysH cs fs ts K) (i : Nat) {f : Frag → Addr} {t : FnT} (h1 : fs[i]? = some f) (h2 : ts[i]? = some t) : fnT K (f K) = t := by
  have e : fs.map (fun f => fnT K (f K)) = ts := congrArg (fun z : AlH => z.2) c
  have e2 : (fs.map fun f => fnT K (f K))[i]? = ts[i]? := by rw [e]
  rw [List.getElem?_map, h1, h2] at e2
  exact Option.some.inj e2
end
theorem walk_ofBE {l : PySem.W.OpenLaw} {n k : Nat} {q : Program} {loose : List Str} {XP : (Str → Option Value) → Heap → Prop} {YP : World → Heap → Prop} {d : DefRec} {CX : World → CXT} {sp : Frag → Sp} {x : Str}
    (hn : l.most = some n) (hn2 : n ≤ sizeLine) (hdf : d.params.defaults = []) (hr : Room k callerA)
    (F : ∀ (w : World) (mg : Str → Option Value) (fa : Addr) (h : Heap), YP w h → h.Ns mainGlobals mg → mg d.name = some (.ref fa) →
      ∃ K : Frag, K.In h ∧ ∃ fd : FuncData, (∀ (s : Shared) (u : Value), BindsTo s fd ⟨[u], []⟩ [(x, u)]) ∧
        ∀ base : Heap, K.In base → base.Ns mainGlobals mg → FnOk l.prog w K mg base (CX w) k fa fd [x] (sp K))
    (hsp : ∀ (K : Frag) (H : Hp) (a : Addr) (ns : List Int), ns.length ≤ n → (∀ z ∈ ns, Builtin.Int.intBits z ≤ 1048576) → Only H → SqL K H a (ns.map V.int) → sp K [.ref a] H (fun v _ => v = .bl true) fun _ _ _ => False)
    (hCX : ∀ (w : World) (H : Hp) (s : Shared) (e : Value) (s' : Shared), CX w [] H s (fun _ _ _ => False) e s' → False) :
    PySem.W.WalkO q loose XP YP l.row.toRowW d [] (fun f vs => PySem.call f vs) := by
  refine Att.attach_callB hn hdf fun w s₀ s₁ mg mb fa o pm cd doc a vs ns G Y ho hd hcd hmg hobj hints hlen hbits hg => ?_
  obtain ⟨K, KX, fd, hb, hF⟩ := F w mg fa _ Y G.T.g hmg
  exact law_call KX G.T.g G.T.b G.T.builtins G.T.nolimit hg hobj hints (Nat.le_trans hlen hn2) hr hF hb (fun H hO hS => hsp K H a ns hlen hbits hO hS) fun H e s' => hCX w H s₁ e s'
end VH
namespace HandSHeadRun
open PySem PySem.W PySem.Calls PyProof.Rows
noncomputable def endR (r : OpenRow) (M : Nat) (w : World) (os : OsState) : Option SharedT := endF (stepQ (denQ tabQ) r.prog w) M r.prog w os
noncomputable def sawR (r : OpenRow) (q : Program) (loose : List PySem.Str) (s : SharedT) := seenQ q loose (importedModules r.prog.main.body) (fun s => xlAt q [] s && recOk r.toRowW.records s) s.abs
def RunP {α : Type} (r : OpenRow) (M : Nat) (w : World) (f : SharedT → α) (v : α) : Prop := ∀ os : OsState, (endR r M w os).map f = some v
section
variable {r : OpenRow} {q : Program} {H : Hook} {ob : SharedT → H.α} {M : Nat} {loose : List PySem.Str} {w : World}
def RunA (r : OpenRow) (q : Program) (M : Nat) (loose : List PySem.Str) (w : World) : Prop := RunP r M w (fun s => (looksF r.prog (boot_heap w.params) s.abs, (sawR r q loose s).1)) (true, (openGood q loose).1)
def RunB (r : OpenRow) (q : Program) (M : Nat) (loose : List PySem.Str) (w : World) : Prop := RunP r M w (fun s => (sawR r q loose s).2.1) (openGood q loose).2.1
def RunC (r : OpenRow) (q : Program) (M : Nat) (loose : List PySem.Str) (w : World) : Prop := RunP r M w (fun s => (sawR r q loose s).2.2.1) (openGood q loose).2.2.1
def RunE (r : OpenRow) (q : Program) (M : Nat) (loose : List PySem.Str) (w : World) : Prop := RunP r M w (fun s => ((sawR r q loose s).2.2.2.1, (sawR r q loose s).2.2.2.2.1)) ((openGood q loose).2.2.2.1, (openGood q loose).2.2.2.2.1)
def RunF (r : OpenRow) (q : Program) (M : Nat) (loose : List PySem.Str) (w : World) : Prop := RunP r M w (fun s => ((sawR r q loose s).2.2.2.2.2.1, (sawR r q loose s).2.2.2.2.2.2.1)) ((openGood q loose).2.2.2.2.2.1, (openGood q loose).2.2.2.2.2.2.1)
def RunG (r : OpenRow) (q : Program) (M : Nat) (loose : List PySem.Str) (w : World) : Prop := RunP r M w (fun s => (sawR r q loose s).2.2.2.2.2.2.2) (openGood q loose).2.2.2.2.2.2.2
def RunD (r : OpenRow) (H : Hook) (ob : SharedT → H.α) (M : Nat) (w : World) : Prop := RunP r M w ob (H.val w)
def RunS (r : OpenRow) (q : Program) (M : Nat) (loose : List PySem.Str) (w : World) : Prop := RunP r M w (fun s => (looksF r.prog (boot_heap w.params) s.abs, sawR r q loose s)) (true, openGood q loose)
def RunT (r : OpenRow) (q : Program) (M : Nat) (loose : List PySem.Str) (w : World) : Prop := RunP r M w (fun s => (sawR r q loose s).2) (openGood q loose).2
def RunE1 (r : OpenRow) (q : Program) (M : Nat) (loose : List PySem.Str) (w : World) : Prop := RunP r M w (fun s => (sawR r q loose s).2.2.2.2.2.1) (plainGoodE q (looseW q loose))
def RunE2 (r : OpenRow) (q : Program) (M : Nat) (loose : List PySem.Str) (w : World) : Prop := RunP r M w (fun s => (looksF r.prog (boot_heap w.params) s.abs, (sawR r q loose s).1, (sawR r q loose s).2.1)) (true, expectedOf q, bltViewBooted)
def RunE3 (r : OpenRow) (q : Program) (M : Nat) (loose : List PySem.Str) (w : World) : Prop := RunP r M w (fun s => ((sawR r q loose s).2.2.1, (sawR r q loose s).2.2.2.1, (sawR r q loose s).2.2.2.2.1)) (true, true, pinGoodD (drecsOf q))
def RunE4 (r : OpenRow) (q : Program) (M : Nat) (loose : List PySem.Str) (w : World) : Prop := RunP r M w (fun s => ((sawR r q loose s).2.2.2.2.2.2.1, (sawR r q loose s).2.2.2.2.2.2.2.1, (sawR r q loose s).2.2.2.2.2.2.2.2)) (plainGoodD q loose, wideGood q, clsGoodW q loose)
theorem run_five (h1 : RunE1 r q M loose w) (h2 : RunE2 r q M loose w) (h3 : RunE3 r q M loose w) (h4 : RunE4 r q M loose w) (hD : RunD r H ob M w) : RunEq r q H ob M loose w := fun os => by
  have a1 := h1 os
  have a2 := h2 os
  have a3 := h3 os
  have a4 := h4 os
  have d := hD os
  show (endR r M w os).map (fun s => (looksF r.prog (boot_heap w.params) s.abs, sawR r q loose s, ob s)) = _
  cases e : endR r M w os with
  | none => rw [e] at a1; cases a1
  | some s =>
    rw [e] at a1 a2 a3 a4 d
    have a1 := Option.some.inj a1
    have a2 := Option.some.inj a2
    have a3 := Option.some.inj a3
    have a4 := Option.some.inj a4
    have d := Option.some.inj d
    have l : looksF r.prog (boot_heap w.params) s.abs = true := congrArg (fun x => x.1) a2
    have b0 : (sawR r q loose s).1 = expectedOf q := congrArg (fun x => x.2.1) a2
    have b1 : (sawR r q loose s).2.1 = bltViewBooted := congrArg (fun x => x.2.2) a2
    have b2 : (sawR r q loose s).2.2.1 = true := congrArg (fun x => x.1) a3
    have b3 : (sawR r q loose s).2.2.2.1 = true := congrArg (fun x => x.2.1) a3
    have b4 : (sawR r q loose s).2.2.2.2.1 = pinGoodD (drecsOf q) := congrArg (fun x => x.2.2) a3
    have b6 : (sawR r q loose s).2.2.2.2.2.2.1 = plainGoodD q loose := congrArg (fun x => x.1) a4
    have b7 : (sawR r q loose s).2.2.2.2.2.2.2.1 = wideGood q := congrArg (fun x => x.2.1) a4
    have b8 : (sawR r q loose s).2.2.2.2.2.2.2.2 = clsGoodW q loose := congrArg (fun x => x.2.2) a4
    show some (looksF r.prog (boot_heap w.params) s.abs, sawR r q loose s, ob s) = some (true, openGood q loose, H.val w)
    rw [l, d]
    have e : sawR r q loose s = openGood q loose := Prod.ext b0 (Prod.ext b1 (Prod.ext b2 (Prod.ext b3 (Prod.ext b4 (Prod.ext a1 (Prod.ext b6 (Prod.ext b7 b8)))))))
    rw [e]
def shA (p : PlainShape) := (p.itsType, p.mroOk, p.hasDel, p.hasDict, p.abstract, p.places, p.maker)
def shB (p : PlainShape) := (p.nsOk, p.quietOk)
def shC (p : PlainShape) := (p.meths, p.fnTypes)
def RunE1a (r : OpenRow) (q : Program) (M : Nat) (loose : List PySem.Str) (w : World) : Prop := RunP r M w (fun s => ((sawR r q loose s).2.2.2.2.2.1).map (Option.map shA)) ((plainsOf q (looseW q loose)).map fun c => some (shA c.withCmp.plainShape))
def RunE1b (r : OpenRow) (q : Program) (M : Nat) (loose : List PySem.Str) (w : World) : Prop := RunP r M w (fun s => ((sawR r q loose s).2.2.2.2.2.1).map (Option.map shB)) ((plainsOf q (looseW q loose)).map fun c => some (shB c.withCmp.plainShape))
def RunE1c (r : OpenRow) (q : Program) (M : Nat) (loose : List PySem.Str) (w : World) : Prop := RunP r M w (fun s => ((sawR r q loose s).2.2.2.2.2.1).map (Option.map shC)) ((plainsOf q (looseW q loose)).map fun c => some (shC c.withCmp.plainShape))
def RunE3a (r : OpenRow) (q : Program) (M : Nat) (loose : List PySem.Str) (w : World) : Prop := RunP r M w (fun s => (sawR r q loose s).2.2.1) true
def RunE3b (r : OpenRow) (q : Program) (M : Nat) (loose : List PySem.Str) (w : World) : Prop := RunP r M w (fun s => (sawR r q loose s).2.2.2.1) true
def RunE3c (r : OpenRow) (q : Program) (M : Nat) (loose : List PySem.Str) (w : World) : Prop := RunP r M w (fun s => (sawR r q loose s).2.2.2.2.1) (pinGoodD (drecsOf q))
theorem run_E3 (ha : RunE3a r q M loose w) (hb : RunE3b r q M loose w) (hc : RunE3c r q M loose w) : RunE3 r q M loose w := fun os => by
  have a := ha os
  have b := hb os
  have c := hc os
  cases e : endR r M w os with
  | none => rw [e] at a; cases a
  | some s =>
    rw [e] at a b c
    have a : (sawR r q loose s).2.2.1 = true := Option.some.inj a
    have b : (sawR r q loose s).2.2.2.1 = true := Option.some.inj b
    have c : (sawR r q loose s).2.2.2.2.1 = pinGoodD (drecsOf q) := Option.some.inj c
    show some ((sawR r q loose s).2.2.1, (sawR r q loose s).2.2.2.1, (sawR r q loose s).2.2.2.2.1) = _
    rw [a, b, c]
theorem saw6 (s : SharedT) : (sawR r q loose s).2.2.2.2.2.1 = plainSeenE q (looseW q loose) s.abs := by
  unfold sawR
  rw [← seenQ_eq]
  rfl
theorem run_E1none (hp : plainsOf q (looseW q loose) = []) (h : RunE3a r q M loose w) : RunE1 r q M loose w := fun os => by
  have a := h os
  cases e : endR r M w os with
  | none => rw [e] at a; cases a
  | some s =>
    show some ((sawR r q loose s).2.2.2.2.2.1) = some (plainGoodE q (looseW q loose))
    rw [saw6]
    unfold plainSeenE plainGoodE
    rw [hp]
    rfl
end
end HandSHeadRun
end

section
namespace VL
end VL
namespace K18
open PySem PySem.Spec PyProof.Rows L2 VL
set_option maxRecDepth 100000
set_option maxHeartbeats 0
def top (i : Nat) : Stmt := PySem.Challenge.pw_weirlines_k18_refused_program_asks.main.body.getD i (.Pass ⟨0, 0, 0, 0⟩)
abbrev s__law_draw : Stmt := top 106
abbrev s__law_rounds : Stmt := top 107
abbrev s_is_whole : Stmt := top 8
abbrev s_is_round : Stmt := top 29
abbrev s_Program___init__ : Stmt := inClass (top 30) 0
abbrev s_check_program : Stmt := top 33
abbrev s_check_length : Stmt := top 32
abbrev s_check_basin : Stmt := top 52
abbrev s_gives : Stmt := top 54
abbrev s_got : Stmt := top 55
abbrev s_is_even_handed : Stmt := top 57
abbrev s_stretches : Stmt := top 64
abbrev s_check_laps : Stmt := top 60
abbrev s_left_behind : Stmt := top 66
abbrev s_judge_laps : Stmt := top 69
abbrev s_is_part : Stmt := top 11
abbrev s_common : Stmt := top 9
abbrev s_part : Stmt := top 10
abbrev s_as_part : Stmt := top 12
abbrev s_check_volumes : Stmt := top 61
abbrev s_lapped : Stmt := top 62
abbrev s_lap_limit : Stmt := top 65
abbrev s_moved : Stmt := top 77
abbrev s_lap_recurrence : Stmt := top 72
abbrev s__law_asked : Stmt := top 108
abbrev s_turned_back : Stmt := top 51
abbrev s_straightened : Stmt := top 56
abbrev s_check_programs : Stmt := top 81
abbrev s_tidy_program : Stmt := top 89
abbrev s_judge_even : Stmt := top 76
abbrev s_check_start : Stmt := top 40
abbrev s_recurrence : Stmt := top 47
abbrev s_judge_programs : Stmt := top 88
abbrev s_judge_later : Stmt := top 93
abbrev s_amount : Stmt := top 41
abbrev s_amounts : Stmt := top 42
abbrev s_check_kinds : Stmt := top 98
abbrev s_check_all : Stmt := top 102
abbrev s_few_rounds : Stmt := top 103
abbrev s__law_alone : Stmt := top 109
abbrev s_Program___eq__ : Stmt := inClass (top 30) 1
abbrev s_Program___add__ : Stmt := inClass (top 30) 3
abbrev s_different_programs : Stmt := top 104
abbrev s__law_mixed : Stmt := top 110
abbrev s_law : Stmt := top 111
abbrev hR : PySem.W.OpenRow := PySem.W.OpenLaw.row PySem.Challenge.rw_weirlines_k18_refused_program_asks
abbrev hq : Program := PySem.W.view hR.prog [1, 2, 3, 5, 6, 8, 9, 11, 12, 13, 14, 15, 16, 17, 18, 20, 21, 22, 24, 25, 26, 27, 28, 29, 30, 31, 32, 33, 34, 35, 37, 38, 39, 40, 41, 42, 43, 44, 45, 46, 47, 48, 49, 51, 52, 53, 54, 55, 56, 57, 59, 60, 61, 62, 63, 64, 65, 66, 67, 68, 69, 70, 71, 72, 73, 74, 75, 76, 77, 79, 80, 81, 82, 83, 84, 85, 86, 87, 88, 89, 90, 91, 92, 93, 95, 96, 97, 98, 99, 100, 101, 102, 103, 104, 106, 107, 108, 109, 110, 111]
def hc0 : List (VH.Frag → Bool) := [
  fun K => decide (PySem.W.nsIn K mainGlobals "Program" = some (some (.ref (He.ga K "Program")))),
  fun K => decide (PySem.W.nsIn K mainGlobals "_law_draw" = some (some (.ref (He.ga K "_law_draw")))),
  fun K => VH.fnB K (He.ga K "_law_draw") [] .none,
  fun K => PySem.W.codeIn K ((VH.fdA K (He.ga K "_law_draw")).code) "_law_draw",
  fun K => PySem.W.keepIn K (.ref (He.ga K "_law_draw")),
  fun K => decide (PySem.W.nsIn K mainGlobals "_law_rounds" = some (some (.ref (He.ga K "_law_rounds")))),
  fun K => VH.fnB K (He.ga K "_law_rounds") [] .none,
  fun K => PySem.W.codeIn K ((VH.fdA K (He.ga K "_law_rounds")).code) "_law_rounds",
  fun K => PySem.W.keepIn K (.ref (He.ga K "_law_rounds")),
  fun K => decide (PySem.W.nsIn K mainGlobals "is_whole" = some (some (.ref (He.ga K "is_whole")))),
  fun K => VH.fnB K (He.ga K "is_whole") [] .none,
  fun K => PySem.W.codeIn K ((VH.fdA K (He.ga K "is_whole")).code) "is_whole",
  fun K => PySem.W.keepIn K (.ref (He.ga K "is_whole")),
  fun K => decide (PySem.W.nsIn K mainGlobals "is_round" = some (some (.ref (He.ga K "is_round")))),
  fun K => VH.fnB K (He.ga K "is_round") [] .none,
  fun K => PySem.W.codeIn K ((VH.fdA K (He.ga K "is_round")).code) "is_round",
  fun K => PySem.W.keepIn K (.ref (He.ga K "is_round")),
  fun K => decide (PySem.W.findIn K (.ref (He.ga K "Program")) "__init__" = some (some (.ref (He.ma K (He.ga K "Program") "__init__")))),
  fun K => PySem.W.isFn K (.ref (He.ma K (He.ga K "Program") "__init__")),
  fun K => VH.fnB K (He.ma K (He.ga K "Program") "__init__") [] .none,
  fun K => PySem.W.codeIn K ((VH.fdA K (He.ma K (He.ga K "Program") "__init__")).code) "Program.__init__",
  fun K => PySem.W.keepIn K (.ref (He.ma K (He.ga K "Program") "__init__")),
  fun K => decide (PySem.W.nsIn K mainGlobals "check_program" = some (some (.ref (He.ga K "check_program")))),
  fun K => VH.fnB K (He.ga K "check_program") [] .none,
  fun K => PySem.W.codeIn K ((VH.fdA K (He.ga K "check_program")).code) "check_program",
  fun K => PySem.W.keepIn K (.ref (He.ga K "check_program")),
  fun K => decide (PySem.W.nsIn K mainGlobals "check_length" = some (some (.ref (He.ga K "check_length")))),
  fun K => VH.fnB K (He.ga K "check_length") [] .none,
  fun K => PySem.W.codeIn K ((VH.fdA K (He.ga K "check_length")).code) "check_length",
  fun K => PySem.W.keepIn K (.ref (He.ga K "check_length"))]
def hc1 : List (VH.Frag → Bool) := [
  fun K => decide (PySem.W.nsIn K mainGlobals "check_basin" = some (some (.ref (He.ga K "check_basin")))),
  fun K => VH.fnB K (He.ga K "check_basin") [] .none,
  fun K => PySem.W.codeIn K ((VH.fdA K (He.ga K "check_basin")).code) "check_basin",
  fun K => PySem.W.keepIn K (.ref (He.ga K "check_basin")),
  fun K => decide (PySem.W.nsIn K mainGlobals "gives" = some (some (.ref (He.ga K "gives")))),
  fun K => VH.fnB K (He.ga K "gives") [] .none,
  fun K => PySem.W.codeIn K ((VH.fdA K (He.ga K "gives")).code) "gives",
  fun K => PySem.W.keepIn K (.ref (He.ga K "gives")),
  fun K => decide (PySem.W.nsIn K mainGlobals "got" = some (some (.ref (He.ga K "got")))),
  fun K => VH.fnB K (He.ga K "got") [] .none,
  fun K => PySem.W.codeIn K ((VH.fdA K (He.ga K "got")).code) "got",
  fun K => PySem.W.keepIn K (.ref (He.ga K "got")),
  fun K => decide (PySem.W.nsIn K mainGlobals "is_even_handed" = some (some (.ref (He.ga K "is_even_handed")))),
  fun K => VH.fnB K (He.ga K "is_even_handed") [] .none,
  fun K => PySem.W.codeIn K ((VH.fdA K (He.ga K "is_even_handed")).code) "is_even_handed",
  fun K => PySem.W.keepIn K (.ref (He.ga K "is_even_handed")),
  fun K => decide (PySem.W.nsIn K mainGlobals "stretches" = some (some (.ref (He.ga K "stretches")))),
  fun K => VH.fnB K (He.ga K "stretches") [] .none,
  fun K => PySem.W.codeIn K ((VH.fdA K (He.ga K "stretches")).code) "stretches",
  fun K => PySem.W.keepIn K (.ref (He.ga K "stretches")),
  fun K => decide (PySem.W.nsIn K mainGlobals "check_laps" = some (some (.ref (He.ga K "check_laps")))),
  fun K => VH.fnB K (He.ga K "check_laps") [] .none,
  fun K => PySem.W.codeIn K ((VH.fdA K (He.ga K "check_laps")).code) "check_laps",
  fun K => PySem.W.keepIn K (.ref (He.ga K "check_laps")),
  fun K => decide (PySem.W.nsIn K mainGlobals "left_behind" = some (some (.ref (He.ga K "left_behind")))),
  fun K => VH.fnB K (He.ga K "left_behind") [] .none,
  fun K => PySem.W.codeIn K ((VH.fdA K (He.ga K "left_behind")).code) "left_behind",
  fun K => PySem.W.keepIn K (.ref (He.ga K "left_behind")),
  fun K => decide (PySem.W.nsIn K mainGlobals "judge_laps" = some (some (.ref (He.ga K "judge_laps")))),
  fun K => VH.fnB K (He.ga K "judge_laps") [] .none]
def hc2 : List (VH.Frag → Bool) := [
  fun K => PySem.W.codeIn K ((VH.fdA K (He.ga K "judge_laps")).code) "judge_laps",
  fun K => PySem.W.keepIn K (.ref (He.ga K "judge_laps")),
  fun K => decide (PySem.W.nsIn K mainGlobals "is_part" = some (some (.ref (He.ga K "is_part")))),
  fun K => VH.fnB K (He.ga K "is_part") [] .none,
  fun K => PySem.W.codeIn K ((VH.fdA K (He.ga K "is_part")).code) "is_part",
  fun K => PySem.W.keepIn K (.ref (He.ga K "is_part")),
  fun K => decide (PySem.W.nsIn K mainGlobals "common" = some (some (.ref (He.ga K "common")))),
  fun K => VH.fnB K (He.ga K "common") [] .none,
  fun K => PySem.W.codeIn K ((VH.fdA K (He.ga K "common")).code) "common",
  fun K => PySem.W.keepIn K (.ref (He.ga K "common")),
  fun K => decide (PySem.W.nsIn K mainGlobals "part" = some (some (.ref (He.ga K "part")))),
  fun K => VH.fnB K (He.ga K "part") [] (.ref (VH.refV (VH.fdA K (He.ga K "part")).defaults)),
  fun K => VH.tupB K (VH.refV (VH.fdA K (He.ga K "part")).defaults) #[.int 1 (VH.tokAt K (VH.refV (VH.fdA K (He.ga K "part")).defaults) 0)],
  fun K => PySem.W.codeIn K ((VH.fdA K (He.ga K "part")).code) "part",
  fun K => PySem.W.keepIn K (.ref (He.ga K "part")),
  fun K => decide (PySem.W.nsIn K mainGlobals "as_part" = some (some (.ref (He.ga K "as_part")))),
  fun K => VH.fnB K (He.ga K "as_part") [] .none,
  fun K => PySem.W.codeIn K ((VH.fdA K (He.ga K "as_part")).code) "as_part",
  fun K => PySem.W.keepIn K (.ref (He.ga K "as_part")),
  fun K => decide (PySem.W.nsIn K mainGlobals "check_volumes" = some (some (.ref (He.ga K "check_volumes")))),
  fun K => VH.fnB K (He.ga K "check_volumes") [] .none,
  fun K => PySem.W.codeIn K ((VH.fdA K (He.ga K "check_volumes")).code) "check_volumes",
  fun K => PySem.W.keepIn K (.ref (He.ga K "check_volumes")),
  fun K => decide (PySem.W.nsIn K mainGlobals "lapped" = some (some (.ref (He.ga K "lapped")))),
  fun K => VH.fnB K (He.ga K "lapped") [] .none,
  fun K => PySem.W.codeIn K ((VH.fdA K (He.ga K "lapped")).code) "lapped",
  fun K => PySem.W.keepIn K (.ref (He.ga K "lapped")),
  fun K => decide (PySem.W.nsIn K mainGlobals "lap_limit" = some (some (.ref (He.ga K "lap_limit")))),
  fun K => VH.fnB K (He.ga K "lap_limit") [] .none,
  fun K => PySem.W.codeIn K ((VH.fdA K (He.ga K "lap_limit")).code) "lap_limit"]
def hc3 : List (VH.Frag → Bool) := [
  fun K => PySem.W.keepIn K (.ref (He.ga K "lap_limit")),
  fun K => decide (PySem.W.nsIn K mainGlobals "moved" = some (some (.ref (He.ga K "moved")))),
  fun K => VH.fnB K (He.ga K "moved") [] .none,
  fun K => PySem.W.codeIn K ((VH.fdA K (He.ga K "moved")).code) "moved",
  fun K => PySem.W.keepIn K (.ref (He.ga K "moved")),
  fun K => decide (PySem.W.nsIn K mainGlobals "lap_recurrence" = some (some (.ref (He.ga K "lap_recurrence")))),
  fun K => VH.fnB K (He.ga K "lap_recurrence") [] .none,
  fun K => PySem.W.codeIn K ((VH.fdA K (He.ga K "lap_recurrence")).code) "lap_recurrence",
  fun K => PySem.W.keepIn K (.ref (He.ga K "lap_recurrence")),
  fun K => decide (PySem.W.nsIn K mainGlobals "_law_asked" = some (some (.ref (He.ga K "_law_asked")))),
  fun K => VH.fnB K (He.ga K "_law_asked") [] .none,
  fun K => PySem.W.codeIn K ((VH.fdA K (He.ga K "_law_asked")).code) "_law_asked",
  fun K => PySem.W.keepIn K (.ref (He.ga K "_law_asked")),
  fun K => decide (PySem.W.nsIn K mainGlobals "turned_back" = some (some (.ref (He.ga K "turned_back")))),
  fun K => VH.fnB K (He.ga K "turned_back") [] .none,
  fun K => PySem.W.codeIn K ((VH.fdA K (He.ga K "turned_back")).code) "turned_back",
  fun K => PySem.W.keepIn K (.ref (He.ga K "turned_back")),
  fun K => decide (PySem.W.nsIn K mainGlobals "straightened" = some (some (.ref (He.ga K "straightened")))),
  fun K => VH.fnB K (He.ga K "straightened") [] .none,
  fun K => PySem.W.codeIn K ((VH.fdA K (He.ga K "straightened")).code) "straightened",
  fun K => PySem.W.keepIn K (.ref (He.ga K "straightened")),
  fun K => decide (PySem.W.nsIn K mainGlobals "check_programs" = some (some (.ref (He.ga K "check_programs")))),
  fun K => VH.fnB K (He.ga K "check_programs") [] .none,
  fun K => PySem.W.codeIn K ((VH.fdA K (He.ga K "check_programs")).code) "check_programs",
  fun K => PySem.W.keepIn K (.ref (He.ga K "check_programs")),
  fun K => decide (PySem.W.nsIn K mainGlobals "tidy_program" = some (some (.ref (He.ga K "tidy_program")))),
  fun K => VH.fnB K (He.ga K "tidy_program") [] .none,
  fun K => PySem.W.codeIn K ((VH.fdA K (He.ga K "tidy_program")).code) "tidy_program",
  fun K => PySem.W.keepIn K (.ref (He.ga K "tidy_program")),
  fun K => decide (PySem.W.nsIn K mainGlobals "judge_even" = some (some (.ref (He.ga K "judge_even"))))]
def hc4 : List (VH.Frag → Bool) := [
  fun K => VH.fnB K (He.ga K "judge_even") [] .none,
  fun K => PySem.W.codeIn K ((VH.fdA K (He.ga K "judge_even")).code) "judge_even",
  fun K => PySem.W.keepIn K (.ref (He.ga K "judge_even")),
  fun K => decide (PySem.W.nsIn K mainGlobals "check_start" = some (some (.ref (He.ga K "check_start")))),
  fun K => VH.fnB K (He.ga K "check_start") [] .none,
  fun K => PySem.W.codeIn K ((VH.fdA K (He.ga K "check_start")).code) "check_start",
  fun K => PySem.W.keepIn K (.ref (He.ga K "check_start")),
  fun K => decide (PySem.W.nsIn K mainGlobals "recurrence" = some (some (.ref (He.ga K "recurrence")))),
  fun K => VH.fnB K (He.ga K "recurrence") [] .none,
  fun K => PySem.W.codeIn K ((VH.fdA K (He.ga K "recurrence")).code) "recurrence",
  fun K => PySem.W.keepIn K (.ref (He.ga K "recurrence")),
  fun K => decide (PySem.W.nsIn K mainGlobals "judge_programs" = some (some (.ref (He.ga K "judge_programs")))),
  fun K => VH.fnB K (He.ga K "judge_programs") [] .none,
  fun K => PySem.W.codeIn K ((VH.fdA K (He.ga K "judge_programs")).code) "judge_programs",
  fun K => PySem.W.keepIn K (.ref (He.ga K "judge_programs")),
  fun K => decide (PySem.W.nsIn K mainGlobals "judge_later" = some (some (.ref (He.ga K "judge_later")))),
  fun K => VH.fnB K (He.ga K "judge_later") [] .none,
  fun K => PySem.W.codeIn K ((VH.fdA K (He.ga K "judge_later")).code) "judge_later",
  fun K => PySem.W.keepIn K (.ref (He.ga K "judge_later")),
  fun K => decide (PySem.W.nsIn K mainGlobals "amount" = some (some (.ref (He.ga K "amount")))),
  fun K => VH.fnB K (He.ga K "amount") [] .none,
  fun K => PySem.W.codeIn K ((VH.fdA K (He.ga K "amount")).code) "amount",
  fun K => PySem.W.keepIn K (.ref (He.ga K "amount")),
  fun K => decide (PySem.W.nsIn K mainGlobals "amounts" = some (some (.ref (He.ga K "amounts")))),
  fun K => VH.fnB K (He.ga K "amounts") [] .none,
  fun K => PySem.W.codeIn K ((VH.fdA K (He.ga K "amounts")).code) "amounts",
  fun K => PySem.W.keepIn K (.ref (He.ga K "amounts")),
  fun K => decide (PySem.W.nsIn K mainGlobals "check_kinds" = some (some (.ref (He.ga K "check_kinds")))),
  fun K => VH.fnB K (He.ga K "check_kinds") [] .none,
  fun K => PySem.W.codeIn K ((VH.fdA K (He.ga K "check_kinds")).code) "check_kinds"]
def hc5 : List (VH.Frag → Bool) := [
  fun K => PySem.W.keepIn K (.ref (He.ga K "check_kinds")),
  fun K => decide (PySem.W.nsIn K mainGlobals "check_all" = some (some (.ref (He.ga K "check_all")))),
  fun K => VH.fnB K (He.ga K "check_all") [] .none,
  fun K => PySem.W.codeIn K ((VH.fdA K (He.ga K "check_all")).code) "check_all",
  fun K => PySem.W.keepIn K (.ref (He.ga K "check_all")),
  fun K => decide (PySem.W.nsIn K mainGlobals "few_rounds" = some (some (.ref (He.ga K "few_rounds")))),
  fun K => VH.fnB K (He.ga K "few_rounds") [] .none,
  fun K => PySem.W.codeIn K ((VH.fdA K (He.ga K "few_rounds")).code) "few_rounds",
  fun K => PySem.W.keepIn K (.ref (He.ga K "few_rounds")),
  fun K => decide (PySem.W.nsIn K mainGlobals "_law_alone" = some (some (.ref (He.ga K "_law_alone")))),
  fun K => VH.fnB K (He.ga K "_law_alone") [] .none,
  fun K => PySem.W.codeIn K ((VH.fdA K (He.ga K "_law_alone")).code) "_law_alone",
  fun K => PySem.W.keepIn K (.ref (He.ga K "_law_alone")),
  fun K => decide (PySem.W.findIn K (.ref (He.ga K "Program")) "__eq__" = some (some (.ref (He.ma K (He.ga K "Program") "__eq__")))),
  fun K => PySem.W.isFn K (.ref (He.ma K (He.ga K "Program") "__eq__")),
  fun K => VH.fnB K (He.ma K (He.ga K "Program") "__eq__") [] .none,
  fun K => PySem.W.codeIn K ((VH.fdA K (He.ma K (He.ga K "Program") "__eq__")).code) "Program.__eq__",
  fun K => PySem.W.keepIn K (.ref (He.ma K (He.ga K "Program") "__eq__")),
  fun K => decide (PySem.W.findIn K (.ref (He.ga K "Program")) "__add__" = some (some (.ref (He.ma K (He.ga K "Program") "__add__")))),
  fun K => PySem.W.isFn K (.ref (He.ma K (He.ga K "Program") "__add__")),
  fun K => VH.fnB K (He.ma K (He.ga K "Program") "__add__") [] .none,
  fun K => PySem.W.codeIn K ((VH.fdA K (He.ma K (He.ga K "Program") "__add__")).code) "Program.__add__",
  fun K => PySem.W.keepIn K (.ref (He.ma K (He.ga K "Program") "__add__")),
  fun K => decide (PySem.W.nsIn K mainGlobals "different_programs" = some (some (.ref (He.ga K "different_programs")))),
  fun K => VH.fnB K (He.ga K "different_programs") [] .none,
  fun K => PySem.W.codeIn K ((VH.fdA K (He.ga K "different_programs")).code) "different_programs",
  fun K => PySem.W.keepIn K (.ref (He.ga K "different_programs")),
  fun K => decide (PySem.W.nsIn K mainGlobals "_law_mixed" = some (some (.ref (He.ga K "_law_mixed")))),
  fun K => VH.fnB K (He.ga K "_law_mixed") [] .none,
  fun K => PySem.W.codeIn K ((VH.fdA K (He.ga K "_law_mixed")).code) "_law_mixed"]
def hc6 : List (VH.Frag → Bool) := [
  fun K => PySem.W.keepIn K (.ref (He.ga K "_law_mixed")),
  fun K => decide (PySem.W.nsIn K mainGlobals "law" = some (some (.ref (He.ga K "law")))),
  fun K => VH.fnB K (He.ga K "law") [] .none,
  fun K => PySem.W.codeIn K ((VH.fdA K (He.ga K "law")).code) "law",
  fun K => PySem.W.keepIn K (.ref (He.ga K "law")),
  fun K => PySem.W.plainGet K (He.ga K "Program") Str.empty,
  fun K => PySem.W.hasDictIn K (He.ga K "Program"),
  fun K => PySem.W.plainOver K (He.ga K "Program"),
  fun K => decide (PySem.W.findIn K (.ref (He.ga K "Program")) "__setattr__" = some (some (.builtin "object.__setattr__"))),
  fun K => PySem.W.makesIn K (He.ga K "Program"),
  fun K => PySem.W.keepIn K (.ref (He.ga K "Program")),
  fun K => decide (PySem.W.findIn K (.ref (He.ga K "Program")) "__init__" = some (some (.ref (He.ma K (He.ga K "Program") "__init__")))),
  fun K => decide (PySem.W.findIn K (.ref (He.ga K "Program")) "rounds" = some none),
  fun K => decide (PySem.W.findIn K (.ref (He.ga K "Program")) "__add__" = some (some (.ref (He.ma K (He.ga K "Program") "__add__")))),
  fun K => decide (PySem.W.findIn K (.ref (He.ga K "Program")) "__eq__" = some (some (.ref (He.ma K (He.ga K "Program") "__eq__")))),
  fun K => PySem.W.selfFirst K (He.ga K "Program"),
  fun K => decide (PySem.W.specialIn K (.builtin "object.__class__") "__get__" = some (some (.builtin "getset_descriptor.__get__"))),
  fun K => decide (PySem.W.takesIn K (.builtin "object.__class__") = some true),
  fun K => decide (PySem.W.findIn K (.ref (He.ga K "Program")) "__class__" = some (some (.builtin "object.__class__"))),
  fun K => decide (PySem.W.mroIn K (He.ga K "Program") (.type "object") = some true),
  fun K => decide (PySem.W.subIn K (.ref (He.ga K "Program")) (.ref (He.ga K "Program")) = some true),
  fun K => decide (PySem.W.typeIn K (.ref (He.ga K "Program")) = some (.type "type")),
  fun K => decide (PySem.W.subIn K (.ref (He.ga K "Program")) (.ref (He.ga K "Program")) = some true),
  fun K => decide (PySem.W.mroIn K (He.ga K "Program") (.type "object") = some true),
  fun K => decide (PySem.W.nsIn K mainGlobals "abs" = some none),
  fun K => decide (PySem.W.nsIn K mainGlobals "all" = some none),
  fun K => decide (PySem.W.nsIn K mainGlobals "bool" = some none),
  fun K => decide (PySem.W.nsIn K mainGlobals "enumerate" = some none),
  fun K => decide (PySem.W.nsIn K mainGlobals "int" = some none),
  fun K => decide (PySem.W.nsIn K mainGlobals "isinstance" = some none)]
def hc7 : List (VH.Frag → Bool) := [
  fun K => decide (PySem.W.nsIn K mainGlobals "len" = some none),
  fun K => decide (PySem.W.nsIn K mainGlobals "list" = some none),
  fun K => decide (PySem.W.nsIn K mainGlobals "range" = some none),
  fun K => decide (PySem.W.nsIn K mainGlobals "str" = some none),
  fun K => decide (PySem.W.nsIn K mainGlobals "tuple" = some none),
  fun K => PySem.W.isClsIn K (He.ga K "Program"),
  fun K => decide (PySem.W.subIn K (.type "NoneType") (.ref (He.ga K "Program")) = some false),
  fun K => decide (PySem.W.subIn K (.type "bool") (.ref (He.ga K "Program")) = some false),
  fun K => decide (PySem.W.subIn K (.type "int") (.ref (He.ga K "Program")) = some false),
  fun K => decide (PySem.W.subIn K (.type "str") (.ref (He.ga K "Program")) = some false),
  fun K => decide (PySem.W.subIn K (.type "tuple") (.ref (He.ga K "Program")) = some false),
  fun K => decide (PySem.W.subIn K (.type "list") (.ref (He.ga K "Program")) = some false),
  fun K => decide (PySem.W.subIn K (.type "dict") (.ref (He.ga K "Program")) = some false),
  fun K => decide (PySem.W.nsIn K mainGlobals "BadProgram" = some (some (.ref (He.ga K "BadProgram")))),
  fun K => decide (PySem.W.nsIn K mainGlobals "BadStart" = some (some (.ref (He.ga K "BadStart")))),
  fun K => decide (PySem.W.nsIn K mainGlobals "BadNumber" = some (some (.ref (He.ga K "BadNumber")))),
  fun K => decide (PySem.W.nsIn K mainGlobals "Mixed" = some (some (.ref (He.ga K "Mixed")))),
  fun K => decide (PySem.W.subIn K (.ref (He.ga K "BadProgram")) (.type "BaseException") = some true),
  fun K => decide (PySem.W.typeIn K (.ref (He.ga K "BadProgram")) = some (.type "type")),
  fun K => PySem.W.keepIn K (.ref (He.ga K "BadProgram")),
  fun K => PySem.W.isClsIn K (He.ga K "BadProgram"),
  fun K => decide (PySem.W.subIn K (.ref (He.ga K "BadProgram")) (.ref (He.ga K "BadProgram")) = some true),
  fun K => decide (PySem.W.subIn K (.ref (He.ga K "BadStart")) (.ref (He.ga K "BadProgram")) = some false),
  fun K => decide (PySem.W.subIn K (.ref (He.ga K "BadNumber")) (.ref (He.ga K "BadProgram")) = some false),
  fun K => decide (PySem.W.subIn K (.ref (He.ga K "Mixed")) (.ref (He.ga K "BadProgram")) = some false),
  fun K => VH.excB K (He.ga K "BadProgram") [.ref (VH.mroAt K (He.ga K "BadProgram") 1), .type "ValueError", .type "Exception", .type "BaseException", .type "object"],
  fun K => decide (PySem.W.findIn K (.ref (He.ga K "BadProgram")) "__setattr__" = some (some (.builtin "object.__setattr__"))),
  fun K => decide (PySem.W.findIn K (.ref (He.ga K "BadProgram")) "place" = some none),
  fun K => decide (PySem.W.findIn K (.ref (He.ga K "BadProgram")) "__init__" = some (some (.ref (He.ma K (He.ga K "BadProgram") "__init__")))),
  fun K => decide (PySem.W.typeIn K (.ref (He.ma K (He.ga K "BadProgram") "__init__")) = some (.type "function"))]
def hc8 : List (VH.Frag → Bool) := [
  fun K => decide (PySem.W.ks_superIn K (He.ga K "BadProgram") (He.ga K "BadProgram") "__init__" = some (some (.builtin "ValueError.__init__"))),
  fun K => decide (PySem.W.subIn K (.ref (He.ga K "BadProgram")) (.type "ValueError") = some true),
  fun K => decide (PySem.W.mroIn K (He.ga K "BadProgram") (.ref (He.ga K "BadProgram")) = some true),
  fun K => VH.ksB K (He.ma K (He.ga K "BadProgram") "__init__"),
  fun K => PySem.W.codeIn K (.ref (VH.refV (VH.fdA K (He.ma K (He.ga K "BadProgram") "__init__")).code)) "BadProgram.__init__",
  fun K => VH.codB K (VH.refV (VH.fdA K (He.ma K (He.ga K "BadProgram") "__init__")).code),
  fun K => decide ((VH.fldA K (VH.refV (VH.fdA K (He.ma K (He.ga K "BadProgram") "__init__")).code))[2]? = some (.str (VH.strV ((VH.fldA K (VH.refV (VH.fdA K (He.ma K (He.ga K "BadProgram") "__init__")).code)).toList.getD 2 .none)) (VH.tokV ((VH.fldA K (VH.refV (VH.fdA K (He.ma K (He.ga K "BadProgram") "__init__")).code)).toList.getD 2 .none)))),
  fun K => (((PySem.Challenge.rw_weirlines_k18_refused_program_asks).prog.main.file : Str) == (VH.strV ((VH.fldA K (VH.refV (VH.fdA K (He.ma K (He.ga K "BadProgram") "__init__")).code)).toList.getD 2 .none))),
  fun K => VH.celB K (VH.ccA K (He.ma K (He.ga K "BadProgram") "__init__")) (He.ga K "BadProgram"),
  fun K => decide (PySem.W.nsIn K mainGlobals "super" = some none),
  fun K => decide (PySem.W.nsIn K PySem.cStatics "thirdparty.any" = some none),
  fun K => decide (PySem.W.subIn K (.ref (He.ga K "BadStart")) (.type "BaseException") = some true),
  fun K => decide (PySem.W.typeIn K (.ref (He.ga K "BadStart")) = some (.type "type")),
  fun K => PySem.W.keepIn K (.ref (He.ga K "BadStart")),
  fun K => PySem.W.isClsIn K (He.ga K "BadStart"),
  fun K => decide (PySem.W.subIn K (.ref (He.ga K "BadProgram")) (.ref (He.ga K "BadStart")) = some false),
  fun K => decide (PySem.W.subIn K (.ref (He.ga K "BadStart")) (.ref (He.ga K "BadStart")) = some true),
  fun K => decide (PySem.W.subIn K (.ref (He.ga K "BadNumber")) (.ref (He.ga K "BadStart")) = some false),
  fun K => decide (PySem.W.subIn K (.ref (He.ga K "Mixed")) (.ref (He.ga K "BadStart")) = some false),
  fun K => PySem.W.excIn K (He.ga K "BadStart") ([.type "ValueError", .type "Exception", .type "BaseException", .type "object"] : List Value) "ValueError.__new__",
  fun K => decide (PySem.W.subIn K (.ref (He.ga K "BadNumber")) (.type "BaseException") = some true),
  fun K => decide (PySem.W.typeIn K (.ref (He.ga K "BadNumber")) = some (.type "type")),
  fun K => PySem.W.keepIn K (.ref (He.ga K "BadNumber")),
  fun K => PySem.W.excIn K (He.ga K "BadNumber") ([.type "ValueError", .type "Exception", .type "BaseException", .type "object"] : List Value) "ValueError.__new__",
  fun K => decide (PySem.W.subIn K (.ref (He.ga K "Mixed")) (.type "BaseException") = some true),
  fun K => decide (PySem.W.typeIn K (.ref (He.ga K "Mixed")) = some (.type "type")),
  fun K => PySem.W.keepIn K (.ref (He.ga K "Mixed")),
  fun K => PySem.W.isClsIn K (He.ga K "Mixed"),
  fun K => decide (PySem.W.subIn K (.ref (He.ga K "BadProgram")) (.ref (He.ga K "Mixed")) = some false),
  fun K => decide (PySem.W.subIn K (.ref (He.ga K "BadStart")) (.ref (He.ga K "Mixed")) = some false)]
def hc9 : List (VH.Frag → Bool) := [
  fun K => decide (PySem.W.subIn K (.ref (He.ga K "BadNumber")) (.ref (He.ga K "Mixed")) = some false),
  fun K => decide (PySem.W.subIn K (.ref (He.ga K "Mixed")) (.ref (He.ga K "Mixed")) = some true),
  fun K => PySem.W.excIn K (He.ga K "Mixed") ([.type "ValueError", .type "Exception", .type "BaseException", .type "object"] : List Value) "ValueError.__new__",
  fun K => decide (PySem.W.findIn K (.ref (He.ga K "BadProgram")) "__getattribute__" = some (some (.builtin "BaseException.__getattribute__"))),
  fun K => decide (PySem.W.findIn K (.ref (He.ga K "BadProgram")) "__getattr__" = some none),
  fun K => PySem.W.hasDictIn K (He.ga K "BadProgram"),
  fun K => decide (PySem.W.findIn K (.ref (He.ga K "BadProgram")) "place" = some none),
  fun K => decide (PySem.W.nsIn K mainGlobals "MOST_ROUNDS" = some (some (.int 12 (VH.tokO (PySem.W.nsIn K mainGlobals "MOST_ROUNDS"))))),
  fun K => decide (PySem.W.nsIn K mainGlobals "RIGHT" = some (some (.ref (He.ga K "RIGHT")))),
  fun K => VH.tupB K (He.ga K "RIGHT") #[.str "right" (VH.tokAt K (He.ga K "RIGHT") 0)],
  fun K => decide (PySem.W.nsIn K mainGlobals "LEFT" = some (some (.ref (He.ga K "LEFT")))),
  fun K => VH.tupB K (He.ga K "LEFT") #[.str "left" (VH.tokAt K (He.ga K "LEFT") 0)],
  fun K => decide (PySem.W.nsIn K mainGlobals "MOST_EVERY" = some (some (.int 4 (VH.tokO (PySem.W.nsIn K mainGlobals "MOST_EVERY"))))),
  fun K => decide (PySem.W.nsIn K mainGlobals "MOST_LENGTH" = some (some (.int 400 (VH.tokO (PySem.W.nsIn K mainGlobals "MOST_LENGTH"))))),
  fun K => decide (PySem.W.nsIn K mainGlobals "MOST_LAPS" = some (some (.int 200 (VH.tokO (PySem.W.nsIn K mainGlobals "MOST_LAPS"))))),
  fun K => decide (PySem.W.nsIn K mainGlobals "STARTS" = some (some (.ref (He.ga K "STARTS")))),
  fun K => VH.tupB K (He.ga K "STARTS") #[.str "ones" (VH.tokAt K (He.ga K "STARTS") 0), .str "first" (VH.tokAt K (He.ga K "STARTS") 1), .str "last" (VH.tokAt K (He.ga K "STARTS") 2), .str "stairs" (VH.tokAt K (He.ga K "STARTS") 3)],
  fun K => decide (PySem.W.nsIn K mainGlobals "MOST_KINDS" = some (some (.int 5 (VH.tokO (PySem.W.nsIn K mainGlobals "MOST_KINDS"))))),
  fun K => decide (PySem.W.nsIn K mainGlobals "MOST_LONG" = some (some (.int 3 (VH.tokO (PySem.W.nsIn K mainGlobals "MOST_LONG")))))]
def hcs : List (List (VH.Frag → Bool)) := [hc0, hc1, hc2, hc3, hc4, hc5, hc6, hc7, hc8, hc9]
def hfs : List (VH.Frag → Addr) := [
  fun K => (He.ga K "_law_draw"),
  fun K => (He.ga K "_law_rounds"),
  fun K => (He.ga K "is_whole"),
  fun K => (He.ga K "is_round"),
  fun K => (He.ma K (He.ga K "Program") "__init__"),
  fun K => (He.ga K "check_program"),
  fun K => (He.ga K "check_length"),
  fun K => (He.ga K "check_basin"),
  fun K => (He.ga K "gives"),
  fun K => (He.ga K "got"),
  fun K => (He.ga K "is_even_handed"),
  fun K => (He.ga K "stretches"),
  fun K => (He.ga K "check_laps"),
  fun K => (He.ga K "left_behind"),
  fun K => (He.ga K "judge_laps"),
  fun K => (He.ga K "is_part"),
  fun K => (He.ga K "common"),
  fun K => (He.ga K "part"),
  fun K => (He.ga K "as_part"),
  fun K => (He.ga K "check_volumes"),
  fun K => (He.ga K "lapped"),
  fun K => (He.ga K "lap_limit"),
  fun K => (He.ga K "moved"),
  fun K => (He.ga K "lap_recurrence"),
  fun K => (He.ga K "_law_asked"),
  fun K => (He.ga K "turned_back"),
  fun K => (He.ga K "straightened"),
  fun K => (He.ga K "check_programs"),
  fun K => (He.ga K "tidy_program"),
  fun K => (He.ga K "judge_even"),
  fun K => (He.ga K "check_start"),
  fun K => (He.ga K "recurrence"),
  fun K => (He.ga K "judge_programs"),
  fun K => (He.ga K "judge_later"),
  fun K => (He.ga K "amount"),
  fun K => (He.ga K "amounts"),
  fun K => (He.ga K "check_kinds"),
  fun K => (He.ga K "check_all"),
  fun K => (He.ga K "few_rounds"),
  fun K => (He.ga K "_law_alone"),
  fun K => (He.ma K (He.ga K "Program") "__eq__"),
  fun K => (He.ma K (He.ga K "Program") "__add__"),
  fun K => (He.ga K "different_programs"),
  fun K => (He.ga K "_law_mixed"),
  fun K => (He.ga K "law"),
  fun K => (He.ma K (He.ga K "BadProgram") "__init__")]
def hts : List VH.FnT := [
  VH.ft "_law_draw" "_law_draw" (defArgs s__law_draw) (defBody s__law_draw) (defScope s__law_draw),
  VH.ft "_law_rounds" "_law_rounds" (defArgs s__law_rounds) (defBody s__law_rounds) (defScope s__law_rounds),
  VH.ft "is_whole" "is_whole" (defArgs s_is_whole) (defBody s_is_whole) (defScope s_is_whole),
  VH.ft "is_round" "is_round" (defArgs s_is_round) (defBody s_is_round) (defScope s_is_round),
  VH.ft "__init__" "Program.__init__" (defArgs s_Program___init__) (defBody s_Program___init__) (defScope s_Program___init__),
  VH.ft "check_program" "check_program" (defArgs s_check_program) (defBody s_check_program) (defScope s_check_program),
  VH.ft "check_length" "check_length" (defArgs s_check_length) (defBody s_check_length) (defScope s_check_length),
  VH.ft "check_basin" "check_basin" (defArgs s_check_basin) (defBody s_check_basin) (defScope s_check_basin),
  VH.ft "gives" "gives" (defArgs s_gives) (defBody s_gives) (defScope s_gives),
  VH.ft "got" "got" (defArgs s_got) (defBody s_got) (defScope s_got),
  VH.ft "is_even_handed" "is_even_handed" (defArgs s_is_even_handed) (defBody s_is_even_handed) (defScope s_is_even_handed),
  VH.ft "stretches" "stretches" (defArgs s_stretches) (defBody s_stretches) (defScope s_stretches),
  VH.ft "check_laps" "check_laps" (defArgs s_check_laps) (defBody s_check_laps) (defScope s_check_laps),
  VH.ft "left_behind" "left_behind" (defArgs s_left_behind) (defBody s_left_behind) (defScope s_left_behind),
  VH.ft "judge_laps" "judge_laps" (defArgs s_judge_laps) (defBody s_judge_laps) (defScope s_judge_laps),
  VH.ft "is_part" "is_part" (defArgs s_is_part) (defBody s_is_part) (defScope s_is_part),
  VH.ft "common" "common" (defArgs s_common) (defBody s_common) (defScope s_common),
  VH.ft "part" "part" (defArgs s_part) (defBody s_part) (defScope s_part),
  VH.ft "as_part" "as_part" (defArgs s_as_part) (defBody s_as_part) (defScope s_as_part),
  VH.ft "check_volumes" "check_volumes" (defArgs s_check_volumes) (defBody s_check_volumes) (defScope s_check_volumes),
  VH.ft "lapped" "lapped" (defArgs s_lapped) (defBody s_lapped) (defScope s_lapped),
  VH.ft "lap_limit" "lap_limit" (defArgs s_lap_limit) (defBody s_lap_limit) (defScope s_lap_limit),
  VH.ft "moved" "moved" (defArgs s_moved) (defBody s_moved) (defScope s_moved),
  VH.ft "lap_recurrence" "lap_recurrence" (defArgs s_lap_recurrence) (defBody s_lap_recurrence) (defScope s_lap_recurrence),
  VH.ft "_law_asked" "_law_asked" (defArgs s__law_asked) (defBody s__law_asked) (defScope s__law_asked),
  VH.ft "turned_back" "turned_back" (defArgs s_turned_back) (defBody s_turned_back) (defScope s_turned_back),
  VH.ft "straightened" "straightened" (defArgs s_straightened) (defBody s_straightened) (defScope s_straightened),
  VH.ft "check_programs" "check_programs" (defArgs s_check_programs) (defBody s_check_programs) (defScope s_check_programs),
  VH.ft "tidy_program" "tidy_program" (defArgs s_tidy_program) (defBody s_tidy_program) (defScope s_tidy_program),
  VH.ft "judge_even" "judge_even" (defArgs s_judge_even) (defBody s_judge_even) (defScope s_judge_even),
  VH.ft "check_start" "check_start" (defArgs s_check_start) (defBody s_check_start) (defScope s_check_start),
  VH.ft "recurrence" "recurrence" (defArgs s_recurrence) (defBody s_recurrence) (defScope s_recurrence),
  VH.ft "judge_programs" "judge_programs" (defArgs s_judge_programs) (defBody s_judge_programs) (defScope s_judge_programs),
  VH.ft "judge_later" "judge_later" (defArgs s_judge_later) (defBody s_judge_later) (defScope s_judge_later),
  VH.ft "amount" "amount" (defArgs s_amount) (defBody s_amount) (defScope s_amount),
  VH.ft "amounts" "amounts" (defArgs s_amounts) (defBody s_amounts) (defScope s_amounts),
  VH.ft "check_kinds" "check_kinds" (defArgs s_check_kinds) (defBody s_check_kinds) (defScope s_check_kinds),
  VH.ft "check_all" "check_all" (defArgs s_check_all) (defBody s_check_all) (defScope s_check_all),
  VH.ft "few_rounds" "few_rounds" (defArgs s_few_rounds) (defBody s_few_rounds) (defScope s_few_rounds),
  VH.ft "_law_alone" "_law_alone" (defArgs s__law_alone) (defBody s__law_alone) (defScope s__law_alone),
  VH.ft "__eq__" "Program.__eq__" (defArgs s_Program___eq__) (defBody s_Program___eq__) (defScope s_Program___eq__),
  VH.ft "__add__" "Program.__add__" (defArgs s_Program___add__) (defBody s_Program___add__) (defScope s_Program___add__),
  VH.ft "different_programs" "different_programs" (defArgs s_different_programs) (defBody s_different_programs) (defScope s_different_programs),
  VH.ft "_law_mixed" "_law_mixed" (defArgs s__law_mixed) (defBody s__law_mixed) (defScope s__law_mixed),
  VH.ft "law" "law" (defArgs s_law) (defBody s_law) (defScope s_law),
  VH.ft "__init__" "BadProgram.__init__" (defArgs (inClass (top 20) 0)) (defBody (inClass (top 20) 0)) (defScope (inClass (top 20) 0))]
def hN : Nat := 2500
abbrev Says (K : VH.Frag) : Prop := VH.SaysH hcs hfs hts K
abbrev hk : PySem.W.Hook := VH.hookH hN hcs hfs hts
def hob (s : PySem.W.SharedT) : VH.AlH := VH.obsH hN hcs hfs (HandSHeadRun.getT s)
theorem hob_eq (s : PySem.W.SharedT) : hob s = hk.obs s.abs := VH.obsH_eq s
theorem hrunE2 (w : World) : HandSHeadRun.RunE2 hR hq 8192 ["Evidence", "part", "Recurrence", "LapsDone", "LapsLeft", "LapRecurrence", "EvenAlways", "Parted", "SameAlways", "FirstUnlike", "Later", "FewRounds", "Program"] w := by
  intro os
  kernel_rfl
theorem hrunE3a (w : World) : HandSHeadRun.RunE3a hR hq 8192 ["Evidence", "part", "Recurrence", "LapsDone", "LapsLeft", "LapRecurrence", "EvenAlways", "Parted", "SameAlways", "FirstUnlike", "Later", "FewRounds", "Program"] w := by
  intro os
  kernel_rfl
theorem hrunE3b (w : World) : HandSHeadRun.RunE3b hR hq 8192 ["Evidence", "part", "Recurrence", "LapsDone", "LapsLeft", "LapRecurrence", "EvenAlways", "Parted", "SameAlways", "FirstUnlike", "Later", "FewRounds", "Program"] w := by
  intro os
  kernel_rfl
theorem hrunE3c (w : World) : HandSHeadRun.RunE3c hR hq 8192 ["Evidence", "part", "Recurrence", "LapsDone", "LapsLeft", "LapRecurrence", "EvenAlways", "Parted", "SameAlways", "FirstUnlike", "Later", "FewRounds", "Program"] w := by
  intro os
  kernel_rfl
theorem hrunE4 (w : World) : HandSHeadRun.RunE4 hR hq 8192 ["Evidence", "part", "Recurrence", "LapsDone", "LapsLeft", "LapRecurrence", "EvenAlways", "Parted", "SameAlways", "FirstUnlike", "Later", "FewRounds", "Program"] w := by
  intro os
  kernel_rfl
open PySem.W in
theorem hplains : plainsOf hq (looseW hq ["Evidence", "part", "Recurrence", "LapsDone", "LapsLeft", "LapRecurrence", "EvenAlways", "Parted", "SameAlways", "FirstUnlike", "Later", "FewRounds", "Program"]) = [] := by kernel_rfl
theorem hrunE3 (w : World) : HandSHeadRun.RunE3 hR hq 8192 ["Evidence", "part", "Recurrence", "LapsDone", "LapsLeft", "LapRecurrence", "EvenAlways", "Parted", "SameAlways", "FirstUnlike", "Later", "FewRounds", "Program"] w := HandSHeadRun.run_E3 (hrunE3a w) (hrunE3b w) (hrunE3c w)
theorem hrunE1 (w : World) : HandSHeadRun.RunE1 hR hq 8192 ["Evidence", "part", "Recurrence", "LapsDone", "LapsLeft", "LapRecurrence", "EvenAlways", "Parted", "SameAlways", "FirstUnlike", "Later", "FewRounds", "Program"] w := HandSHeadRun.run_E1none hplains (hrunE3a w)
theorem hrunD (w : World) : HandSHeadRun.RunD hR hk hob 8192 w := by
  intro os
  kernel_rfl
theorem hrun (w : World) : HandSHeadRun.RunEq hR hq hk hob 8192 ["Evidence", "part", "Recurrence", "LapsDone", "LapsLeft", "LapRecurrence", "EvenAlways", "Parted", "SameAlways", "FirstUnlike", "Later", "FewRounds", "Program"] w := HandSHeadRun.run_five (hrunE1 w) (hrunE2 w) (hrunE3 w) (hrunE4 w) (hrunD w)
end K18
end

section
namespace VL
open PySem (Str)

abbrev SZ : Nat := 16777216

inductive D where
  | non | bl (b : Bool) | int (i : Int) | str (s : Str)
  | tup (xs : List D) | lst (xs : List D) | scr (xs : List Int)
  | ins (c : Nat) (fs : List (Str × D))
  | dic (kvs : List (D × D))
  | sti (xs : List Int)
  | dct (kvs : List (List D × D))
  deriving Inhabited

inductive Slot where
  | no | sh (d : D) | own (d : D) | io (d : D)
abbrev SEnv := List Slot

inductive Out (α : Type) where
  | ok (a : α) (ρ : SEnv) | exc (c : Nat) (fs : List (Str × D)) (ρ : SEnv) | bad

@[inline] def Out.bind {α β : Type} (o : Out α) (f : α → SEnv → Out β) : Out β := match o with
  | .ok a ρ => f a ρ
  | .exc c fs ρ => .exc c fs ρ
  | .bad => .bad
@[simp] theorem Out.bind_ok {α β : Type} (a : α) (ρ : SEnv) (f : α → SEnv → Out β) : (Out.ok a ρ).bind f = f a ρ := rfl
@[simp] theorem Out.bind_exc {α β : Type} (c : Nat) (fs : List (Str × D)) (ρ : SEnv) (f : α → SEnv → Out β) : (Out.exc c fs ρ : Out α).bind f = .exc c fs ρ := rfl
@[simp] theorem Out.bind_bad {α β : Type} (f : α → SEnv → Out β) : (Out.bad : Out α).bind f = .bad := rfl
def Out.opt {α : Type} (o : Option α) (ρ : SEnv) : Out α := match o with
  | some a => .ok a ρ
  | none => .bad
@[simp] theorem Out.opt_some {α : Type} (a : α) (ρ : SEnv) : Out.opt (some a) ρ = .ok a ρ := rfl
@[simp] theorem Out.opt_none {α : Type} (ρ : SEnv) : Out.opt (none : Option α) ρ = .bad := rfl

abbrev SE := SEnv → Out D
abbrev SA := SEnv → Out (List D)
abbrev ST := SEnv → Out Bool
inductive Fl where
  | nx | rt (d : D) | ro (d : D) | bk | ct
abbrev SS := SEnv → Out Fl

inductive Ret where
  | val (d : D) (io : Option D) | exn (c : Nat) (fs : List (Str × D))
abbrev FnS := List D → Option Ret

mutual
def plainD : D → Bool
  | .non | .bl _ | .int _ => true
  | .str x => x.cps.all (· < 0x110000)
  | .tup xs => plainDs xs
  | .lst xs => plainDs xs
  | .ins _ _ | .dic _ | .sti _ | .scr _ | .dct _ => false
def plainDs : List D → Bool
  | [] => true
  | x :: xs => plainD x && plainDs xs
end
mutual
def depD : D → Nat
  | .tup xs => depDs xs + 1
  | .lst xs => depDs xs + 1
  | _ => 0
def depDs : List D → Nat
  | [] => 0
  | x :: xs => max (depD x) (depDs xs)
end
def shp (d : D) : Bool := plainD d && decide (depD d ≤ 60)
mutual
def eqD : D → D → Bool
  | .non, .non => true
  | .bl a, .bl b => a == b
  | .bl a, .int j => (if a then 1 else 0) == j
  | .int i, .bl b => i == (if b then 1 else 0)
  | .int i, .int j => i == j
  | .str x, .str y => x == y
  | .lst xs, .lst ys => eqDs xs ys
  | .tup xs, .tup ys => eqDs xs ys
  | _, _ => false
def eqDs : List D → List D → Bool
  | [], [] => true
  | x :: xs, y :: ys => eqD x y && eqDs xs ys
  | _, _ => false
end

def oAdd : D → D → Option D
  | .int i, .int j => some (.int (i + j))
  | .lst a, .lst b => if a.length + b.length ≤ SZ then some (.lst (a ++ b)) else none
  | .tup a, .tup b => if a.length + b.length ≤ SZ then some (.tup (a ++ b)) else none
  | .str a, .str b => if a.length + b.length ≤ SZ then some (.str (a ++ b)) else none
  | _, _ => none
def oSub : D → D → Option D
  | .int i, .int j => some (.int (i - j))
  | _, _ => none
def mulOk (i j : Int) : Bool := decide (i.natAbs.log2 + j.natAbs.log2 < 1000000)
def oMul : D → D → Option D
  | .int i, .int j => if mulOk i j then some (.int (i * j)) else none
  | .lst a, .int k => if 0 ≤ k ∧ k < 4294967296 ∧ a.length * k.toNat ≤ SZ then some (.lst (List.replicate k.toNat a).flatten) else none
  | _, _ => none
def oMulT : D → D → Option D
  | .tup a, .int k => if a ≠ [] ∧ 2 ≤ k ∧ k ≤ 1000 ∧ a.length ≤ 1000 then some (.tup (List.replicate k.toNat a).flatten) else none
  | _, _ => none
def divOk (i j : Int) : Bool := decide (0 < j) && (decide (j.natAbs.log2 < 9000) || decide (i.natAbs.log2 ≤ j.natAbs.log2 + 4400))
def oDiv : D → D → Option D
  | .int i, .int j => if divOk i j then some (.int (i / j)) else none
  | _, _ => none
def oMod : D → D → Option D
  | .int i, .int j => if 0 < j then some (.int (i % j)) else none
  | _, _ => none
def oPow : D → D → Option D
  | .int i, .int j => if 0 ≤ j ∧ j ≤ 1000000 ∧ i.natAbs < 2 ^ 64 then some (.int (i ^ j.toNat)) else none
  | _, _ => none
def oShl : D → D → Option D
  | .int i, .int j => if 0 ≤ j ∧ j ≤ 1000000 ∧ i.natAbs.log2 ≤ 1000000 then some (.int (i * 2 ^ j.toNat)) else none
  | _, _ => none
def oEq (x y : D) : Option D := if shp x && shp y then some (.bl (eqD x y)) else none
def oNe (x y : D) : Option D := if shp x && shp y then some (.bl (!eqD x y)) else none
def oEqS : D → D → Option D
  | .scr ns, .lst [] => some (.bl ns.isEmpty)
  | _, _ => none
def oNeS : D → D → Option D
  | .scr ns, .lst [] => some (.bl (!ns.isEmpty))
  | _, _ => none
def oLt : D → D → Option D
  | .int i, .int j => some (.bl (decide (i < j)))
  | _, _ => none
def oLe : D → D → Option D
  | .int i, .int j => some (.bl (decide (i ≤ j)))
  | _, _ => none
def oGt : D → D → Option D
  | .int i, .int j => some (.bl (decide (j < i)))
  | _, _ => none
def oGe : D → D → Option D
  | .int i, .int j => some (.bl (decide (j ≤ i)))
  | _, _ => none
def isNon : D → Bool
  | .non => true
  | _ => false
def oIsN (x y : D) : Option D := if isNon y then some (.bl (isNon x)) else none
def oIsNotN (x y : D) : Option D := if isNon y then some (.bl (!isNon x)) else none
def flatD : D → Bool
  | .non | .bl _ | .int _ | .str _ => true
  | _ => false
def oIn : D → D → Option D
  | x, .lst xs => if shp x && shp (.lst xs) then some (.bl (xs.any fun y => eqD y x)) else none
  | x, .tup xs => if shp x && shp (.tup xs) then some (.bl (xs.any fun y => eqD y x)) else none
  | _, _ => none
def oNotIn : D → D → Option D
  | x, .lst xs => if shp x && shp (.lst xs) then some (.bl (!xs.any fun y => eqD y x)) else none
  | x, .tup xs => if shp x && shp (.tup xs) then some (.bl (!xs.any fun y => eqD y x)) else none
  | _, _ => none
def keyD : D → Bool
  | .int _ | .str _ => true
  | _ => false
def lookD (kvs : List (D × D)) (k : D) : Option D := (kvs.find? fun kv => eqD kv.1 k).map (·.2)
def putD (kvs : List (D × D)) (k v : D) : List (D × D) :=
  if (kvs.any fun kv => eqD kv.1 k) = true then kvs.map (fun kv => if eqD kv.1 k = true then (kv.1, v) else kv) else kvs ++ [(k, v)]
def oInK : D → D → Option D
  | k, .dic kvs => if keyD k && kvs.all (fun kv => keyD kv.1) then some (.bl (lookD kvs k).isSome) else none
  | _, _ => none
def oNotInK : D → D → Option D
  | k, .dic kvs => if keyD k && kvs.all (fun kv => keyD kv.1) then some (.bl (!(lookD kvs k).isSome)) else none
  | _, _ => none
def nthD (xs : List D) (i : Int) : Option D :=
  if 0 ≤ i then xs[i.toNat]? else if 0 ≤ (xs.length : Int) + i then xs[((xs.length : Int) + i).toNat]? else none
def oIdx : D → D → Option D
  | .lst xs, .int i => nthD xs i
  | .tup xs, .int i => nthD xs i
  | .scr ns, .int i => nthD (ns.map .int) i
  | _, _ => none
def oGet : D → D → Option D
  | .dic kvs, k => if keyD k && kvs.all (fun kv => keyD kv.1) then lookD kvs k else none
  | _, _ => none

def lookT (kvs : List (List D × D)) (ks : List D) : Option D := (kvs.find? fun kv => eqDs kv.1 ks).map (·.2)
def eC (d : D) : SE := fun ρ => .ok d ρ
def eVar (i : Nat) : SE := fun ρ => match ρ[i]? with
  | some (.sh d) => .ok d ρ
  | _ => .bad
def eFz (i : Nat) : SE := fun ρ => match ρ[i]? with
  | some (.own d) => .ok d (ρ.set i (.sh d))
  | _ => .bad
def eBw (i : Nat) : SE := fun ρ => match ρ[i]? with
  | some (.own d) => .ok d ρ
  | some (.io d) => .ok d ρ
  | _ => .bad
def eMv (i : Nat) : SE := fun ρ => match ρ[i]? with
  | some (.own d) => .ok d (ρ.set i .no)
  | _ => .bad
def eLk (i : Nat) : SE := fun ρ => match ρ[i]? with
  | some (.sh d) => .ok d ρ
  | some (.own d) => .ok d ρ
  | some (.io d) => .ok d ρ
  | _ => .bad
def eGv (i : Nat) : SE := fun ρ => match ρ[i]? with
  | some (.sh d) => .ok d ρ
  | some (.own d) => .ok d (ρ.set i (.sh d))
  | _ => .bad
def aNil : SA := fun ρ => .ok [] ρ
def aCons (e : SE) (r : SA) : SA := fun ρ => (e ρ).bind fun x ρ => (r ρ).bind fun xs ρ => .ok (x :: xs) ρ
def itemsD : D → Option (List D)
  | .lst xs => some xs
  | .tup xs => some xs
  | .scr ns => some (ns.map .int)
  | _ => none
def aStar (e : SE) (r : SA) : SA := fun ρ => (e ρ).bind fun x ρ => (Out.opt (itemsD x) ρ).bind fun xs ρ => (r ρ).bind fun ys ρ => .ok (xs ++ ys) ρ
def eTup (a : SA) : SE := fun ρ => (a ρ).bind fun xs ρ => if xs.length ≤ SZ then .ok (.tup xs) ρ else .bad
def eLst (a : SA) : SE := fun ρ => (a ρ).bind fun xs ρ => if xs.length ≤ SZ then .ok (.lst xs) ρ else .bad
def eOp (op : D → D → Option D) (a b : SE) : SE := fun ρ => (a ρ).bind fun x ρ => (b ρ).bind fun y ρ => .opt (op x y) ρ
def eUn (op : D → Option D) (a : SE) : SE := fun ρ => (a ρ).bind fun x ρ => .opt (op x) ρ
def oNeg : D → Option D
  | .int i => some (.int (-i))
  | _ => none
def eCh (op op' : D → D → Option D) (a b c : SE) : SE := fun ρ => (a ρ).bind fun x ρ => (b ρ).bind fun y ρ => (Out.opt (op x y) ρ).bind fun z ρ => match z with
  | .bl true => (c ρ).bind fun w ρ => .opt (op' y w) ρ
  | .bl false => .ok (.bl false) ρ
  | _ => .bad
def eAnd (a b : SE) : SE := fun ρ => (a ρ).bind fun x ρ => match x with
  | .bl true => b ρ
  | .bl false => .ok (.bl false) ρ
  | _ => .bad
def eOr (a b : SE) : SE := fun ρ => (a ρ).bind fun x ρ => match x with
  | .bl true => .ok (.bl true) ρ
  | .bl false => b ρ
  | _ => .bad
def oNot : D → Option D
  | .bl b => some (.bl (!b))
  | _ => none
def truD : D → Option Bool
  | .non => some false
  | .bl b => some b
  | .int i => some (i != 0)
  | .str y => if y.length ≤ SZ then some ((y.length : Int) != 0) else none
  | .lst xs => some (!xs.isEmpty)
  | .tup xs => some (!xs.isEmpty)
  | .scr xs => some (!xs.isEmpty)
  | _ => none
def tE (e : SE) : ST := fun ρ => (e ρ).bind fun x ρ => match x with
  | .bl b => .ok b ρ
  | _ => .bad
def tTru (e : SE) : ST := fun ρ => (e ρ).bind fun x ρ => .opt (truD x) ρ
def tNot (t : ST) : ST := fun ρ => (t ρ).bind fun b ρ => .ok (!b) ρ
def tAnd (t u : ST) : ST := fun ρ => (t ρ).bind fun b ρ => if b then u ρ else .ok false ρ
def tOr (t u : ST) : ST := fun ρ => (t ρ).bind fun b ρ => if b then .ok true ρ else u ρ
def tIfT (t u v : ST) : ST := fun ρ => (t ρ).bind fun b ρ => if b then u ρ else v ρ
def eIf (t : ST) (a b : SE) : SE := fun ρ => (t ρ).bind fun c ρ => if c then a ρ else b ρ
def eGetK (a b c : SE) : SE := fun ρ => (a ρ).bind fun x ρ => match x with
  | .dic kvs => (b ρ).bind fun k ρ => (c ρ).bind fun z ρ => if keyD k && kvs.all (fun kv => keyD kv.1) then .ok ((lookD kvs k).getD z) ρ else .bad
  | _ => .bad
def eGetT (a b c : SE) : SE := fun ρ => (a ρ).bind fun x ρ => match x with
  | .dct kvs => (b ρ).bind fun k ρ => (c ρ).bind fun z ρ => match k with
    | .tup ks => if ks.all keyD then .ok ((lookT kvs ks).getD z) ρ else .bad
    | _ => .bad
  | _ => .bad
def oRevT : D → Option D
  | .tup xs => some (.tup xs.reverse)
  | _ => none
def oRevL : D → Option D
  | .lst xs => some (.lst xs.reverse)
  | .scr ns => some (.lst (ns.map D.int).reverse)
  | _ => none
def eCall (fn : FnS) (a : SA) : SE := fun ρ => (a ρ).bind fun ds ρ => match fn ds with
  | some (.val d _) => .ok d ρ
  | some (.exn c fs) => .exc c fs ρ
  | none => .bad
def aloneAt (ρ : SEnv) (i : Nat) : Bool := match ρ[i]? with
  | some (.own _) => true
  | some (.io _) => true
  | _ => false
def eCallIo (fn : FnS) (i : Nat) (a : SA) : SE := fun ρ => if aloneAt ρ i then (a ρ).bind fun ds ρ => match ρ[i]? with
  | some (.own d0) => (match fn (d0 :: ds) with
    | some (.val d (some d1)) => .ok d (ρ.set i (.own d1))
    | some (.exn c fs) => .exc c fs (ρ.set i .no)
    | _ => .bad)
  | some (.io d0) => (match fn (d0 :: ds) with
    | some (.val d (some d1)) => .ok d (ρ.set i (.io d1))
    | some (.exn c fs) => .exc c fs (ρ.set i .no)
    | _ => .bad)
  | _ => .bad
  else .bad
def aDef (a : SA) (dfl : List D) : SA := fun ρ => (a ρ).bind fun ds ρ => .ok (ds ++ dfl) ρ
def eMeth (m : Str) (tab : Nat → Option FnS) (o : SE) (a : SA) : SE := fun ρ => (o ρ).bind fun x ρ => match x with
  | .ins c fs => (match tab c with
    | some fn => if (fs.lookup m).isNone then (a ρ).bind fun ds ρ => (match fn (.ins c fs :: ds) with
      | some (.val d _) => .ok d ρ
      | some (.exn c fs) => .exc c fs ρ
      | none => .bad) else .bad
    | none => .bad)
  | _ => .bad
def tabOf {α : Type} (l : List (Nat × α)) : Nat → Option α := fun c => l.lookup c
def eNew (c : Nat) (fn : FnS) (a : SA) : SE := fun ρ => (a ρ).bind fun ds ρ => match fn (.ins c [] :: ds) with
  | some (.val .non (some d)) => .ok d ρ
  | some (.exn c fs) => .exc c fs ρ
  | _ => .bad
def fldD (f : Str) : D → Option D
  | .ins _ fs => fs.lookup f
  | _ => none
def conD (tab : Nat → Option D) (f : Str) : D → Option D
  | .ins c fs => match fs.lookup f with | none => tab c | some _ => none
  | _ => none
def putFD (f : Str) (v : D) : List (Str × D) → List (Str × D)
  | [] => [(f, v)]
  | (g, w) :: r => if g = f then (g, v) :: r else (g, w) :: putFD f v r
def bndI (n : Nat) (i : Int) : Nat := if i < 0 then ((n : Int) + i).toNat else min i.toNat n
def cutL {α : Type} (xs : List α) (lo hi : Option Int) : List α :=
  let a := match lo with | some i => bndI xs.length i | none => 0
  let b := match hi with | some i => bndI xs.length i | none => xs.length
  (xs.drop a).take (b - a)
abbrev SP := SEnv → Out (Option Int)
def pNo : SP := fun ρ => .ok none ρ
def pAt (e : SE) : SP := fun ρ => (e ρ).bind fun d ρ => match d with
  | .int i => .ok (some i) ρ
  | _ => .bad
def eSlL (e : SE) (lo hi : SP) : SE := fun ρ => (e ρ).bind fun x ρ => (lo ρ).bind fun l ρ => (hi ρ).bind fun h ρ => match x with
  | .lst xs => .ok (.lst (cutL xs l h)) ρ
  | .scr ns => .ok (.lst (cutL (ns.map .int) l h)) ρ
  | _ => .bad
def eSlT (e : SE) (lo hi : SP) : SE := fun ρ => (e ρ).bind fun x ρ => (lo ρ).bind fun l ρ => (hi ρ).bind fun h ρ => match x with
  | .tup xs => .ok (.tup (cutL xs l h)) ρ
  | _ => .bad
abbrev SI := SEnv → Out (List D)
abbrev SG := D → SEnv → Option SEnv
def gN (i : Nat) : SG := fun x ρ => some (ρ.set i (.sh x))
def gNs : List SG → List D → SEnv → Option SEnv
  | [], [], ρ => some ρ
  | g :: gs, x :: xs, ρ => (g x ρ).bind fun ρ => gNs gs xs ρ
  | _, _, _ => none
def gT (gs : List SG) : SG := fun x ρ => match x with
  | .tup xs => gNs gs xs ρ
  | _ => none
def gL (gs : List SG) : SG := fun x ρ => match x with
  | .lst xs => gNs gs xs ρ
  | _ => none
def wipeE (ρ : SEnv) : List Nat → SEnv
  | [] => ρ
  | v :: vs => (wipeE ρ vs).set v .no
def backE (ρ0 : SEnv) (ρ : SEnv) : List Nat → SEnv
  | [] => ρ
  | v :: vs => (backE ρ0 ρ vs).set v (ρ0.getD v .no)
def shOnly (ρ : SEnv) (vs : List Nat) : Bool := vs.all fun v => match ρ[v]? with
  | some (.own _) | some (.io _) => false
  | _ => true
def compL (vs : List Nat) (g : SG) (t : ST) (e : SE) : List D → List D → SEnv → Out (List D)
  | [], acc, ρ => .ok acc ρ
  | x :: xs, acc, ρ => match g x (wipeE ρ vs) with
    | none => .bad
    | some ρ1 => match t ρ1 with
      | .ok true ρ2 => (match e ρ2 with
        | .ok d ρ3 => if acc.length < SZ then compL vs g t e xs (acc ++ [d]) (wipeE ρ3 vs) else .bad
        | _ => .bad)
      | .ok false ρ2 => compL vs g t e xs acc (wipeE ρ2 vs)
      | _ => .bad
def eComp (it : SI) (vs : List Nat) (g : SG) (t : ST) (e : SE) : SE := fun ρ => (it ρ).bind fun xs ρ1 =>
  if shOnly ρ1 vs then (match compL vs g t e xs [] (wipeE ρ1 vs) with
    | .ok ds ρ2 => .ok (.lst ds) (backE ρ1 ρ2 vs)
    | _ => .bad) else .bad
def tYesS : ST := fun ρ => .ok true ρ
def clL {α : Type} (vs : List Nat) (g : SG) (t : ST) (step : α → SEnv → Out α) : List D → α → SEnv → Out α
  | [], a, ρ => .ok a ρ
  | x :: xs, a, ρ => match g x (wipeE ρ vs) with
    | none => .bad
    | some ρ1 => match t ρ1 with
      | .ok true ρ2 => (match step a ρ2 with
        | .ok a' ρ3 => clL vs g t step xs a' ρ3
        | _ => .bad)
      | .ok false ρ2 => clL vs g t step xs a ρ2
      | _ => .bad
def putStep (k v : SE) (kvs : List (D × D)) : SEnv → Out (List (D × D)) := fun ρ => match k ρ with
  | .ok kd ρ1 => (match v ρ1 with
    | .ok vd ρ2 => if keyD kd = true ∧ kvs.length < SZ then .ok (putD kvs kd vd) ρ2 else .bad
    | _ => .bad)
  | _ => .bad
def inStep {α : Type} (it : SI) (vs : List Nat) (g : SG) (t : ST) (step : α → SEnv → Out α) (a : α) : SEnv → Out α := fun ρ => match it ρ with
  | .ok ys ρ1 => clL vs g t step ys a ρ1
  | _ => .bad
def eDc1 (it : SI) (vs : List Nat) (g : SG) (t : ST) (k v : SE) : SE := fun ρ => (it ρ).bind fun xs ρ1 =>
  if shOnly ρ1 vs then (match clL vs g t (putStep k v) xs [] ρ1 with
    | .ok kvs ρ2 => .ok (.dic kvs) (backE ρ1 (wipeE ρ2 vs) vs)
    | _ => .bad) else .bad
def eDc2 (it : SI) (vs : List Nat) (g : SG) (t : ST) (it1 : SI) (vs1 : List Nat) (g1 : SG) (t1 : ST) (k v : SE) : SE := fun ρ => (it ρ).bind fun xs ρ1 =>
  if shOnly ρ1 vs then (match clL vs g t (inStep it1 vs1 g1 t1 (putStep k v)) xs [] ρ1 with
    | .ok kvs ρ2 => .ok (.dic kvs) (backE ρ1 (wipeE ρ2 vs) vs)
    | _ => .bad) else .bad
def iSeq (e : SE) : SI := fun ρ => (e ρ).bind fun x ρ => .opt (itemsD x) ρ
def rngD (lo hi : Int) : List D := (List.range (hi - lo).toNat).map fun k => .int (lo + (k : Nat))
def iRng1 (e : SE) : SI := fun ρ => (e ρ).bind fun x ρ => match x with
  | .int j => if -(2 ^ 62) ≤ j ∧ j < 2 ^ 62 then .ok (rngD 0 j) ρ else .bad
  | _ => .bad
def iRng2 (a b : SE) : SI := fun ρ => (a ρ).bind fun x ρ => (b ρ).bind fun y ρ => match x, y with
  | .int i, .int j => if -(2 ^ 62) ≤ i ∧ i < 2 ^ 62 ∧ -(2 ^ 62) ≤ j ∧ j < 2 ^ 62 then .ok (rngD i j) ρ else .bad
  | _, _ => .bad
def enumD (xs : List D) : List D := xs.zipIdx.map fun p => .tup [.int (p.2 : Nat), p.1]
def iEnum (e : SE) : SI := fun ρ => (e ρ).bind fun x ρ => match itemsD x with
  | some xs => .ok (enumD xs) ρ
  | none => .bad
def zipD (xs ys : List D) : List D := (xs.zip ys).map fun p => .tup [p.1, p.2]
def iZip (a b : SE) : SI := fun ρ => (a ρ).bind fun x ρ => (b ρ).bind fun y ρ => match itemsD x, itemsD y with
  | some xs, some ys => .ok (zipD xs ys) ρ
  | _, _ => .bad

def oLen : D → Option D
  | .lst xs => some (.int (xs.length : Nat))
  | .tup xs => some (.int (xs.length : Nat))
  | .scr xs => some (.int (xs.length : Nat))
  | .str x => if x.length ≤ SZ then some (.int (x.length : Nat)) else none
  | .dic kvs => some (.int (kvs.length : Nat))
  | _ => none
def oAbs : D → Option D
  | .int i => some (.int (if i < 0 then -i else i))
  | _ => none
def oInt : D → Option D
  | .int i => some (.int i)
  | .bl b => some (.int (if b then 1 else 0))
  | _ => none
def oBool : D → Option D
  | .int i => some (.bl (i != 0))
  | .bl b => some (.bl b)
  | _ => none
def intsOf : List D → Option (List Int)
  | [] => some []
  | .int i :: r => (intsOf r).map (i :: ·)
  | _ => none
def bolsOf : List D → Option (List Bool)
  | [] => some []
  | .bl i :: r => (bolsOf r).map (i :: ·)
  | _ => none
def oSum : D → Option D
  | .lst xs => (intsOf xs).map fun ns => .int ns.sum
  | .tup xs => (intsOf xs).map fun ns => .int ns.sum
  | _ => none
def oAll : D → Option D
  | .lst xs => (bolsOf xs).map fun bs => .bl (bs.all id)
  | _ => none
def oAny : D → Option D
  | .lst xs => (bolsOf xs).map fun bs => .bl (bs.any id)
  | _ => none
def oTuple : D → Option D
  | .lst xs => some (.tup xs)
  | .tup xs => some (.tup xs)
  | _ => none
def oList : D → Option D
  | .lst xs => some (.lst xs)
  | .tup xs => some (.lst xs)
  | .scr ns => some (.lst (ns.map .int))
  | _ => none
def insI (k : Int) : List Int → List Int
  | [] => [k]
  | x :: r => if k ≤ x then k :: x :: r else x :: insI k r
def srtI : List Int → List Int
  | [] => []
  | x :: r => insI x (srtI r)
def oSorted : D → Option D
  | .lst xs => (intsOf xs).map fun ns => .lst ((srtI ns).map .int)
  | _ => none
def oMax2 : D → D → Option D
  | .int i, .int j => some (.int (if j > i then j else i))
  | _, _ => none
def oMin2 : D → D → Option D
  | .int i, .int j => some (.int (if j < i then j else i))
  | _, _ => none
def oMaxL : D → Option D
  | .lst xs => (intsOf xs).bind fun ns => ns.max?.map .int
  | _ => none
def oMinL : D → Option D
  | .lst xs => (intsOf xs).bind fun ns => ns.min?.map .int
  | _ => none
def tyName : D → Option String
  | .non => some "NoneType"
  | .bl _ => some "bool"
  | .int _ => some "int"
  | .str _ => some "str"
  | .tup _ => some "tuple"
  | .lst _ => some "list"
  | .scr _ => some "list"
  | .dic _ => some "dict"
  | _ => none
def isTy (ns : List String) (d : D) : Option D := (tyName d).map fun t => .bl (ns.any fun n => t == n || (t == "bool" && n == "int"))
def isCl (ans : Nat → Option Bool) : D → Option D
  | .ins c _ => (ans c).map .bl
  | _ => none
def eLenO (tab : Nat → Option FnS) (o : SE) : SE := fun ρ => (o ρ).bind fun x ρ => match x with
  | .ins c fs => (match tab c with
    | some fn => (match fn [.ins c fs] with
      | some (.val (.int n) _) => if 0 ≤ n ∧ n < 9223372036854775808 then .ok (.int n) ρ else .bad
      | _ => .bad)
    | none => .bad)
  | _ => .bad
def truOut (tab : Nat → Option FnS) : D → SEnv → Out Bool
  | .ins c fs, ρ => (match tab c with
    | some fn => (match fn [.ins c fs] with
      | some (.val (.bl b) _) => .ok b ρ
      | _ => .bad)
    | none => .bad)
  | _, _ => .bad
def tTruO (tab : Nat → Option FnS) (o : SE) : ST := fun ρ => (o ρ).bind (truOut tab)
def eBoolO (tab : Nat → Option FnS) (o : SE) : SE := fun ρ => (tTruO tab o ρ).bind fun b ρ => .ok (.bl b) ρ
def oEqO (tab : Nat → Option FnS) (x y : D) : Option D := match x, y with
  | .ins c fs, .ins c2 fs2 => (match tab c, tab c2 with
    | some fn, some _ => (match fn [.ins c fs, .ins c2 fs2] with
      | some (.val (.bl b) _) => some (.bl b)
      | _ => none)
    | _, _ => none)
  | _, _ => none
def oNeO (tab : Nat → Option FnS) (x y : D) : Option D := match oEqO tab x y with
  | some (.bl b) => some (.bl (!b))
  | _ => none
def noLst : D → Bool
  | .int _ | .bl _ | .non | .str _ => true
  | .tup xs => xs.all fun x => match x with | .int _ => true | _ => false
  | _ => false
def slotSh : Slot → Bool
  | .own _ | .io _ => false
  | _ => true
def eLend (i : Nat) (e : SE) : SE := fun ρ => match ρ[i]? with
  | some (.own (.lst xs)) => if (ρ.set i (.sh (.lst xs))).all slotSh then (match e (ρ.set i (.sh (.lst xs))) with
    | .ok d _ => if noLst d then .ok d ρ else .bad
    | _ => .bad) else .bad
  | _ => .bad
def iRev (e : SE) : SI := fun ρ => (e ρ).bind fun x ρ => match x with
  | .lst xs => .ok xs.reverse ρ
  | .scr ns => .ok (ns.map D.int).reverse ρ
  | _ => .bad
def rngDn (lo hi : Int) : List D := (List.range (lo - hi).toNat).map fun k => .int (lo - (k : Nat))
def iDown (a b : SE) (c : SE) : SI := fun ρ => (a ρ).bind fun x ρ => (b ρ).bind fun y ρ => (c ρ).bind fun z ρ => match x, y, z with
  | .int i, .int j, .int k => if k = -1 ∧ -(2 ^ 62) ≤ i ∧ i < 2 ^ 62 ∧ -(2 ^ 62) ≤ j ∧ j < 2 ^ 62 then .ok (rngDn i j) ρ else .bad
  | _, _, _ => .bad
def eLs (it : SI) : SE := fun ρ => (it ρ).bind fun xs ρ => if xs.length ≤ SZ then .ok (.lst xs) ρ else .bad
def insU (k : Int) : List Int → List Int
  | [] => [k]
  | x :: r => if k < x then k :: x :: r else if k = x then x :: r else x :: insU k r
def srtU : List Int → List Int
  | [] => []
  | x :: r => insU x (srtU r)
def oSortedSet : D → Option D
  | .lst xs => (intsOf xs).bind fun ns => if ns.length + 1 < 4096 ∧ (srtU ns).length < 64 then some (.lst ((srtU ns).map .int)) else none
  | _ => none
def ad (f : FnS) (dfl : List D) : FnS := fun as => f (as ++ dfl)
def sBad : SS := fun _ => .bad
def eBad : SE := fun _ => .bad

def sSkip : SS := fun ρ => .ok .nx ρ
def sSeq (a b : SS) : SS := fun ρ => (a ρ).bind fun f ρ => match f with
  | .nx => b ρ
  | f => .ok f ρ
def sAsg (i : Nat) (e : SE) : SS := fun ρ => (e ρ).bind fun d ρ => .ok .nx (ρ.set i (.sh d))
def sOwn (i : Nat) (e : SE) : SS := fun ρ => (e ρ).bind fun d ρ => .ok .nx (ρ.set i (.own d))
def sAug (f : Int → Int → Int) (i : Nat) (e : SE) : SS := fun ρ => match ρ[i]? with
  | some (.sh (.int a)) => (e ρ).bind fun y ρ' => match y with
    | .int b => .ok .nx (ρ'.set i (.sh (.int (f a b))))
    | _ => .bad
  | _ => .bad
def iadd (a b : Int) : Int := a + b
def isub (a b : Int) : Int := a - b
def sTg (g : SG) (e : SE) : SS := fun ρ => (e ρ).bind fun d ρ => (Out.opt (g d ρ) ρ).bind fun ρ' _ => .ok .nx ρ'
def slotOf (m : Bool) (d : D) : Slot := if m then .own d else .sh d
def sPar (i j : Nat) (m n : Bool) (a b : SE) : SS := fun ρ => (a ρ).bind fun x ρ => (b ρ).bind fun y ρ => .ok .nx ((ρ.set i (slotOf m x)).set j (slotOf n y))
def sPar3 (i j l : Nat) (m n o : Bool) (a b c : SE) : SS := fun ρ => (a ρ).bind fun x ρ => (b ρ).bind fun y ρ => (c ρ).bind fun z ρ => .ok .nx (((ρ.set i (slotOf m x)).set j (slotOf n y)).set l (slotOf o z))
def sIf (t : ST) (a b : SS) : SS := fun ρ => (t ρ).bind fun c ρ => if c then a ρ else b ρ
def sRet (e : SE) : SS := fun ρ => (e ρ).bind fun d ρ => .ok (.rt d) ρ
def sRetO (e : SE) : SS := fun ρ => (e ρ).bind fun d ρ => .ok (.ro d) ρ
def sRetN : SS := fun ρ => .ok (.rt .non) ρ
def sExpr (e : SE) : SS := fun ρ => (e ρ).bind fun _ ρ => .ok .nx ρ
def sBrk : SS := fun ρ => .ok .bk ρ
def sCnt : SS := fun ρ => .ok .ct ρ
def forL (g : SG) (b : SS) : List D → SEnv → Out Fl
  | [], ρ => .ok .nx ρ
  | x :: xs, ρ => match g x ρ with
    | none => .bad
    | some ρ1 => (b ρ1).bind fun f ρ2 => match f with
      | .nx => forL g b xs ρ2
      | .ct => forL g b xs ρ2
      | .bk => .ok .nx ρ2
      | .rt d => .ok (.rt d) ρ2
      | .ro d => .ok (.ro d) ρ2
def sFor (it : SI) (g : SG) (b : SS) : SS := fun ρ => (it ρ).bind fun xs ρ => forL g b xs ρ
def sWhile (t : ST) (b : SS) : Nat → SS
  | 0, _ => .bad
  | n + 1, ρ => (t ρ).bind fun c ρ => if c then (b ρ).bind fun f ρ => match f with
      | .nx => sWhile t b n ρ
      | .ct => sWhile t b n ρ
      | .bk => .ok .nx ρ
      | .rt d => .ok (.rt d) ρ
      | .ro d => .ok (.ro d) ρ
    else .ok .nx ρ
def setD : D → D → D → Option D
  | .lst xs, .int i, v => if 0 ≤ i ∧ i < (xs.length : Int) then some (.lst (xs.set i.toNat v))
      else if i < 0 ∧ 0 ≤ (xs.length : Int) + i then some (.lst (xs.set ((xs.length : Int) + i).toNat v)) else none
  | _, _, _ => none
def reSlot (i : Nat) (f : D → Option D) (ρ : SEnv) : Out Fl := match ρ[i]? with
  | some (.own d) => (match f d with | some d' => .ok .nx (ρ.set i (.own d')) | none => .bad)
  | some (.io d) => (match f d with | some d' => .ok .nx (ρ.set i (.io d')) | none => .bad)
  | _ => .bad
def sSetI (i : Nat) (ix v : SE) : SS := fun ρ => (v ρ).bind fun y ρ => if aloneAt ρ i then (ix ρ).bind fun k ρ => reSlot i (fun d => setD d k y) ρ else .bad
def appD (d v : D) : Option D := match d with
  | .lst xs => if xs.length < SZ then some (.lst (xs ++ [v])) else none
  | _ => none
def lstAt (ρ : SEnv) (i : Nat) : Bool := match ρ[i]? with
  | some (.own (.lst _)) => true
  | some (.io (.lst _)) => true
  | _ => false
def sApp (i : Nat) (e : SE) : SS := fun ρ => if lstAt ρ i then (e ρ).bind fun v ρ => reSlot i (fun d => appD d v) ρ else .bad
def extD (d v : D) : Option D := match d, v with
  | .lst xs, .lst ys => if xs.length + ys.length ≤ SZ then some (.lst (xs ++ ys)) else none
  | _, _ => none
def sExt (i : Nat) (e : SE) : SS := fun ρ => if lstAt ρ i then (e ρ).bind fun v ρ => reSlot i (fun d => extD d v) ρ else .bad
def fldPut (f : Str) (v : D) : D → Option D
  | .ins c fs => if fs.length < 1000 then some (.ins c (putFD f v fs)) else none
  | _ => none
def sFld (i : Nat) (f : Str) (e : SE) : SS := fun ρ => (e ρ).bind fun v ρ => reSlot i (fldPut f v) ρ
def sRaise (c : Nat) (nm : Option Str) (a : SA) : SS := fun ρ => (a ρ).bind fun ds ρ => match nm, ds with
  | none, _ => .exc c [] ρ
  | some f, [d] => .exc c [(f, d)] ρ
  | _, _ => .bad

def startE (n : Nat) (io : Bool) (ds : List D) : SEnv :=
  (match io, ds with
    | true, d :: r => Slot.io d :: r.map Slot.sh
    | _, ds => ds.map Slot.sh) ++ List.replicate (n - ds.length) Slot.no
def ioSlot : Option Slot → Option (Option D)
  | some (.io d) => some (some d)
  | _ => none
def ioOf (io : Bool) (ρ : SEnv) : Option (Option D) := if io then ioSlot ρ[0]? else some none
def endOf (io fresh : Bool) : Out Fl → Option Ret
  | .ok .nx ρ => if fresh then none else (ioOf io ρ).map fun o => .val .non o
  | .ok (.rt d) ρ => if fresh then none else (ioOf io ρ).map fun o => .val d o
  | .ok (.ro d) ρ => (ioOf io ρ).map fun o => .val d o
  | .exc c fs _ => some (.exn c fs)
  | _ => none
def fnOf (n m : Nat) (io fresh : Bool) (b : SS) : FnS := fun ds => if ds.length = m then endOf io fresh (b (startE n io ds)) else none
end VL
end

section
namespace VL
end VL
end

section
set_option maxRecDepth 100000
set_option maxHeartbeats 1000000
namespace VL
open PySem L2

structure TabC where
  fn : Nat → Addr
  w : World
  ex : Nat → Addr := fun _ => 0
instance : CoeFun TabC fun _ => Nat → Addr := ⟨TabC.fn⟩
def keyOf1 : D → Option Key
  | .int i => some (.inl i)
  | .str x => some (.inr x)
  | _ => none
def keysOf : List D → Option (List Key)
  | [] => some []
  | d :: ds => (keyOf1 d).bind fun k => (keysOf ds).map (k :: ·)
def entD (w : World) (x : List Key × Addr × Value) : DictEntry := ⟨reduceHash (Builtin.Tuple.tupleHashOf (x.1.map (keyH w))), .ref x.2.1, x.2.2⟩
def dctO (w : World) (a : Addr) (xs : List (List Key × Addr × Value)) : HO := .ext fun h => (a == sysModules) = false ∧ xs.length ≤ 1000 ∧ ∃ o es ep, h.get? a = some o ∧ o.ExactDict ∧ o.data = .dict es ep ∧ es.toList = xs.map (entD w) ∧ (xs.map (·.1)).Nodup

mutual
inductive Rep (K : PySem.W.Frag) (T : TabC) (B : Hp) : D → V → Prop
  | non : Rep K T B .non .non
  | bl (b : Bool) : Rep K T B (.bl b) (.bl b)
  | int (i : Int) : Rep K T B (.int i) (.int i)
  | str (s : Str) : Rep K T B (.str s) (.str s)
  | tup {a : Addr} {vs : List V} {xs : List D} : SqT K B a vs → RepL K T B xs vs → Rep K T B (.tup xs) (.ref a)
  | lst {a : Addr} {vs : List V} {xs : List D} : B a = some (.lst vs) → RepL K T B xs vs → Rep K T B (.lst xs) (.ref a)
  | scr {a : Addr} {ns : List Int} : SqL K B a (ns.map V.int) → Rep K T B (.scr ns) (.ref a)
  | ins {a dx : Addr} {c : Nat} {vfs : List (Str × V)} {fs : List (Str × D)} : B a = some (.ins (T c) dx vfs) → RepF K T B fs vfs → Rep K T B (.ins c fs) (.ref a)
  | dic {a : Addr} {kvs : List (D × D)} {vkv : List (Key × V)} : Rd B a (.dK vkv) → RepK K T B kvs vkv → Rep K T B (.dic kvs) (.ref a)
  | dct {a : Addr} {kvs : List (List D × D)} {xs : List (List Key × Addr × Value)} : B a = some (dctO T.w a xs) → RepT K T B kvs xs → Rep K T B (.dct kvs) (.ref a)
inductive RepL (K : PySem.W.Frag) (T : TabC) (B : Hp) : List D → List V → Prop
  | nil : RepL K T B [] []
  | cons {d : D} {v : V} {ds : List D} {vs : List V} : Rep K T B d v → RepL K T B ds vs → RepL K T B (d :: ds) (v :: vs)
inductive RepF (K : PySem.W.Frag) (T : TabC) (B : Hp) : List (Str × D) → List (Str × V) → Prop
  | nil : RepF K T B [] []
  | cons {f : Str} {d : D} {v : V} {ds : List (Str × D)} {vs : List (Str × V)} : Rep K T B d v → RepF K T B ds vs → RepF K T B ((f, d) :: ds) ((f, v) :: vs)
inductive RepK (K : PySem.W.Frag) (T : TabC) (B : Hp) : List (D × D) → List (Key × V) → Prop
  | nil : RepK K T B [] []
  | int {i : Int} {d : D} {v : V} {ds : List (D × D)} {vs : List (Key × V)} : Rep K T B d v → RepK K T B ds vs → RepK K T B ((.int i, d) :: ds) ((.inl i, v) :: vs)
  | str {s : Str} {d : D} {v : V} {ds : List (D × D)} {vs : List (Key × V)} : Rep K T B d v → RepK K T B ds vs → RepK K T B ((.str s, d) :: ds) ((.inr s, v) :: vs)
inductive RepT (K : PySem.W.Frag) (T : TabC) (B : Hp) : List (List D × D) → List (List Key × Addr × Value) → Prop
  | nil : RepT K T B [] []
  | cons {ks : List D} {d : D} {k : List Key} {q : Addr} {u : Value} {v : V} {ds : List (List D × D)} {xs : List (List Key × Addr × Value)} : keysOf ks = some k → SqT K B q (k.map kV) → RelV v u → Rep K T B d v → RepT K T B ds xs → RepT K T B ((ks, d) :: ds) ((k, q, u) :: xs)
end

theorem rdSame {B B' : Hp} {a : Addr} {u : HO} (e : Same B B') (h : Rd B a u) : Rd B' a u := h.elim (fun h => .inl (e _ _ h)) fun ⟨o, h⟩ => .inr ⟨o, e _ _ h⟩
theorem sameT {K : PySem.W.Frag} {B B' : Hp} {a : Addr} {xs : List V} (e : Same B B') (h : SqT K B a xs) : SqT K B' a xs := by
  rcases h with (h | ⟨o, h⟩) | h
  · exact .inl (.inl (e _ _ h))
  · exact .inl (.inr ⟨o, e _ _ h⟩)
  · exact .inr h
section
variable {K : PySem.W.Frag} {T : TabC} {B B' H H' : Hp}
mutual
theorem Rep.mono (e : Same B B') : ∀ {d : D} {v : V}, Rep K T B d v → Rep K T B' d v
  | _, _, .non => .non
  | _, _, .bl b => .bl b
  | _, _, .int i => .int i
  | _, _, .str s => .str s
  | _, _, .tup h r => .tup (sameT e h) (RepL.mono e r)
  | _, _, .lst h r => .lst (e _ _ h) (RepL.mono e r)
  | _, _, .scr h => .scr (e.seq h)
  | _, _, .ins h r => .ins (e _ _ h) (RepF.mono e r)
  | _, _, .dic h r => .dic (rdSame e h) (RepK.mono e r)
  | _, _, .dct h r => .dct (e _ _ h) (RepT.mono e r)
theorem RepT.mono (e : Same B B') : ∀ {ds : List (List D × D)} {xs : List (List Key × Addr × Value)}, RepT K T B ds xs → RepT K T B' ds xs
  | _, _, .nil => .nil
  | _, _, .cons h1 h2 h3 h r => .cons h1 (sameT e h2) h3 (Rep.mono e h) (RepT.mono e r)
theorem RepL.mono (e : Same B B') : ∀ {ds : List D} {vs : List V}, RepL K T B ds vs → RepL K T B' ds vs
  | _, _, .nil => .nil
  | _, _, .cons h r => .cons (Rep.mono e h) (RepL.mono e r)
theorem RepF.mono (e : Same B B') : ∀ {ds : List (Str × D)} {vs : List (Str × V)}, RepF K T B ds vs → RepF K T B' ds vs
  | _, _, .nil => .nil
  | _, _, .cons h r => .cons (Rep.mono e h) (RepF.mono e r)
theorem RepK.mono (e : Same B B') : ∀ {ds : List (D × D)} {vs : List (Key × V)}, RepK K T B ds vs → RepK K T B' ds vs
  | _, _, .nil => .nil
  | _, _, .int h r => .int (Rep.mono e h) (RepK.mono e r)
  | _, _, .str h r => .str (Rep.mono e h) (RepK.mono e r)
end
theorem RepL.length : ∀ {ds : List D} {vs : List V}, RepL K T B ds vs → ds.length = vs.length
  | _, _, .nil => rfl
  | _, _, .cons _ r => by simp [RepL.length r]
theorem RepF.length : ∀ {ds : List (Str × D)} {vs : List (Str × V)}, RepF K T B ds vs → ds.length = vs.length
  | _, _, .nil => rfl
  | _, _, .cons _ r => by simp [RepF.length r]
theorem RepL.append : ∀ {ds es : List D} {vs ws : List V}, RepL K T B ds vs → RepL K T B es ws → RepL K T B (ds ++ es) (vs ++ ws)
  | _, _, _, _, .nil, s => s
  | _, _, _, _, .cons h r, s => .cons h (RepL.append r s)
theorem RepL.get : ∀ {ds : List D} {vs : List V} {i : Nat} {d : D}, RepL K T B ds vs → ds[i]? = some d → ∃ v, vs[i]? = some v ∧ Rep K T B d v
  | _, _, _, _, .nil, e => by simp at e
  | _, _, 0, _, .cons h _, e => by simp at e; subst e; exact ⟨_, rfl, h⟩
  | _, _, i + 1, d, .cons _ r, e => by
    obtain ⟨v, h1, h2⟩ := RepL.get (i := i) (d := d) r (by simpa using e)
    exact ⟨v, by simpa using h1, h2⟩
theorem RepL.get' : ∀ {ds : List D} {vs : List V} {i : Nat} {v : V}, RepL K T B ds vs → vs[i]? = some v → ∃ d, ds[i]? = some d ∧ Rep K T B d v
  | _, _, _, _, .nil, e => by simp at e
  | _, _, 0, _, .cons h _, e => by simp at e; subst e; exact ⟨_, rfl, h⟩
  | _, _, i + 1, d, .cons _ r, e => by
    obtain ⟨v, h1, h2⟩ := RepL.get' (i := i) (v := d) r (by simpa using e)
    exact ⟨v, by simpa using h1, h2⟩
theorem RepL.take : ∀ {ds : List D} {vs : List V} (n : Nat), RepL K T B ds vs → RepL K T B (ds.take n) (vs.take n)
  | _, _, 0, _ => .nil
  | _, _, _ + 1, .nil => .nil
  | _, _, n + 1, .cons h r => .cons h (RepL.take n r)
theorem RepL.drop : ∀ {ds : List D} {vs : List V} (n : Nat), RepL K T B ds vs → RepL K T B (ds.drop n) (vs.drop n)
  | _, _, 0, r => r
  | _, _, _ + 1, .nil => .nil
  | _, _, n + 1, .cons _ r => RepL.drop n r
theorem RepL.set {d : D} {v : V} (h : Rep K T B d v) : ∀ {ds : List D} {vs : List V} (i : Nat), RepL K T B ds vs → RepL K T B (ds.set i d) (vs.set i v)
  | _, _, _, .nil => .nil
  | _, _, 0, .cons _ r => .cons h r
  | _, _, i + 1, .cons q r => .cons q (RepL.set h i r)
theorem RepL.ints : ∀ (ns : List Int), RepL K T B (ns.map D.int) (ns.map V.int)
  | [] => .nil
  | n :: ns => .cons (.int n) (RepL.ints ns)
theorem RepL.flat {ds : List D} {vs : List V} (r : RepL K T B ds vs) : ∀ k : Nat, RepL K T B (List.replicate k ds).flatten (List.replicate k vs).flatten
  | 0 => .nil
  | k + 1 => by
    rw [List.replicate_succ, List.replicate_succ, List.flatten_cons, List.flatten_cons]
    exact r.append (RepL.flat r k)
theorem RepF.look : ∀ {ds : List (Str × D)} {vs : List (Str × V)} {f : Str} {d : D}, RepF K T B ds vs → ds.lookup f = some d → ∃ v, vs.lookup f = some v ∧ Rep K T B d v
  | _, _, _, _, .nil, e => by simp at e
  | _, _, f, d, .cons (f := g) h r, e => by
    simp only [List.lookup_cons] at e ⊢
    by_cases hf : (f == g) = true
    · rw [hf] at e ⊢
      simp only at e ⊢
      exact ⟨_, rfl, by cases e; exact h⟩
    · have hf' : (f == g) = false := by simpa using hf
      rw [hf'] at e ⊢
      simp only at e ⊢
      exact RepF.look r e
theorem RepF.put {f : Str} {d : D} {v : V} (h : Rep K T B d v) : ∀ {ds : List (Str × D)} {vs : List (Str × V)}, RepF K T B ds vs → RepF K T B (putFD f d ds) (putF f v vs)
  | _, _, .nil => .cons h .nil
  | _, _, .cons (f := g) (d := d0) (v := v0) (ds := ds) (vs := vs) q r => by
    show RepF K T B (if g = f then (g, d) :: ds else (g, d0) :: putFD f d ds) (if g = f then (g, v) :: vs else (g, v0) :: putF f v vs)
    by_cases hg : g = f
    · rw [if_pos hg, if_pos hg]
      exact .cons h r
    · rw [if_neg hg, if_neg hg]
      exact .cons q (RepF.put h r)
end

structure Frm where
  B0 : Hp
  F : Hp
  ia : Nat → Option Addr

def ObjAt (K : PySem.W.Frag) (T : TabC) (B H : Hp) (a : Addr) : D → Prop
  | .lst xs => ∃ vs, H a = some (.lst vs) ∧ RepL K T B xs vs
  | .ins c fs => ∃ dx vfs, H a = some (.ins (T c) dx vfs) ∧ RepF K T B fs vfs
  | .dic kvs => ∃ vkv, H a = some (.dK vkv) ∧ RepK K T B kvs vkv
  | .dct kvs => ∃ xs, H a = some (dctO T.w a xs) ∧ RepT K T B kvs xs
  | _ => False
structure OwnAt (K : PySem.W.Frag) (T : TabC) (fr : Frm) (B H : Hp) (a : Addr) (d : D) : Prop where
  b : B a = none
  f : fr.F a = none
  i : ∀ k, fr.ia k ≠ some a
  o : ObjAt K T B H a d
def SlotOk (K : PySem.W.Frag) (T : TabC) (fr : Frm) (B H : Hp) (σ : L2.St) (i : Nat) : Slot → Prop
  | .no => True
  | .sh d => ∃ v, σ[i]? = some (some v) ∧ Rep K T B d v
  | .own d => ∃ a, σ[i]? = some (some (.ref a)) ∧ OwnAt K T fr B H a d
  | .io d => ∃ a, σ[i]? = some (some (.ref a)) ∧ fr.ia i = some a ∧ B a = none ∧ fr.F a = none ∧ ObjAt K T B H a d
def Slot.alone : Slot → Bool
  | .own _ | .io _ => true
  | _ => false
structure EnvOk (K : PySem.W.Frag) (T : TabC) (fr : Frm) (B H : Hp) (ρ : SEnv) (σ : L2.St) : Prop where
  bh : Same B H
  b0 : Same fr.B0 B
  fh : Same fr.F H
  ih : ∀ k a, fr.ia k = some a → H a ≠ none
  bf : ∀ a, B a ≠ none → fr.B0 a ≠ none ∨ (fr.F a = none ∧ ∀ k, fr.ia k ≠ some a)
  len : ρ.length = σ.length
  slot : ∀ (i : Nat) (s : Slot), ρ[i]? = some s → SlotOk K T fr B H σ i s
  dis : ∀ (i j : Nat) (s t : Slot) (a : Addr), i ≠ j → ρ[i]? = some s → ρ[j]? = some t → s.alone = true → t.alone = true → σ[i]? = some (some (.ref a)) → σ[j]? = some (some (.ref a)) → False

section
variable {K : PySem.W.Frag} {T : TabC} {fr : Frm} {B B' H H' : Hp} {ρ ρ' : SEnv} {σ σ' : L2.St}
theorem ObjAt.mono {a : Addr} (eb : Same B B') (eh : H' a = H a) : ∀ {d : D}, ObjAt K T B H a d → ObjAt K T B' H' a d
  | .lst _, ⟨vs, h, r⟩ => ⟨vs, eh.trans h, r.mono eb⟩
  | .ins _ _, ⟨dx, vfs, h, r⟩ => ⟨dx, vfs, eh.trans h, r.mono eb⟩
  | .dic _, ⟨vkv, h, r⟩ => ⟨vkv, eh.trans h, r.mono eb⟩
  | .dct _, ⟨xs, h, r⟩ => ⟨xs, eh.trans h, r.mono eb⟩
theorem ObjAt.there {a : Addr} : ∀ {d : D}, ObjAt K T B H a d → ∃ o, H a = some o
  | .lst _, ⟨_, h, _⟩ => ⟨_, h⟩
  | .ins _ _, ⟨_, _, h, _⟩ => ⟨_, h⟩
  | .dic _, ⟨_, h, _⟩ => ⟨_, h⟩
  | .dct _, ⟨_, h, _⟩ => ⟨_, h⟩
theorem upd_free {p : Addr} {o : HO} (h : H p = none) : Same H (upd H p o) := fun b u e => by
  rw [upd_ne (ne_of_none e h)]; exact e
theorem upd_mono {p : Addr} {o : HO} (e : Same B H) : Same (upd B p o) (upd H p o) := fun b u q => by
  by_cases hb : b = p
  · subst hb; rw [upd_same] at q ⊢; exact q
  · rw [upd_ne hb] at q ⊢; exact e _ _ q
theorem EnvOk.allocSh (E : EnvOk K T fr B H ρ σ) {p : Addr} {o : HO} (hp : H p = none) : EnvOk K T fr (upd B p o) (upd H p o) ρ σ := by
  have bp : B p = none := E.bh.free hp
  have fp : fr.F p = none := E.fh.free hp
  have sB : Same B (upd B p o) := upd_free bp
  refine ⟨upd_mono E.bh, E.b0.trans sB, E.fh.trans (upd_free hp), fun k a q => ?_, fun a ha => ?_, E.len, fun i s q => ?_, E.dis⟩
  · have := E.ih k a q
    by_cases h : a = p
    · subst h; exact absurd hp this
    · rw [upd_ne h]; exact this
  · by_cases h : a = p
    · subst h
      exact .inr ⟨fp, fun k q => E.ih k a q hp⟩
    · rw [upd_ne h] at ha; exact E.bf a ha
  · have z := E.slot i s q
    cases s with
    | no => trivial
    | sh d => obtain ⟨v, h1, h2⟩ := z; exact ⟨v, h1, h2.mono sB⟩
    | own d =>
      obtain ⟨a, h1, ⟨h2, h3, h4, h5⟩⟩ := z
      obtain ⟨u, hu⟩ := h5.there
      have hap : a ≠ p := ne_of_none hu hp
      exact ⟨a, h1, ⟨by rw [upd_ne hap]; exact h2, h3, h4, h5.mono sB (upd_ne hap)⟩⟩
    | io d =>
      obtain ⟨a, h1, h2, h3, h4, h5⟩ := z
      obtain ⟨u, hu⟩ := h5.there
      have hap : a ≠ p := ne_of_none hu hp
      exact ⟨a, h1, h2, by rw [upd_ne hap]; exact h3, h4, h5.mono sB (upd_ne hap)⟩
theorem EnvOk.allocOwn (E : EnvOk K T fr B H ρ σ) {p : Addr} {o : HO} (hp : H p = none) : EnvOk K T fr B (upd H p o) ρ σ := by
  refine ⟨E.bh.trans (upd_free hp), E.b0, E.fh.trans (upd_free hp), fun k a q => ?_, E.bf, E.len, fun i s q => ?_, E.dis⟩
  · have := E.ih k a q
    by_cases h : a = p
    · subst h; exact absurd hp this
    · rw [upd_ne h]; exact this
  · have z := E.slot i s q
    cases s with
    | no => trivial
    | sh d => exact z
    | own d =>
      obtain ⟨a, h1, ⟨h2, h3, h4, h5⟩⟩ := z
      obtain ⟨u, hu⟩ := h5.there
      exact ⟨a, h1, ⟨h2, h3, h4, h5.mono (Same.refl _) (upd_ne (ne_of_none hu hp))⟩⟩
    | io d =>
      obtain ⟨a, h1, h2, h3, h4, h5⟩ := z
      obtain ⟨u, hu⟩ := h5.there
      exact ⟨a, h1, h2, h3, h4, h5.mono (Same.refl _) (upd_ne (ne_of_none hu hp))⟩
theorem get_set_cases {α : Type} {l : List α} {i j : Nat} {x y : α} (h : (l.set i x)[j]? = some y) : (j = i ∧ y = x) ∨ (j ≠ i ∧ l[j]? = some y) := by
  by_cases e : j = i
  · subst e
    rw [List.getElem?_set] at h
    simp only [if_true] at h
    split at h
    · exact .inl ⟨rfl, (Option.some.inj h).symm⟩
    · cases h
  · rw [List.getElem?_set_ne (fun q => e q.symm)] at h
    exact .inr ⟨e, h⟩
theorem EnvOk.setSh (E : EnvOk K T fr B H ρ σ) {i : Nat} {d : D} {v : V} (r : Rep K T B d v) : EnvOk K T fr B H (ρ.set i (.sh d)) (σ.set i (some v)) := by
  refine ⟨E.bh, E.b0, E.fh, E.ih, E.bf, by simp [E.len], fun j s q => ?_, fun j k s t a jk q1 q2 a1 a2 e1 e2 => ?_⟩
  · have hj : j < (ρ.set i (.sh d)).length := (List.getElem?_eq_some_iff.mp q).1
    rcases get_set_cases q with ⟨rfl, rfl⟩ | ⟨hne, q⟩
    · refine ⟨v, ?_, r⟩
      rw [List.getElem?_set_self (by rw [← E.len]; simpa using hj)]
    · have hs : (σ.set i (some v))[j]? = σ[j]? := List.getElem?_set_ne (fun z => hne z.symm)
      have z := E.slot j s q
      cases s <;> simpa only [SlotOk, hs] using z
  · rcases get_set_cases q1 with ⟨rfl, rfl⟩ | ⟨h1, q1⟩
    · cases a1
    rcases get_set_cases q2 with ⟨rfl, rfl⟩ | ⟨h2, q2⟩
    · cases a2
    rw [List.getElem?_set_ne (fun z => h1 z.symm)] at e1
    rw [List.getElem?_set_ne (fun z => h2 z.symm)] at e2
    exact E.dis j k s t a jk q1 q2 a1 a2 e1 e2
theorem EnvOk.setNo (E : EnvOk K T fr B H ρ σ) {i : Nat} {v : Option V} : EnvOk K T fr B H (ρ.set i .no) (σ.set i v) := by
  refine ⟨E.bh, E.b0, E.fh, E.ih, E.bf, by simp [E.len], fun j s q => ?_, fun j k s t a jk q1 q2 a1 a2 e1 e2 => ?_⟩
  · rcases get_set_cases q with ⟨rfl, rfl⟩ | ⟨hne, q⟩
    · trivial
    · have hs : (σ.set i v)[j]? = σ[j]? := List.getElem?_set_ne (fun z => hne z.symm)
      have z := E.slot j s q
      cases s <;> simpa only [SlotOk, hs] using z
  · rcases get_set_cases q1 with ⟨rfl, rfl⟩ | ⟨h1, q1⟩
    · cases a1
    rcases get_set_cases q2 with ⟨rfl, rfl⟩ | ⟨h2, q2⟩
    · cases a2
    rw [List.getElem?_set_ne (fun z => h1 z.symm)] at e1
    rw [List.getElem?_set_ne (fun z => h2 z.symm)] at e2
    exact E.dis j k s t a jk q1 q2 a1 a2 e1 e2
def Apart (ρ : SEnv) (σ : L2.St) (a : Addr) : Prop := ∀ (i : Nat) (s : Slot), ρ[i]? = some s → s.alone = true → σ[i]? ≠ some (some (.ref a))
theorem EnvOk.setOwn (E : EnvOk K T fr B H ρ σ) {i : Nat} {d : D} {a : Addr} (r : OwnAt K T fr B H a d) (ap : Apart ρ σ a) : EnvOk K T fr B H (ρ.set i (.own d)) (σ.set i (some (.ref a))) := by
  refine ⟨E.bh, E.b0, E.fh, E.ih, E.bf, by simp [E.len], fun j s q => ?_, fun j k s t b jk q1 q2 a1 a2 e1 e2 => ?_⟩
  · have hj : j < (ρ.set i (.own d)).length := (List.getElem?_eq_some_iff.mp q).1
    rcases get_set_cases q with ⟨rfl, rfl⟩ | ⟨hne, q⟩
    · refine ⟨a, ?_, r⟩
      rw [List.getElem?_set_self (by rw [← E.len]; simpa using hj)]
    · have hs : (σ.set i (some (V.ref a)))[j]? = σ[j]? := List.getElem?_set_ne (fun z => hne z.symm)
      have z := E.slot j s q
      cases s <;> simpa only [SlotOk, hs] using z
  · rcases get_set_cases q1 with ⟨rfl, rfl⟩ | ⟨h1, q1'⟩
    · rcases get_set_cases q2 with ⟨rfl, rfl⟩ | ⟨h2, q2⟩
      · exact jk rfl
      · rw [List.getElem?_set] at e1
        simp only [if_true] at e1
        split at e1
        · have : a = b := by
            have := Option.some.inj (Option.some.inj e1)
            injection this
          subst this
          rw [List.getElem?_set_ne (fun z => h2 z.symm)] at e2
          exact ap k t q2 a2 e2
        · cases e1
    · rcases get_set_cases q2 with ⟨rfl, rfl⟩ | ⟨h2, q2'⟩
      · rw [List.getElem?_set] at e2
        simp only [if_true] at e2
        split at e2
        · have : a = b := by
            have := Option.some.inj (Option.some.inj e2)
            injection this
          subst this
          rw [List.getElem?_set_ne (fun z => h1 z.symm)] at e1
          exact ap j s q1' a1 e1
        · cases e2
      · rw [List.getElem?_set_ne (fun z => h1 z.symm)] at e1
        rw [List.getElem?_set_ne (fun z => h2 z.symm)] at e2
        exact E.dis j k s t b jk q1' q2' a1 a2 e1 e2
theorem EnvOk.apart_new (E : EnvOk K T fr B H ρ σ) {p : Addr} (hp : H p = none) : Apart ρ σ p := fun i s q al e => by
  have z := E.slot i s q
  cases s with
  | no => cases al
  | sh d => cases al
  | own d =>
    obtain ⟨a, h1, h2⟩ := z
    rw [h1] at e
    have : a = p := by injection (Option.some.inj (Option.some.inj e))
    subst this
    obtain ⟨u, hu⟩ := h2.o.there
    rw [hp] at hu; cases hu
  | io d =>
    obtain ⟨a, h1, _, _, _, h2⟩ := z
    rw [h1] at e
    have : a = p := by injection (Option.some.inj (Option.some.inj e))
    subst this
    obtain ⟨u, hu⟩ := h2.there
    rw [hp] at hu; cases hu
theorem EnvOk.share (E : EnvOk K T fr B H ρ σ) {a : Addr} {d : D} (r : OwnAt K T fr B H a d) (ap : Apart ρ σ a) : ∃ o, H a = some o ∧ EnvOk K T fr (upd B a o) H ρ σ ∧ Same B (upd B a o) ∧ Rep K T (upd B a o) d (.ref a) := by
  obtain ⟨o, ho⟩ := r.o.there
  have sB : Same B (upd B a o) := upd_free r.b
  refine ⟨o, ho, ⟨fun b u q => ?_, E.b0.trans sB, E.fh, E.ih, fun b hb => ?_, E.len, fun i s q => ?_, E.dis⟩, sB, ?_⟩
  · by_cases h : b = a
    · subst h; rw [upd_same] at q; rw [← q]; exact ho
    · rw [upd_ne h] at q; exact E.bh _ _ q
  · by_cases h : b = a
    · subst h; exact .inr ⟨r.f, r.i⟩
    · rw [upd_ne h] at hb; exact E.bf b hb
  · have z := E.slot i s q
    cases s with
    | no => trivial
    | sh d => obtain ⟨v, h1, h2⟩ := z; exact ⟨v, h1, h2.mono sB⟩
    | own d =>
      obtain ⟨b, h1, ⟨h2, h3, h4, h5⟩⟩ := z
      have hba : b ≠ a := fun e => by subst e; exact ap i _ q rfl h1
      exact ⟨b, h1, ⟨by rw [upd_ne hba]; exact h2, h3, h4, h5.mono sB rfl⟩⟩
    | io d =>
      obtain ⟨b, h1, h2, h3, h4, h5⟩ := z
      have hba : b ≠ a := fun e => by subst e; exact ap i _ q rfl h1
      exact ⟨b, h1, h2, by rw [upd_ne hba]; exact h3, h4, h5.mono sB rfl⟩
  · have q := r.o
    cases d with
    | lst xs =>
      obtain ⟨vs, h, rr⟩ := q
      rw [ho] at h; cases h
      exact .lst upd_same (rr.mono sB)
    | ins c fs =>
      obtain ⟨dx, vfs, h, rr⟩ := q
      rw [ho] at h; cases h
      exact .ins upd_same (rr.mono sB)
    | dic kvs =>
      obtain ⟨vkv, h, rr⟩ := q
      rw [ho] at h; cases h
      exact .dic (.inl upd_same) (rr.mono sB)
    | dct kvs =>
      obtain ⟨xs, h, rr⟩ := q
      rw [ho] at h; cases h
      exact .dct upd_same (rr.mono sB)
    | _ => exact q.elim
theorem EnvOk.at_alone (E : EnvOk K T fr B H ρ σ) {i : Nat} {d : D} (q : ρ[i]? = some (.own d) ∨ ρ[i]? = some (.io d)) : ∃ a, σ[i]? = some (some (.ref a)) ∧ B a = none ∧ fr.F a = none ∧ ObjAt K T B H a d := by
  rcases q with q | q
  · obtain ⟨a, h1, h2⟩ := E.slot i _ q
    exact ⟨a, h1, h2.b, h2.f, h2.o⟩
  · obtain ⟨a, h1, _, h2, h3, h4⟩ := E.slot i _ q
    exact ⟨a, h1, h2, h3, h4⟩
theorem EnvOk.at_own (E : EnvOk K T fr B H ρ σ) {i : Nat} {d : D} (q : ρ[i]? = some (.own d)) : ∃ a, σ[i]? = some (some (.ref a)) ∧ OwnAt K T fr B H a d ∧ Apart (ρ.set i .no) σ a := by
  obtain ⟨a, h1, h2⟩ := E.slot i _ q
  refine ⟨a, h1, h2, fun j s q' al e => ?_⟩
  rcases get_set_cases q' with ⟨rfl, rfl⟩ | ⟨hne, q'⟩
  · cases al
  · exact E.dis j i s _ a hne q' q al rfl e h1
theorem EnvOk.write (E : EnvOk K T fr B H ρ σ) {i : Nat} {s s' : Slot} {a : Addr} {o : HO} {d' : D} (q : ρ[i]? = some s) (ha : s.alone = true) (hs : σ[i]? = some (some (.ref a))) (hs' : (∃ d, s = .own d ∧ s' = .own d') ∨ (∃ d, s = .io d ∧ s' = .io d'))
    (ho : ObjAt K T B (upd H a o) a d') : EnvOk K T fr B (upd H a o) (ρ.set i s') σ := by
  have hab : B a = none ∧ fr.F a = none ∧ (∃ u, H a = some u) := by
    rcases hs' with ⟨d, rfl, _⟩ | ⟨d, rfl, _⟩
    · obtain ⟨b, h1, h2, h3, h4⟩ := E.at_alone (.inl q)
      rw [hs] at h1
      have : a = b := by injection (Option.some.inj (Option.some.inj h1))
      subst this
      exact ⟨h2, h3, h4.there⟩
    · obtain ⟨b, h1, h2, h3, h4⟩ := E.at_alone (.inr q)
      rw [hs] at h1
      have : a = b := by injection (Option.some.inj (Option.some.inj h1))
      subst this
      exact ⟨h2, h3, h4.there⟩
  obtain ⟨hb, hf, u, hu⟩ := hab
  have ne_ : ∀ {G : Hp} {b : Addr} {w : HO}, G a = none → G b = some w → b ≠ a := fun {G b w} hg hw e => by subst e; rw [hg] at hw; cases hw
  refine ⟨fun b w e => by rw [upd_ne (ne_ hb e)]; exact E.bh _ _ e, E.b0, fun b w e => by rw [upd_ne (ne_ hf e)]; exact E.fh _ _ e, fun k b e => ?_, E.bf, by simp [E.len], fun j t e => ?_, fun j k t t' b jk q1 q2 a1 a2 e1 e2 => ?_⟩
  · by_cases h : b = a
    · subst h; rw [upd_same]; intro z; cases z
    · rw [upd_ne h]; exact E.ih k b e
  · rcases get_set_cases e with ⟨rfl, rfl⟩ | ⟨hne, e⟩
    · rcases hs' with ⟨d, rfl, rfl⟩ | ⟨d, rfl, rfl⟩
      · obtain ⟨b, h1, h2⟩ := E.slot j _ q
        rw [hs] at h1
        have : a = b := by injection (Option.some.inj (Option.some.inj h1))
        subst this
        exact ⟨a, hs, ⟨hb, hf, h2.i, ho⟩⟩
      · obtain ⟨b, h1, h2, _⟩ := E.slot j _ q
        rw [hs] at h1
        have : a = b := by injection (Option.some.inj (Option.some.inj h1))
        subst this
        exact ⟨a, hs, h2, hb, hf, ho⟩
    · have z := E.slot j t e
      cases t with
      | no => trivial
      | sh d => exact z
      | own d =>
        obtain ⟨b, h1, ⟨h2, h3, h4, h5⟩⟩ := z
        have hba : b ≠ a := fun w => by subst w; exact E.dis j i _ _ b hne e q rfl ha h1 hs
        exact ⟨b, h1, ⟨h2, h3, h4, h5.mono (Same.refl _) (upd_ne hba)⟩⟩
      | io d =>
        obtain ⟨b, h1, h2, h3, h4, h5⟩ := z
        have hba : b ≠ a := fun w => by subst w; exact E.dis j i _ _ b hne e q rfl ha h1 hs
        exact ⟨b, h1, h2, h3, h4, h5.mono (Same.refl _) (upd_ne hba)⟩
  · rcases get_set_cases q1 with ⟨rfl, rfl⟩ | ⟨h1, p1⟩
    · rcases get_set_cases q2 with ⟨rfl, rfl⟩ | ⟨h2, p2⟩
      · exact jk rfl
      · exact E.dis j k _ _ b jk q p2 ha a2 e1 e2
    · rcases get_set_cases q2 with ⟨rfl, rfl⟩ | ⟨h2, p2⟩
      · exact E.dis j k _ _ b jk p1 q a1 ha e1 e2
      · exact E.dis j k _ _ b jk p1 p2 a1 a2 e1 e2
end
end VL
end

section
set_option maxRecDepth 100000
set_option maxHeartbeats 1000000
namespace VL
open PySem L2

theorem pe_imp {X : Cx} {e : Expr} {t t' : TE} (h : PE X e t) (k : ∀ σ H Q, t' σ H Q → t σ H Q) : PE X e t' := ⟨fun pins s σ H Q I q => h.run pins s σ H Q I (k _ _ _ q)⟩
theorem pt_imp {X : Cx} {e : Expr} {t t' : TT} (h : PT X e t) (k : ∀ σ H Q, t' σ H Q → t σ H Q) : PT X e t' := ⟨fun pins s σ H Q I q => h.run pins s σ H Q I (k _ _ _ q)⟩
theorem pw_imp {X : Cx} {e : Expr} {t t' : TT} (h : PW X e t) (k : ∀ σ H Q, t' σ H Q → t σ H Q) : PW X e t' := ⟨fun whole pins s σ H Q I q => h.run whole pins s σ H Q I (k _ _ _ q)⟩
theorem pa_imp {X : Cx} {e : List Expr} {t t' : TA} (h : PA X e t) (k : ∀ σ H Q, t' σ H Q → t σ H Q) : PA X e t' := ⟨fun pos pins s σ H Q I q => h.run pos pins s σ H Q I (k _ _ _ q)⟩
theorem ps_imp {X : Cx} {e : Stmt} {t t' : TS} (h : PS X e t) (k : ∀ D σ H, t' D σ H → t D σ H) : PS X e t' := ⟨fun pins s σ H D I q => h.run pins s σ H D I (k _ _ _ q)⟩
theorem pss_imp {X : Cx} {e : List Stmt} {t t' : TS} (h : PSs X e t) (k : ∀ D σ H, t' D σ H → t D σ H) : PSs X e t' := ⟨fun pins s σ H D I q => h.run pins s σ H D I (k _ _ _ q)⟩

def ExcAt (K : PySem.W.Frag) (T : TabC) (B H : Hp) (c : Nat) (fs : List (Str × D)) (cv : Value) (od : Option Addr) : Prop :=
  cv = .ref (T.ex c) ∧ (fs = [] ∨ ∃ d vfs, od = some d ∧ H d = some (.xd vfs) ∧ RepF K T B fs vfs)

def Post {α β : Type} (K : PySem.W.Frag) (T : TabC) (R : Hp → Hp → SEnv → α → β → Prop) (fr : Frm) (W : WX) (B : Hp) (σ : L2.St) (Q : β → Hp → Prop) : Out α → Prop
  | .ok a ρ' => ∀ (B' H' : Hp) (b : β), Same B B' → EnvOk K T fr B' H' ρ' σ → R B' H' ρ' a b → Q b H'
  | .exc c fs ρ' => ∀ (B' H' : Hp) (cv : Value) (od : Option Addr), Same B B' → EnvOk K T fr B' H' ρ' σ → ExcAt K T B' H' c fs cv od → W cv od σ H'
  | .bad => False

section
variable {K : PySem.W.Frag} {T : TabC} {fr : Frm} {W : WX} {B B' H H' : Hp} {ρ ρ' : SEnv} {σ : L2.St}
theorem Post.mono {α β : Type} {R : Hp → Hp → SEnv → α → β → Prop} {Q : β → Hp → Prop} (e : Same B B') : ∀ {o : Out α}, Post K T R fr W B σ Q o → Post K T R fr W B' σ Q o
  | .ok _ _, h => fun B2 H2 b s => h B2 H2 b (e.trans s)
  | .exc _ _ _, h => fun B2 H2 cv od s => h B2 H2 cv od (e.trans s)
theorem Post.bind {α β γ δ : Type} {R : Hp → Hp → SEnv → α → β → Prop} {R2 : Hp → Hp → SEnv → γ → δ → Prop} {Q : δ → Hp → Prop} {Q' : β → Hp → Prop} {k : α → SEnv → Out γ} : ∀ {o : Out α}, Post K T R2 fr W B σ Q (o.bind k) →
    (∀ a ρ1 B1 H1 b, o = .ok a ρ1 → Same B B1 → EnvOk K T fr B1 H1 ρ1 σ → R B1 H1 ρ1 a b → Post K T R2 fr W B1 σ Q (k a ρ1) → Q' b H1) → Post K T R fr W B σ Q' o
  | .ok a ρ1, h, hk => fun B1 H1 b s E r => hk a ρ1 B1 H1 b rfl s E r (Post.mono s h)
  | .exc _ _ _, h, _ => h
theorem Post.done {α β : Type} {R : Hp → Hp → SEnv → α → β → Prop} {Q : β → Hp → Prop} {a : α} {b : β} (h : Post K T R fr W B σ Q (.ok a ρ)) (E : EnvOk K T fr B H ρ σ) (r : R B H ρ a b) : Q b H := h B H b (Same.refl _) E r
theorem Post.opt {α β : Type} {R : Hp → Hp → SEnv → α → β → Prop} {Q : β → Hp → Prop} {o : Option α} (h : Post K T R fr W B σ Q (Out.opt o ρ)) : ∃ a, o = some a ∧ Post K T R fr W B σ Q (.ok a ρ) := by
  cases o with
  | none => exact h.elim
  | some a => exact ⟨a, rfl, h⟩
end

def RV (K : PySem.W.Frag) (T : TabC) : Hp → Hp → SEnv → D → V → Prop := fun B _ _ d v => Rep K T B d v
def RO (K : PySem.W.Frag) (T : TabC) (fr : Frm) (σ : L2.St) : Hp → Hp → SEnv → D → V → Prop := fun B H ρ d v => ∃ a, v = .ref a ∧ OwnAt K T fr B H a d ∧ Apart ρ σ a
def RT (K : PySem.W.Frag) (T : TabC) (σ : L2.St) : Hp → Hp → SEnv → D → V → Prop := fun B _ ρ d v => Rep K T B d v ∨ ∃ i : Nat, (ρ[i]? = some (Slot.own d) ∨ ρ[i]? = some (Slot.io d)) ∧ σ[i]? = some (some v)
def RLs (K : PySem.W.Frag) (T : TabC) : Hp → Hp → SEnv → List D → List V → Prop := fun B _ _ d v => RepL K T B d v
def RB : Hp → Hp → SEnv → Bool → Bool → Prop := fun _ _ _ a b => a = b

def rdE (K : PySem.W.Frag) (T : TabC) (W : WX) (f : SE) : TE := fun σ H Q => ∃ fr B ρ, EnvOk K T fr B H ρ σ ∧ Post K T (RV K T) fr W B σ Q (f ρ)
def rdO (K : PySem.W.Frag) (T : TabC) (W : WX) (f : SE) : TE := fun σ H Q => ∃ fr B ρ, EnvOk K T fr B H ρ σ ∧ Post K T (RO K T fr σ) fr W B σ Q (f ρ)
def rdT (K : PySem.W.Frag) (T : TabC) (W : WX) (f : SE) : TE := fun σ H Q => ∃ fr B ρ, EnvOk K T fr B H ρ σ ∧ Post K T (RT K T σ) fr W B σ Q (f ρ)
def rdA (K : PySem.W.Frag) (T : TabC) (W : WX) (f : SA) : TA := fun σ H Q => ∃ fr B ρ, EnvOk K T fr B H ρ σ ∧ Post K T (RLs K T) fr W B σ Q (f ρ)
def rdB (K : PySem.W.Frag) (T : TabC) (W : WX) (f : ST) : TT := fun σ H Q => ∃ fr B ρ, EnvOk K T fr B H ρ σ ∧ Post K T RB fr W B σ Q (f ρ)

abbrev OKE (X : Cx) (T : TabC) (W : WX) (e : Expr) (f : SE) : Prop := PE X e (rdE X.K T W f)
abbrev OKO (X : Cx) (T : TabC) (W : WX) (e : Expr) (f : SE) : Prop := PE X e (rdO X.K T W f)
abbrev OKT (X : Cx) (T : TabC) (W : WX) (e : Expr) (f : SE) : Prop := PE X e (rdT X.K T W f)
abbrev OKA (X : Cx) (T : TabC) (W : WX) (es : List Expr) (f : SA) : Prop := PA X es (rdA X.K T W f)
abbrev OKB (X : Cx) (T : TabC) (W : WX) (e : Expr) (f : ST) : Prop := PT X e (rdB X.K T W f)
abbrev OKW (X : Cx) (T : TabC) (W : WX) (e : Expr) (f : ST) : Prop := PW X e (rdB X.K T W f)

class PureE (f : SE) : Prop where
  pure : ∀ ρ d ρ', f ρ = .ok d ρ' → ρ' = ρ
class PureA (f : SA) : Prop where
  pure : ∀ ρ d ρ', f ρ = .ok d ρ' → ρ' = ρ
class PureT (f : ST) : Prop where
  pure : ∀ ρ d ρ', f ρ = .ok d ρ' → ρ' = ρ
theorem bind_ok {α β : Type} {o : Out α} {k : α → SEnv → Out β} {b : β} {ρ' : SEnv} (h : o.bind k = .ok b ρ') : ∃ a ρ1, o = .ok a ρ1 ∧ k a ρ1 = .ok b ρ' := by
  cases o with
  | ok a ρ1 => exact ⟨a, ρ1, rfl, h⟩
  | exc c fs ρ1 => cases h
  | bad => cases h
theorem opt_ok {α : Type} {o : Option α} {a : α} {ρ ρ' : SEnv} (h : Out.opt o ρ = .ok a ρ') : o = some a ∧ ρ' = ρ := by
  cases o with
  | none => cases h
  | some b => cases h; exact ⟨rfl, rfl⟩
instance {d : D} : PureE (eC d) := ⟨fun _ _ _ h => by cases h; rfl⟩
instance {i : Nat} : PureE (eVar i) := ⟨fun ρ d ρ' h => by
  unfold eVar at h
  split at h
  · cases h; rfl
  · cases h⟩
instance {i : Nat} : PureE (eBw i) := ⟨fun ρ d ρ' h => by
  unfold eBw at h
  split at h
  · cases h; rfl
  · cases h; rfl
  · cases h⟩
instance : PureA aNil := ⟨fun _ _ _ h => by cases h; rfl⟩
instance {e : SE} {r : SA} [he : PureE e] [hr : PureA r] : PureA (aCons e r) := ⟨fun ρ d ρ' h => by
  obtain ⟨a, ρ1, h1, h2⟩ := bind_ok h
  obtain ⟨b, ρ2, h3, h4⟩ := bind_ok h2
  cases h4
  rw [hr.pure _ _ _ h3, he.pure _ _ _ h1]⟩
instance {e : SE} {r : SA} [he : PureE e] [hr : PureA r] : PureA (aStar e r) := ⟨fun ρ d ρ' h => by
  obtain ⟨a, ρ1, h1, h2⟩ := bind_ok h
  obtain ⟨b, ρ2, h3, h4⟩ := bind_ok h2
  obtain ⟨c, ρ3, h5, h6⟩ := bind_ok h4
  cases h6
  rw [hr.pure _ _ _ h5, (opt_ok h3).2, he.pure _ _ _ h1]⟩
instance {a : SA} [ha : PureA a] : PureE (eTup a) := ⟨fun ρ d ρ' h => by
  obtain ⟨xs, ρ1, h1, h2⟩ := bind_ok h
  split at h2
  · cases h2; exact ha.pure _ _ _ h1
  · cases h2⟩
instance {a : SA} [ha : PureA a] : PureE (eLst a) := ⟨fun ρ d ρ' h => by
  obtain ⟨xs, ρ1, h1, h2⟩ := bind_ok h
  split at h2
  · cases h2; exact ha.pure _ _ _ h1
  · cases h2⟩
instance {op : D → D → Option D} {a b : SE} [ha : PureE a] [hb : PureE b] : PureE (eOp op a b) := ⟨fun ρ d ρ' h => by
  obtain ⟨x, ρ1, h1, h2⟩ := bind_ok h
  obtain ⟨y, ρ2, h3, h4⟩ := bind_ok h2
  rw [(opt_ok h4).2, hb.pure _ _ _ h3, ha.pure _ _ _ h1]⟩
instance {op : D → Option D} {a : SE} [ha : PureE a] : PureE (eUn op a) := ⟨fun ρ d ρ' h => by
  obtain ⟨x, ρ1, h1, h2⟩ := bind_ok h
  rw [(opt_ok h2).2, ha.pure _ _ _ h1]⟩
instance {fn : FnS} {a : SA} [ha : PureA a] : PureE (eCall fn a) := ⟨fun ρ d ρ' h => by
  obtain ⟨x, ρ1, h1, h2⟩ := bind_ok h
  split at h2
  · cases h2; exact ha.pure _ _ _ h1
  · cases h2
  · cases h2⟩
instance {c : Nat} {fn : FnS} {a : SA} [ha : PureA a] : PureE (eNew c fn a) := ⟨fun ρ d ρ' h => by
  obtain ⟨x, ρ1, h1, h2⟩ := bind_ok h
  split at h2
  · cases h2; exact ha.pure _ _ _ h1
  · cases h2
  · cases h2⟩
instance {m : Str} {tab : Nat → Option FnS} {o : SE} {a : SA} [ho : PureE o] [ha : PureA a] : PureE (eMeth m tab o a) := ⟨fun ρ d ρ' h => by
  obtain ⟨x, ρ1, h1, h2⟩ := bind_ok h
  split at h2
  · split at h2
    · split at h2
      · obtain ⟨y, ρ2, h3, h4⟩ := bind_ok h2
        split at h4
        · cases h4
          rw [ha.pure _ _ _ h3, ho.pure _ _ _ h1]
        · cases h4
        · cases h4
      · cases h2
    · cases h2
  · cases h2⟩
instance {a : SA} {dfl : List D} [ha : PureA a] : PureA (aDef a dfl) := ⟨fun ρ d ρ' h => by
  obtain ⟨x, ρ1, h1, h2⟩ := bind_ok h
  cases h2; exact ha.pure _ _ _ h1⟩
class PureP (f : SP) : Prop where
  pure : ∀ ρ d ρ', f ρ = .ok d ρ' → ρ' = ρ
instance : PureP pNo := ⟨fun _ _ _ h => by cases h; rfl⟩
instance {e : SE} [h0 : PureE e] : PureP (pAt e) := ⟨fun ρ d ρ' h => by
  obtain ⟨x, ρ1, a1, h⟩ := bind_ok h
  split at h
  · cases h; exact h0.pure _ _ _ a1
  · cases h⟩
instance {e : SE} {lo hi : SP} [h0 : PureE e] [h1 : PureP lo] [h2 : PureP hi] : PureE (eSlL e lo hi) := ⟨fun ρ d ρ' h => by
  obtain ⟨x, ρ1, a1, h⟩ := bind_ok h
  obtain ⟨y, ρ2, a2, h⟩ := bind_ok h
  obtain ⟨z, ρ3, a3, h⟩ := bind_ok h
  split at h
  · cases h; rw [h2.pure _ _ _ a3, h1.pure _ _ _ a2, h0.pure _ _ _ a1]
  · cases h; rw [h2.pure _ _ _ a3, h1.pure _ _ _ a2, h0.pure _ _ _ a1]
  · cases h⟩
instance {e : SE} {lo hi : SP} [h0 : PureE e] [h1 : PureP lo] [h2 : PureP hi] : PureE (eSlT e lo hi) := ⟨fun ρ d ρ' h => by
  obtain ⟨x, ρ1, a1, h⟩ := bind_ok h
  obtain ⟨y, ρ2, a2, h⟩ := bind_ok h
  obtain ⟨z, ρ3, a3, h⟩ := bind_ok h
  split at h
  · cases h; rw [h2.pure _ _ _ a3, h1.pure _ _ _ a2, h0.pure _ _ _ a1]
  · cases h⟩
instance {e : SE} [h0 : PureE e] : PureT (tE e) := ⟨fun ρ d ρ' h => by
  obtain ⟨x, ρ1, a1, h⟩ := bind_ok h
  split at h
  · cases h; exact h0.pure _ _ _ a1
  · cases h⟩
instance {e : SE} [h0 : PureE e] : PureT (tTru e) := ⟨fun ρ d ρ' h => by
  obtain ⟨x, ρ1, a1, h⟩ := bind_ok h
  rw [(opt_ok h).2, h0.pure _ _ _ a1]⟩
instance {t : ST} [h0 : PureT t] : PureT (tNot t) := ⟨fun ρ d ρ' h => by
  obtain ⟨x, ρ1, a1, h⟩ := bind_ok h
  cases h; exact h0.pure _ _ _ a1⟩
instance {t u : ST} [h0 : PureT t] [h1 : PureT u] : PureT (tAnd t u) := ⟨fun ρ d ρ' h => by
  obtain ⟨x, ρ1, a1, h⟩ := bind_ok h
  split at h
  · rw [h1.pure _ _ _ h, h0.pure _ _ _ a1]
  · cases h; exact h0.pure _ _ _ a1⟩
instance {t u : ST} [h0 : PureT t] [h1 : PureT u] : PureT (tOr t u) := ⟨fun ρ d ρ' h => by
  obtain ⟨x, ρ1, a1, h⟩ := bind_ok h
  split at h
  · cases h; exact h0.pure _ _ _ a1
  · rw [h1.pure _ _ _ h, h0.pure _ _ _ a1]⟩
instance {t : ST} {a b : SE} [h0 : PureT t] [h1 : PureE a] [h2 : PureE b] : PureE (eIf t a b) := ⟨fun ρ d ρ' h => by
  obtain ⟨x, ρ1, a1, h⟩ := bind_ok h
  split at h
  · rw [h1.pure _ _ _ h, h0.pure _ _ _ a1]
  · rw [h2.pure _ _ _ h, h0.pure _ _ _ a1]⟩
instance {a b : SE} [h0 : PureE a] [h1 : PureE b] : PureE (eAnd a b) := ⟨fun ρ d ρ' h => by
  obtain ⟨x, ρ1, a1, h⟩ := bind_ok h
  split at h
  · rw [h1.pure _ _ _ h, h0.pure _ _ _ a1]
  · cases h; exact h0.pure _ _ _ a1
  · cases h⟩
instance {a b : SE} [h0 : PureE a] [h1 : PureE b] : PureE (eOr a b) := ⟨fun ρ d ρ' h => by
  obtain ⟨x, ρ1, a1, h⟩ := bind_ok h
  split at h
  · cases h; exact h0.pure _ _ _ a1
  · rw [h1.pure _ _ _ h, h0.pure _ _ _ a1]
  · cases h⟩

inductive Grow (B H : Hp) : Hp → Hp → Prop
  | refl : Grow B H B H
  | new {p : Addr} (o : HO) (h : H p = none) : Grow B H (upd B p o) (upd H p o)
section
variable {K : PySem.W.Frag} {T : TabC} {fr : Frm} {W : WX} {B B' H H' : Hp} {ρ ρ' : SEnv} {σ : L2.St}
theorem Grow.same (E : EnvOk K T fr B H ρ σ) (g : Grow B H B' H') : Same B B' := by
  cases g with
  | refl => exact Same.refl _
  | new o h => exact upd_free (E.bh.free h)
theorem Grow.env (E : EnvOk K T fr B H ρ σ) (g : Grow B H B' H') : EnvOk K T fr B' H' ρ σ := by
  cases g with
  | refl => exact E
  | new o h => exact E.allocSh h
end
def rOf (K : PySem.W.Frag) (T : TabC) (op : D → D → Option D) : R2 := fun x y H Q => ∃ B d1 d2 d, Same B H ∧ Rep K T B d1 x ∧ Rep K T B d2 y ∧ op d1 d2 = some d ∧ ∀ B' H' v, Grow B H B' H' → Rep K T B' d v → Q v H'
def Tp (K : PySem.W.Frag) (T : TabC) (B H : Hp) (d : D) (v : V) : Prop := Rep K T B d v ∨ ∃ a, v = .ref a ∧ ObjAt K T B H a d
def rOfT (K : PySem.W.Frag) (T : TabC) (op : D → D → Option D) : R2 := fun x y H Q => ∃ B d1 d2 d, Same B H ∧ Tp K T B H d1 x ∧ Tp K T B H d2 y ∧ op d1 d2 = some d ∧ ∀ B' H' v, Grow B H B' H' → Rep K T B' d v → Q v H'
def rUnT (K : PySem.W.Frag) (T : TabC) (op : D → Option D) : V → Hp → VK → Prop := fun x H Q => ∃ B d1 d, Same B H ∧ Tp K T B H d1 x ∧ op d1 = some d ∧ ∀ B' H' v, Grow B H B' H' → Rep K T B' d v → Q v H'

section
variable {X : Cx} {T : TabC} {W : WX}

theorem RT.tp {fr : Frm} {B H : Hp} {ρ : SEnv} {σ : L2.St} {d : D} {v : V} (E : EnvOk X.K T fr B H ρ σ) (r : RT X.K T σ B H ρ d v) : Tp X.K T B H d v := by
  rcases r with r | ⟨i, q, e⟩
  · exact .inl r
  · obtain ⟨a, h1, _, _, h4⟩ := E.at_alone q
    rw [h1] at e
    cases e
    exact .inr ⟨a, rfl, h4⟩
theorem OKE.top {e : Expr} {f : SE} (h : OKE X T W e f) : OKT X T W e f := pe_imp h fun σ H Q ⟨fr, B, ρ, E, p⟩ => ⟨fr, B, ρ, E, by
  cases q : f ρ with
  | ok d ρ' => rw [q] at p; exact fun B' H' v s E' r => p B' H' v s E' (.inl r)
  | exc c fs ρ' => rw [q] at p; exact p
  | bad => rw [q] at p; exact p⟩
theorem OKO.toE {e : Expr} {f : SE} (h : OKO X T W e f) : OKE X T W e f := pe_imp h fun σ H Q ⟨fr, B, ρ, E, p⟩ => ⟨fr, B, ρ, E, by
  cases q : f ρ with
  | ok d ρ' =>
    rw [q] at p
    rintro B' H' v s E' ⟨a, rfl, r, ap⟩
    obtain ⟨o, _, E2, s2, r2⟩ := E'.share r ap
    exact p _ _ _ (s.trans s2) E2 r2
  | exc c fs ρ' => rw [q] at p; exact p
  | bad => rw [q] at p; exact p⟩

theorem ok_var {i : Nat} {x : Str} {pos : Pos} (hN : X.N[i]? = some x := by rfl) (hv : Vis X.env.scope x := by first | exact Or.inl rfl | exact Or.inr (Or.inl rfl) | exact Or.inr (Or.inr rfl)) (hd : (x == ("__debug__" : Str)) = false := by decide)
    (hcd : (x == ("__classdict__" : Str)) = false := by decide) : OKE X T W (.Name x pos) (eVar i) := pe_imp (pe_var hN hv hd hcd) fun σ H Q ⟨fr, B, ρ, E, p⟩ => by
  unfold eVar at p
  split at p
  · rename_i d q
    obtain ⟨v, h1, h2⟩ := E.slot i _ q
    exact ⟨v, h1, p.done E h2⟩
  · exact p.elim
theorem ok_bw {i : Nat} {x : Str} {pos : Pos} (hN : X.N[i]? = some x := by rfl) (hv : Vis X.env.scope x := by first | exact Or.inl rfl | exact Or.inr (Or.inl rfl) | exact Or.inr (Or.inr rfl)) (hd : (x == ("__debug__" : Str)) = false := by decide)
    (hcd : (x == ("__classdict__" : Str)) = false := by decide) : OKT X T W (.Name x pos) (eBw i) := pe_imp (pe_var hN hv hd hcd) fun σ H Q ⟨fr, B, ρ, E, p⟩ => by
  unfold eBw at p
  split at p
  · rename_i d q
    obtain ⟨a, h1, h2, h3⟩ := E.at_own q
    exact ⟨.ref a, h1, p.done E (.inr ⟨i, .inl q, h1⟩)⟩
  · rename_i d q
    obtain ⟨a, h1, _⟩ := E.at_alone (.inr q)
    exact ⟨.ref a, h1, p.done E (.inr ⟨i, .inr q, h1⟩)⟩
  · exact p.elim
theorem okC {e : Expr} {v : V} {d : D} (h : PE X e (tC v)) (r : ∀ B, Rep X.K T B d v) : OKE X T W e (eC d) := pe_imp h fun σ H Q ⟨fr, B, ρ, E, p⟩ => p.done (b := v) E (r B)
theorem ok_int {i : Int} {j : Nat} {pos : Pos} : OKE X T W (.Constant (.int i) j pos) (eC (.int i)) := okC pe_int fun _ => .int i
theorem ok_bl {b : Bool} {j : Nat} {pos : Pos} : OKE X T W (.Constant (.bool b) j pos) (eC (.bl b)) := okC pe_bl fun _ => .bl b
theorem ok_non {j : Nat} {pos : Pos} : OKE X T W (.Constant .none j pos) (eC .non) := okC pe_non fun _ => .non
theorem ok_str {s : Str} {j : Nat} {pos : Pos} : OKE X T W (.Constant (.str s) j pos) (eC (.str s)) := okC pe_str fun _ => .str s
theorem ok_glob {x : Str} {v : V} {d : D} {u : Value} {pos : Pos} (hm : X.mg x = some u) (r : RelV v u) (q : ∀ B, Rep X.K T B d v) (hg : Gl X x := by rfl) (hd : (x == ("__debug__" : Str)) = false := by decide) : OKE X T W (.Name x pos) (eC d) := okC (pe_glob hg hm r hd) q

theorem okA_nil : OKA X T W [] aNil := pa_imp pa_nil fun σ H Q ⟨fr, B, ρ, E, p⟩ => p.done (b := []) E .nil
theorem okA_cons {e : Expr} {es : List Expr} {f : SE} {g : SA} (ha : OKE X T W e f) (hr : OKA X T W es g) (hs : starEach (e :: es) X.env = (false, eval e X.env) :: starEach es X.env := by rfl) : OKA X T W (e :: es) (aCons f g) :=
  pa_imp (pa_cons ha hr hs) fun σ H Q ⟨fr, B, ρ, E, p⟩ => ⟨fr, B, ρ, E, p.bind fun d ρ1 B1 H1 v _ s1 E1 r1 p1 => ⟨fr, B1, ρ1, E1, p1.bind fun ds ρ2 B2 H2 vs _ s2 E2 r2 p2 => p2.done E2 (.cons (Rep.mono s2 r1) r2)⟩⟩
theorem Tp.items {K : PySem.W.Frag} {B H : Hp} {d : D} {v : V} {xs : List D} (sb : Same B H) (h : Tp K T B H d v) (e : itemsD d = some xs) : ∃ a vs, v = .ref a ∧ (SqT K H a vs ∨ SqL K H a vs) ∧ RepL K T B xs vs := by
  rcases h with h | ⟨a, rfl, h⟩
  · cases h with
    | tup hs r => cases e; exact ⟨_, _, rfl, .inl (sameT sb hs), r⟩
    | lst hs r => cases e; exact ⟨_, _, rfl, .inr (SqL.of (sb _ _ hs)), r⟩
    | scr hs => cases e; exact ⟨_, _, rfl, .inr (sb.seq hs), RepL.ints _⟩
    | _ => cases e
  · cases d with
    | lst ys => cases e; obtain ⟨vs, h1, h2⟩ := h; exact ⟨_, _, rfl, .inr (SqL.of h1), h2⟩
    | ins c fs => cases e
    | dic kvs => cases e
    | dct kvs => cases e
    | _ => exact h.elim
theorem okA_star {e : Expr} {es : List Expr} {f : SE} {g : SA} {p : Pos} (ha : OKT X T W e f) (hr : OKA X T W es g) (hs : starEach (.Starred e p :: es) X.env = (true, eval e X.env) :: starEach es X.env := by rfl) : OKA X T W (.Starred e p :: es) (aStar f g) :=
  pa_imp (StX.pa_star ha hr hs) fun σ H Q ⟨fr, B, ρ, E, p⟩ => ⟨fr, B, ρ, E, p.bind fun d ρ1 B1 H1 v _ s1 E1 r1 p1 => by
    cases hx : itemsD d with
    | none => rw [hx] at p1; exact p1.elim
    | some xs =>
      rw [hx] at p1
      obtain ⟨a, vs, rfl, hq, rl⟩ := (RT.tp E1 r1).items E1.bh hx
      exact ⟨a, vs, rfl, hq, fr, B1, ρ1, E1, Post.bind (o := g ρ1) p1 fun ds ρ2 B2 H2 ws _ s2 E2 r2 p2 => p2.done E2 ((rl.mono s2).append r2)⟩⟩
theorem sz_eq : (SZ : Nat) = sizeLine := by rw [sizeLine_eq]
theorem ok_tup {es : List Expr} {f : SA} {j : Nat} {pos : Pos} (h : OKA X T W es f) : OKE X T W (.Tuple es j pos) (eTup f) := pe_imp (pe_tup h) fun σ H Q ⟨fr, B, ρ, E, p⟩ => ⟨fr, B, ρ, E, p.bind fun ds ρ1 B1 H1 vs _ s1 E1 r1 p1 => by
  split at p1
  · rename_i hz
    refine ⟨by rw [← RepL.length r1, ← sz_eq]; exact hz, fun q hq => ?_⟩
    have g : Grow B1 H1 (upd B1 q (.tup vs)) (upd H1 q (.tup vs)) := .new _ hq
    exact p1 _ _ _ (g.same E1) (g.env E1) (.tup (SqT.of upd_same) (RepL.mono (g.same E1) r1))
  · exact p1.elim⟩
theorem OwnAt.new {K : PySem.W.Frag} {fr : Frm} {B H : Hp} {ρ : SEnv} {σ : L2.St} {p : Addr} {d : D} {o : HO} (E : EnvOk K T fr B H ρ σ) (hp : H p = none) (r : ObjAt K T B (upd H p o) p d) : OwnAt K T fr B (upd H p o) p d :=
  ⟨E.bh.free hp, E.fh.free hp, fun k q => E.ih k p q hp, r⟩
theorem ok_lst {es : List Expr} {f : SA} {pos : Pos} (h : OKA X T W es f) : OKO X T W (.List es pos) (eLst f) := pe_imp (pe_lst h) fun σ H Q ⟨fr, B, ρ, E, p⟩ => ⟨fr, B, ρ, E, p.bind fun ds ρ1 B1 H1 vs _ s1 E1 r1 p1 => by
  split at p1
  · rename_i hz
    refine ⟨by rw [← RepL.length r1, ← sz_eq]; exact hz, fun q hq => ?_⟩
    exact p1 _ _ _ (Same.refl _) (E1.allocOwn hq) ⟨q, rfl, OwnAt.new E1 hq ⟨vs, upd_same, r1⟩, E1.apart_new hq⟩
  · exact p1.elim⟩

theorem read2 {f g : SE} {op : D → D → Option D} {r : R2} (hr : ∀ x y H Q, rOf X.K T op x y H Q → r x y H Q) {σ : L2.St} {H : Hp} {Q : VK} (h : rdE X.K T W (eOp op f g) σ H Q) : tOp r (rdE X.K T W f) (rdE X.K T W g) σ H Q := by
  obtain ⟨fr, B, ρ, E, p⟩ := h
  exact ⟨fr, B, ρ, E, p.bind fun d ρ1 B1 H1 v _ s1 E1 r1 p1 => ⟨fr, B1, ρ1, E1, p1.bind fun d2 ρ2 B2 H2 v2 _ s2 E2 r2 p2 => by
    obtain ⟨d3, e3, p3⟩ := p2.opt
    exact hr _ _ _ _ ⟨B2, d, d2, d3, E2.bh, Rep.mono s2 r1, r2, e3, fun B' H' w g r3 => p3 _ _ _ (g.same E2) (g.env E2) r3⟩⟩⟩
theorem RT.keep {K : PySem.W.Frag} {B B' H H' : Hp} {ρ : SEnv} {σ : L2.St} {d : D} {v : V} (s : Same B B') (r : RT K T σ B H ρ d v) : RT K T σ B' H' ρ d v := by
  rcases r with r | r
  · exact .inl (Rep.mono s r)
  · exact .inr r
theorem read2T {f g : SE} [hg : PureE g] {op : D → D → Option D} {r : R2} (hr : ∀ x y H Q, rOfT X.K T op x y H Q → r x y H Q) {σ : L2.St} {H : Hp} {Q : VK} (h : rdE X.K T W (eOp op f g) σ H Q) : tOp r (rdT X.K T W f) (rdT X.K T W g) σ H Q := by
  obtain ⟨fr, B, ρ, E, p⟩ := h
  exact ⟨fr, B, ρ, E, p.bind fun d ρ1 B1 H1 v _ s1 E1 r1 p1 => ⟨fr, B1, ρ1, E1, p1.bind fun d2 ρ2 B2 H2 v2 e2 s2 E2 r2 p2 => by
    obtain ⟨d3, e3, p3⟩ := p2.opt
    have er : ρ2 = ρ1 := hg.pure _ _ _ e2
    subst er
    exact hr _ _ _ _ ⟨B2, d, d2, d3, E2.bh, RT.tp E2 (RT.keep s2 r1), RT.tp E2 r2, e3, fun B' H' w g r3 => p3 _ _ _ (g.same E2) (g.env E2) r3⟩⟩⟩
theorem OpR.wk {f : Value → Value → Sem Value} {r r' : R2} (h : OpR X f r) (k : ∀ x y H Q, r' x y H Q → r x y H Q) : OpR X f r' := fun pins s σ H x y v u Q I rx ry q => h pins s σ H x y v u Q I rx ry (k _ _ _ _ q)
def OpV (X : Cx) (T : TabC) (f : Value → Value → Sem Value) (op : D → D → Option D) : Prop := OpR X f (rOf X.K T op)
def OpTV (X : Cx) (T : TabC) (f : Value → Value → Sem Value) (op : D → D → Option D) : Prop := OpR X f (rOfT X.K T op)
theorem ok_op {a b : Expr} {f g : SE} {o : Operator} {op : D → D → Option D} {pos : Pos} (ho : OpV X T (binaryOp o) op) (ha : OKE X T W a f) (hb : OKE X T W b g) : OKE X T W (.BinOp a o b pos) (eOp op f g) :=
  pe_imp (pe_op ho ha hb) fun σ H Q h => read2 (fun _ _ _ _ q => q) h
theorem ok_cmp {a b : Expr} {f g : SE} {o : CmpOp} {op : D → D → Option D} {pos : Pos} (ho : OpV X T (compareOp o) op) (ha : OKE X T W a f) (hb : OKE X T W b g) (hm : behindInMarks o b = false := by first | exact nomark _ | rfl) : OKE X T W (.Compare a [o] [b] pos) (eOp op f g) :=
  pe_imp (pe_cmpR ho ha hb hm) fun σ H Q h => read2 (fun _ _ _ _ q => q) h
theorem ok_cmpT {a b : Expr} {f g : SE} [PureE g] {o : CmpOp} {op : D → D → Option D} {pos : Pos} (ho : OpTV X T (compareOp o) op) (ha : OKT X T W a f) (hb : OKT X T W b g) (hm : behindInMarks o b = false := by first | exact nomark _ | rfl) : OKE X T W (.Compare a [o] [b] pos) (eOp op f g) :=
  pe_imp (pe_cmpR ho ha hb hm) fun σ H Q h => read2T (fun _ _ _ _ q => q) h

theorem ops_int {f : Value → Value → Sem Value} {op : D → D → Option D} {r : R2} (h : OpR X f r)
    (k : ∀ d1 d2 d, op d1 d2 = some d → ∃ i j, d1 = .int i ∧ d2 = .int j ∧ ∃ w, (∀ B, Rep X.K T B d w) ∧ ∀ (H : Hp) (Q : VK), Q w H → r (.int i) (.int j) H Q) : OpV X T f op :=
  OpR.wk h fun x y H Q ⟨B, d1, d2, d, s, r1, r2, e, q⟩ => by
    obtain ⟨i, j, rfl, rfl, w, hw, hr⟩ := k d1 d2 d e
    cases r1
    cases r2
    exact hr H Q (q B H w .refl (hw B))
theorem noPy {x y : Int} (h : divOk x y = true) : Builtin.divisionGoesByPylong x y = false := by
  unfold divOk at h
  rw [Bool.and_eq_true, Bool.or_eq_true, decide_eq_true_iff, decide_eq_true_iff, decide_eq_true_iff] at h
  rcases h.2 with h2 | h2
  · exact PyProof.noPylong_of_log2 h2
  · have hy : (y == 0) = false := by
      have := h.1
      simp only [beq_eq_false_iff_ne]
      omega
    have key : (if x == 0 then 0 else x.natAbs.log2 / 30 + 1) ≤ (if y == 0 then 0 else y.natAbs.log2 / 30 + 1) + 150 := by
      rw [hy]
      by_cases hx : (x == 0) = true
      · rw [if_pos hx]; exact Nat.zero_le _
      · rw [if_neg hx]
        show _ ≤ y.natAbs.log2 / 30 + 1 + 150
        omega
    show (_ && decide ((if x == 0 then 0 else x.natAbs.log2 / 30 + 1) > (if y == 0 then 0 else y.natAbs.log2 / 30 + 1) + 150)) = false
    rw [decide_eq_false (Nat.not_lt.mpr key), Bool.and_false]
theorem op_fdivX {X : Cx} : OpR X (binaryOp .FloorDiv) (rI (fun i j => divOk i j = true) fun i j => .int (i / j)) := opI fun i j _ _ _ _ _ hc q => by
  have h1 : (0 : Int) < j := by
    have := hc
    unfold divOk at this
    rw [Bool.and_eq_true, decide_eq_true_iff] at this
    exact this.1
  exact PyProof.Rows.floordiv_int (by omega) (by rw [Int.fdiv_eq_ediv_of_nonneg i (by omega)]; exact q) (.inl (noPy hc))
theorem v_div : OpV X T (binaryOp .FloorDiv) oDiv := ops_int op_fdivX fun d1 d2 d e => by
  unfold oDiv at e
  split at e
  · split at e <;> cases e
    rename_i h
    exact ⟨_, _, rfl, rfl, _, fun _ => .int _, fun H Q q => ⟨_, _, rfl, rfl, h, q⟩⟩
  · cases e
theorem v_mod : OpV X T (binaryOp .Mod) oMod := ops_int op_mod fun d1 d2 d e => by
  unfold oMod at e
  split at e
  · split at e <;> cases e
    rename_i h
    exact ⟨_, _, rfl, rfl, _, fun _ => .int _, fun H Q q => ⟨_, _, rfl, rfl, h, q⟩⟩
  · cases e
theorem v_pow : OpV X T (binaryOp .Pow) oPow := ops_int op_pow fun d1 d2 d e => by
  unfold oPow at e
  split at e
  · split at e <;> cases e
    rename_i h
    exact ⟨_, _, rfl, rfl, _, fun _ => .int _, fun H Q q => ⟨_, _, rfl, rfl, h, q⟩⟩
  · cases e
theorem v_lt : OpV X T (compareOp .Lt) oLt := ops_int op_lt fun d1 d2 d e => by
  unfold oLt at e
  split at e <;> cases e
  exact ⟨_, _, rfl, rfl, _, fun _ => .bl _, fun H Q q => ⟨_, _, rfl, rfl, q⟩⟩
theorem v_le : OpV X T (compareOp .LtE) oLe := ops_int op_le fun d1 d2 d e => by
  unfold oLe at e
  split at e <;> cases e
  exact ⟨_, _, rfl, rfl, _, fun _ => .bl _, fun H Q q => ⟨_, _, rfl, rfl, q⟩⟩
theorem v_gt : OpV X T (compareOp .Gt) oGt := ops_int op_gt fun d1 d2 d e => by
  unfold oGt at e
  split at e <;> cases e
  exact ⟨_, _, rfl, rfl, _, fun _ => .bl _, fun H Q q => ⟨_, _, rfl, rfl, q⟩⟩
theorem v_ge : OpV X T (compareOp .GtE) oGe := ops_int op_ge fun d1 d2 d e => by
  unfold oGe at e
  split at e <;> cases e
  exact ⟨_, _, rfl, rfl, _, fun _ => .bl _, fun H Q q => ⟨_, _, rfl, rfl, q⟩⟩
theorem RepL.nil_iff {K : PySem.W.Frag} {B : Hp} {xs : List D} {vs : List V} (r : RepL K T B xs vs) : vs = [] ↔ xs = [] := by
  cases r with
  | nil => exact ⟨fun _ => rfl, fun _ => rfl⟩
  | cons _ _ => exact ⟨fun h => (nomatch h), fun h => (nomatch h)⟩
theorem v_add : OpV X T (binaryOp .Add) oAdd := by
  refine OpR.wk ((op_add.or op_catA).or (op_cat.or op_add_str)) fun x y H Q ⟨B, d1, d2, d, s, r1, r2, e, q⟩ => ?_
  unfold oAdd at e
  split at e
  · cases e
    cases r1
    cases r2
    exact .inl (.inl ⟨_, _, rfl, rfl, q B H _ .refl (.int _)⟩)
  · split at e <;> cases e
    rename_i hz
    cases r1 with
    | lst h1 l1 =>
      cases r2 with
      | lst h2 l2 =>
        refine .inr (.inl ⟨_, _, _, _, rfl, rfl, s _ _ h1, s _ _ h2, by rw [← l1.length, ← l2.length, ← sz_eq]; exact hz, fun p hp => ?_⟩)
        exact q _ _ _ (.new _ hp) (.lst upd_same ((l1.append l2).mono (upd_free (s.free hp))))
  · split at e <;> cases e
    rename_i hz
    cases r1 with
    | tup h1 l1 =>
      cases r2 with
      | tup h2 l2 =>
        refine .inl (.inr ⟨_, _, _, _, rfl, rfl, sameT s h1, sameT s h2, by rw [← l1.length, ← l2.length, ← sz_eq]; exact hz, fun e0 => ?_, fun _ e1 => ?_, fun _ _ p hp => ?_⟩)
        · have z := (RepL.nil_iff l1).mp e0
          subst z
          exact q B H _ .refl (.tup h2 l2)
        · have z := (RepL.nil_iff l2).mp e1
          subst z
          exact q B H _ .refl (.tup h1 (by rw [List.append_nil]; exact l1))
        · exact q _ _ _ (.new _ hp) (.tup (SqT.of upd_same) ((l1.append l2).mono (upd_free (s.free hp))))
  · split at e <;> cases e
    rename_i hz
    cases r1
    cases r2
    exact .inr (.inr ⟨_, _, rfl, rfl, by rw [← sz_eq]; exact hz, q B H _ .refl (.str _)⟩)
  · cases e
theorem v_mul : OpV X T (binaryOp .Mult) oMul := by
  refine OpR.wk (op_mulW.or op_rep) fun x y H Q ⟨B, d1, d2, d, s, r1, r2, e, q⟩ => ?_
  unfold oMul at e
  split at e
  · split at e <;> cases e
    rename_i h
    cases r1
    cases r2
    unfold mulOk at h
    exact .inl ⟨_, _, rfl, rfl, of_decide_eq_true (p := _ < 1000000) h, q B H _ .refl (.int _)⟩
  · split at e <;> cases e
    rename_i hz
    cases r2
    cases r1 with
    | lst h1 l1 =>
      refine .inr ⟨_, _, _, rfl, rfl, s _ _ h1, by omega, by omega, by rw [← l1.length, ← sz_eq]; exact hz.2.2, fun p hp => ?_⟩
      exact q _ _ _ (.new _ hp) (.lst upd_same ((l1.flat _).mono (upd_free (s.free hp))))
  · cases e
end
end VL
end

section
set_option maxRecDepth 100000
set_option maxHeartbeats 1000000
namespace VL
open PySem L2

mutual
def toPy : D → PyData
  | .non => .none
  | .bl b => .bool b
  | .int i => .int i
  | .str s => .str s
  | .tup xs => .tuple (toPys xs)
  | .lst xs => .list (toPys xs)
  | .scr _ => .none
  | .ins _ _ => .none
  | .dic _ => .none
  | .sti _ => .none
  | .dct _ => .none
def toPys : List D → List PyData
  | [] => []
  | x :: xs => toPy x :: toPys xs
end
mutual
theorem lay_of : ∀ d : D, plainD d = true → (toPy d).canLay0 = true ∧ (toPy d).depth = depD d
  | .non, _ => by simp [toPy, PyData.canLay0, PyData.depth, depD]
  | .bl _, _ => by simp [toPy, PyData.canLay0, PyData.depth, depD]
  | .int _, _ => by simp [toPy, PyData.canLay0, PyData.depth, depD]
  | .str s, h => by
    simp only [toPy, PyData.canLay0, PyData.depth, depD, and_true]
    exact h
  | .tup xs, h => by
    obtain ⟨h1, h2⟩ := lays_of xs h
    simp only [toPy, PyData.canLay0, PyData.depth, depD]
    exact ⟨h1, by rw [h2]⟩
  | .lst xs, h => by
    obtain ⟨h1, h2⟩ := lays_of xs h
    simp only [toPy, PyData.canLay0, PyData.depth, depD]
    exact ⟨h1, by rw [h2]⟩
  | .scr _, h => nomatch h
  | .ins _ _, h => nomatch h
  | .dic _, h => nomatch h
  | .sti _, h => nomatch h
  | .dct _, h => nomatch h
theorem lays_of : ∀ ds : List D, plainDs ds = true → PyData.canLayAll0 (toPys ds) = true ∧ PyData.depthAll (toPys ds) = depDs ds
  | [], _ => by simp [toPys, PyData.canLayAll0, PyData.depthAll, depDs]
  | x :: xs, h => by
    have h' : (plainD x && plainDs xs) = true := h
    rw [Bool.and_eq_true] at h'
    obtain ⟨a1, a2⟩ := lay_of x h'.1
    obtain ⟨b1, b2⟩ := lays_of xs h'.2
    simp [toPys, PyData.canLayAll0, PyData.depthAll, depDs, a1, a2, b1, b2]
end
theorem shaped_of {d : D} (h : shp d = true) : SeqAt.shaped (toPy d) = true := by
  unfold shp at h
  rw [Bool.and_eq_true, decide_eq_true_iff] at h
  obtain ⟨a, b⟩ := lay_of d h.1
  unfold SeqAt.shaped
  rw [Bool.and_eq_true, decide_eq_true_iff]
  exact ⟨a, by omega⟩
mutual
theorem eqv_of : ∀ (d e : D), plainD d = true → plainD e = true → PyData.eqv (toPy d) (toPy e) = eqD d e
  | .non, e, _, he => by cases e <;> first | rfl | exact nomatch he
  | .bl _, e, _, he => by cases e <;> first | rfl | exact nomatch he
  | .int _, e, _, he => by cases e <;> first | rfl | exact nomatch he
  | .str _, e, _, he => by cases e <;> first | rfl | exact nomatch he
  | .tup xs, e, hd, he => by
    cases e with
    | tup ys => exact eqvs_of xs ys hd he
    | _ => first | rfl | exact nomatch he
  | .lst xs, e, hd, he => by
    cases e with
    | lst ys => exact eqvs_of xs ys hd he
    | _ => first | rfl | exact nomatch he
  | .scr _, _, h, _ => nomatch h
  | .ins _ _, _, h, _ => nomatch h
  | .dic _, _, h, _ => nomatch h
  | .sti _, _, h, _ => nomatch h
  | .dct _, _, h, _ => nomatch h
theorem eqvs_of : ∀ (ds es : List D), plainDs ds = true → plainDs es = true → PyData.eqvAll (toPys ds) (toPys es) = eqDs ds es
  | [], [], _, _ => rfl
  | [], _ :: _, _, _ => rfl
  | _ :: _, [], _, _ => rfl
  | x :: xs, y :: ys, hd, he => by
    have hd' : (plainD x && plainDs xs) = true := hd
    have he' : (plainD y && plainDs ys) = true := he
    rw [Bool.and_eq_true] at hd' he'
    show (PyData.eqv (toPy x) (toPy y) && PyData.eqvAll (toPys xs) (toPys ys)) = (eqD x y && eqDs xs ys)
    rw [eqv_of x y hd'.1 he'.1, eqvs_of xs ys hd'.2 he'.2]
end
theorem anys_of (d : D) (hd : plainD d = true) : ∀ (ds : List D), plainDs ds = true → ((toPys ds).any fun z => PyData.eqv z (toPy d)) = ds.any fun y => eqD y d
  | [], _ => rfl
  | x :: xs, h => by
    have h' : (plainD x && plainDs xs) = true := h
    rw [Bool.and_eq_true] at h'
    show (PyData.eqv (toPy x) (toPy d) || (toPys xs).any fun z => PyData.eqv z (toPy d)) = (eqD x d || xs.any fun y => eqD y d)
    rw [eqv_of x d h'.1 hd, anys_of d hd xs h'.2]
section
variable {K : PySem.W.Frag} {T : TabC} {B H : Hp}
mutual
theorem Rep.dp (s : Same B H) : ∀ {d : D} {v : V}, Rep K T B d v → plainD d = true → Dp K H v (toPy d)
  | _, _, .non, _ => .non
  | _, _, .bl b, _ => .bl b
  | _, _, .int i, _ => .int i
  | _, _, .str x, _ => .str x
  | _, _, .tup h r, hp => .tup (sameT s h) (RepL.dp s r hp)
  | _, _, .lst h r, hp => .lst (SqL.of (s _ _ h)) (RepL.dp s r hp)
  | _, _, .scr _, hp => nomatch hp
  | _, _, .ins _ _, hp => nomatch hp
  | _, _, .dic _ _, hp => nomatch hp
theorem RepL.dp (s : Same B H) : ∀ {ds : List D} {vs : List V}, RepL K T B ds vs → plainDs ds = true → DpAll K H vs (toPys ds)
  | _, _, .nil, _ => .nil
  | _, _, .cons (d := d) (ds := ds) h r, hp => by
    have h' : (plainD d && plainDs ds) = true := hp
    rw [Bool.and_eq_true] at h'
    exact .cons (Rep.dp s h h'.1) (RepL.dp s r h'.2)
end
theorem Tp.dp (s : Same B H) {d : D} {v : V} (h : Tp K T B H d v) (hp : plainD d = true) : Dp K H v (toPy d) := by
  rcases h with h | ⟨a, rfl, h⟩
  · exact h.dp s hp
  · cases d with
    | lst xs => obtain ⟨vs, h1, h2⟩ := h; exact .lst (SqL.of h1) (h2.dp s hp)
    | ins c fs => exact nomatch hp
    | dic kvs => exact nomatch hp
    | dct kvs => exact nomatch hp
    | _ => exact h.elim
end
theorem shp_plain {d : D} (h : shp d = true) : plainD d = true := by
  unfold shp at h
  rw [Bool.and_eq_true] at h
  exact h.1

section
variable {X : Cx} {T : TabC} {W : WX}
theorem ofEq {d1 d2 d : D} {g : Bool → Bool} (e : (if shp d1 && shp d2 then some (D.bl (g (eqD d1 d2))) else none) = some d) : shp d1 = true ∧ shp d2 = true ∧ d = .bl (g (eqD d1 d2)) := by
  split at e
  · rename_i h
    rw [Bool.and_eq_true] at h
    cases e
    exact ⟨h.1, h.2, rfl⟩
  · cases e
theorem vT_eq (hu : X.A.units + 64 < cLine) : OpTV X T (compareOp .Eq) oEq := OpR.wk (op_eqD hu) fun x y H Q ⟨B, d1, d2, d, s, r1, r2, e, q⟩ => by
  obtain ⟨h1, h2, rfl⟩ := ofEq (g := fun b => b) e
  refine ⟨_, _, r1.dp s (shp_plain h1), r2.dp s (shp_plain h2), shaped_of h1, shaped_of h2, ?_⟩
  rw [eqv_of _ _ (shp_plain h1) (shp_plain h2)]
  exact q B H _ .refl (.bl _)
theorem vT_ne (hu : X.A.units + 64 < cLine) : OpTV X T (compareOp .NotEq) oNe := OpR.wk (op_neD hu) fun x y H Q ⟨B, d1, d2, d, s, r1, r2, e, q⟩ => by
  obtain ⟨h1, h2, rfl⟩ := ofEq (g := fun b => !b) e
  refine ⟨_, _, r1.dp s (shp_plain h1), r2.dp s (shp_plain h2), shaped_of h1, shaped_of h2, ?_⟩
  rw [eqv_of _ _ (shp_plain h1) (shp_plain h2)]
  exact q B H _ .refl (.bl _)
theorem dp_ints {K : PySem.W.Frag} {H : Hp} : ∀ ns : List Int, DpAll K H (ns.map V.int) (ns.map PyData.int)
  | [] => .nil
  | n :: ns => .cons (.int n) (dp_ints ns)
theorem lay_ints : ∀ ns : List Int, PyData.canLayAll0 (ns.map PyData.int) = true ∧ PyData.depthAll (ns.map PyData.int) = 0
  | [] => by simp [PyData.canLayAll0, PyData.depthAll]
  | n :: ns => by
    obtain ⟨a, b⟩ := lay_ints ns
    simp only [List.map_cons, PyData.canLayAll0, PyData.canLay0, PyData.depthAll, PyData.depth, a, b]
    exact ⟨rfl, rfl⟩
theorem Tp.nil {K : PySem.W.Frag} {B H : Hp} {v : V} (s : Same B H) (h : Tp K T B H (.lst []) v) : Dp K H v (.list []) := h.dp s rfl
theorem vT_neS (hu : X.A.units + 64 < cLine) : OpTV X T (compareOp .NotEq) oNeS := OpR.wk (op_neD hu) fun x y H Q ⟨B, d1, d2, d, s, r1, r2, e, q⟩ => by
  unfold oNeS at e
  split at e <;> cases e
  rename_i ns
  rcases r1 with r1 | ⟨_, _, r1⟩
  · cases r1 with
    | scr hs =>
      refine ⟨.list (ns.map PyData.int), .list [], .lst (s.seq hs) (dp_ints ns), Tp.nil s r2, ?_, by decide, ?_⟩
      · unfold SeqAt.shaped
        simp only [PyData.canLay0, PyData.depth, (lay_ints ns).1, (lay_ints ns).2]
        rfl
      · have e1 : PyData.eqv (.list (ns.map PyData.int)) (.list []) = ns.isEmpty := by cases ns <;> rfl
        rw [e1]
        exact q B H _ .refl (.bl _)
  · exact r1.elim
theorem ofIn {d1 d : D} {xs : List D} {c : D} {g : Bool → Bool} (e : (if shp d1 && shp c then some (D.bl (g (xs.any fun y => eqD y d1))) else none) = some d) : shp d1 = true ∧ shp c = true ∧ d = .bl (g (xs.any fun y => eqD y d1)) := by
  split at e
  · rename_i h
    rw [Bool.and_eq_true] at h
    cases e
    exact ⟨h.1, h.2, rfl⟩
  · cases e
theorem vT_in (hu : X.A.units + 65 < cLine) : OpTV X T (compareOp .In) oIn := fun pins s σ H x y v u Q I rx ry h => by
  obtain ⟨B, d1, d2, d, sb, r1, r2, e, q⟩ := h
  unfold oIn at e
  split at e
  · rename_i x1 xs
    obtain ⟨h1, h2, rfl⟩ := ofIn (g := fun b => b) e
    obtain ⟨as, g1⟩ := Dp.reads I _ x v (r1.dp sb (shp_plain h1)) rx
    obtain ⟨bs, g2⟩ := Dp.reads I _ y u (r2.dp sb (shp_plain h2)) ry
    refine SeqAt.in_list_reads g2 g1 (lays_of xs (shp_plain h2)).1 (SeqAt.canLay_of_shaped (shaped_of h1)) (PyProof.Rows.room_in_shaped (shaped_of h1) hu) ⟨.bl _, H, I, rfl, ?_⟩
    rw [anys_of _ (shp_plain h1) xs (shp_plain h2)]
    exact q B H _ .refl (.bl _)
  · rename_i x1 xs
    obtain ⟨h1, h2, rfl⟩ := ofIn (g := fun b => b) e
    obtain ⟨as, g1⟩ := Dp.reads I _ x v (r1.dp sb (shp_plain h1)) rx
    obtain ⟨bs, g2⟩ := Dp.reads I _ y u (r2.dp sb (shp_plain h2)) ry
    refine SeqAt.in_tuple_reads g2 g1 (lays_of xs (shp_plain h2)).1 (SeqAt.canLay_of_shaped (shaped_of h1)) (PyProof.Rows.room_in_shaped (shaped_of h1) hu) ⟨.bl _, H, I, rfl, ?_⟩
    rw [anys_of _ (shp_plain h1) xs (shp_plain h2)]
    exact q B H _ .refl (.bl _)
  · cases e
theorem vT_notIn (hu : X.A.units + 65 < cLine) : OpTV X T (compareOp .NotIn) oNotIn := fun pins s σ H x y v u Q I rx ry h => by
  obtain ⟨B, d1, d2, d, sb, r1, r2, e, q⟩ := h
  unfold oNotIn at e
  split at e
  · rename_i x1 xs
    obtain ⟨h1, h2, rfl⟩ := ofIn (g := fun b => !b) e
    obtain ⟨as, g1⟩ := Dp.reads I _ x v (r1.dp sb (shp_plain h1)) rx
    obtain ⟨bs, g2⟩ := Dp.reads I _ y u (r2.dp sb (shp_plain h2)) ry
    refine SeqAt.notIn_list_reads g2 g1 (lays_of xs (shp_plain h2)).1 (SeqAt.canLay_of_shaped (shaped_of h1)) (PyProof.Rows.room_in_shaped (shaped_of h1) hu) ⟨.bl _, H, I, rfl, ?_⟩
    rw [anys_of _ (shp_plain h1) xs (shp_plain h2)]
    exact q B H _ .refl (.bl _)
  · rename_i x1 xs
    obtain ⟨h1, h2, rfl⟩ := ofIn (g := fun b => !b) e
    obtain ⟨as, g1⟩ := Dp.reads I _ x v (r1.dp sb (shp_plain h1)) rx
    obtain ⟨bs, g2⟩ := Dp.reads I _ y u (r2.dp sb (shp_plain h2)) ry
    refine SeqAt.notIn_tuple_reads g2 g1 (lays_of xs (shp_plain h2)).1 (SeqAt.canLay_of_shaped (shaped_of h1)) (PyProof.Rows.room_in_shaped (shaped_of h1) hu) ⟨.bl _, H, I, rfl, ?_⟩
    rw [anys_of _ (shp_plain h1) xs (shp_plain h2)]
    exact q B H _ .refl (.bl _)
  · cases e
theorem Tp.isNon {K : PySem.W.Frag} {B H : Hp} {d : D} {v : V} (h : Tp K T B H d v) : decide (v = .non) = isNon d := by
  rcases h with h | ⟨a, rfl, h⟩
  · cases h <;> rfl
  · cases d <;> first | rfl | exact h.elim
theorem vT_isNotN : OpTV X T (compareOp .IsNot) oIsNotN := OpR.wk op_notN fun x y H Q ⟨B, d1, d2, d, s, r1, r2, e, q⟩ => by
  unfold oIsNotN at e
  split at e
  · rename_i h
    cases e
    have e2 : y = .non := of_decide_eq_true (r2.isNon.trans h)
    refine ⟨e2, ?_⟩
    rw [r1.isNon]
    exact q B H _ .refl (.bl _)
  · cases e

theorem ok_chain {a b c : Expr} {f g k : SE} {o o' : CmpOp} {op op' : D → D → Option D} {pos : Pos} (ho : OpV X T (compareOp o) op) (ho' : OpV X T (compareOp o') op') (ha : OKE X T W a f) (hb : OKE X T W b g) (hc : OKE X T W c k)
    (hm : lastMarks [o, o'] [b, c] = false := by with_unfolding_all rfl) : OKE X T W (.Compare a [o, o'] [b, c] pos) (eCh op op' f g k) :=
  pe_imp (pe_chain ho ho' ha hb hc hm) fun σ H Q ⟨fr, B, ρ, E, p⟩ => ⟨fr, B, ρ, E, p.bind fun d ρ1 B1 H1 v _ s1 E1 r1 p1 => ⟨fr, B1, ρ1, E1, p1.bind fun d2 ρ2 B2 H2 v2 _ s2 E2 r2 p2 => by
    cases e3 : op d d2 with
    | none => rw [e3] at p2; exact p2.elim
    | some z =>
      rw [e3] at p2
      refine ⟨B2, d, d2, z, E2.bh, Rep.mono s2 r1, r2, e3, fun B3 H3 w gr r3 => ?_⟩
      have E3 := gr.env E2
      have s3 := gr.same E2
      cases r3 with
      | bl t =>
        refine ⟨t, rfl, ?_⟩
        cases t with
        | true =>
          rw [if_pos rfl]
          refine ⟨fr, B3, ρ2, E3, Post.bind (o := k ρ2) (Post.mono s3 p2) fun d4 ρ4 B4 H4 v4 _ s4 E4 r4 p4 => ?_⟩
          obtain ⟨d5, e5, p5⟩ := Post.opt p4
          exact ⟨B4, d2, d4, d5, E4.bh, Rep.mono (s3.trans s4) r2, r4, e5, fun B' H' w g r5 => p5 _ _ _ (g.same E4) (g.env E4) r5⟩
        | false =>
          rw [if_neg (by decide)]
          exact p2 _ _ _ s3 E3 (.bl false)
      | _ => exact p2.elim⟩⟩

theorem ok_one {a : Expr} {f : SE} {op : BoolOp} {pos : Pos} (ha : OKE X T W a f) : OKE X T W (.BoolOp op [a] pos) f := pe_one ha
theorem ok_and {a b : Expr} {rest : List Expr} {f g : SE} {pos : Pos} (ha : OKE X T W a f) (hb : OKE X T W (.BoolOp .And (b :: rest) pos) g) : OKE X T W (.BoolOp .And (a :: b :: rest) pos) (eAnd f g) :=
  pe_imp (pe_and ha hb) fun σ H Q ⟨fr, B, ρ, E, p⟩ => ⟨fr, B, ρ, E, p.bind fun d ρ1 B1 H1 v _ s1 E1 r1 p1 => by
    cases r1 with
    | bl c =>
      refine ⟨c, rfl, ?_⟩
      cases c with
      | true => rw [if_pos rfl]; exact ⟨fr, B1, ρ1, E1, p1⟩
      | false => rw [if_neg (by decide)]; exact p1.done E1 (.bl false)
    | _ => exact p1.elim⟩
theorem ok_not {a : Expr} {f : SE} {pos : Pos} (ha : OKE X T W a f) : OKE X T W (.UnaryOp .Not a pos) (eUn oNot f) :=
  pe_imp (pe_not ha) fun σ H Q ⟨fr, B, ρ, E, p⟩ => ⟨fr, B, ρ, E, p.bind fun d ρ1 B1 H1 v _ s1 E1 r1 p1 => by
    cases r1 with
    | bl c => exact ⟨c, rfl, p1.done E1 (.bl (!c))⟩
    | _ => exact p1.elim⟩
theorem ok_neg {a : Expr} {f : SE} {pos : Pos} (ha : OKE X T W a f) : OKE X T W (.UnaryOp .USub a pos) (eUn oNeg f) :=
  pe_imp (pe_un un_neg ha) fun σ H Q ⟨fr, B, ρ, E, p⟩ => ⟨fr, B, ρ, E, p.bind fun d ρ1 B1 H1 v _ s1 E1 r1 p1 => by
    cases r1 with
    | int i => exact ⟨i, rfl, p1.done E1 (.int (-i))⟩
    | _ => exact p1.elim⟩
theorem okB_of {e : Expr} {f : SE} (he : OKE X T W e f) (ht : PT X e (tTest (rdE X.K T W f))) : OKB X T W e (tE f) := pt_imp ht fun σ H Q ⟨fr, B, ρ, E, p⟩ => ⟨fr, B, ρ, E, p.bind fun d ρ1 B1 H1 v _ s1 E1 r1 p1 => by
  cases r1 with
  | bl c => exact ⟨c, rfl, p1.done E1 rfl⟩
  | _ => exact p1.elim⟩
theorem pt_imp2 {e : Expr} {t t' : TE} (h : PT X e (tTest t)) (k : ∀ σ H Q, t' σ H Q → t σ H Q) : PT X e (tTest t') := pt_imp h fun σ H Q q => k _ _ _ q
theorem okB_cmp {a b : Expr} {f g : SE} {o : CmpOp} {op : D → D → Option D} {pos : Pos} (ho : OpV X T (compareOp o) op) (ha : OKE X T W a f) (hb : OKE X T W b g) (hm : behindInMarks o b = false := by first | exact nomark _ | rfl) : OKB X T W (.Compare a [o] [b] pos) (tE (eOp op f g)) :=
  okB_of (ok_cmp ho ha hb hm) (pt_imp2 (pt_cmpR ho ha hb hm) fun σ H Q h => read2 (fun _ _ _ _ q => q) h)
theorem okB_cmpT {a b : Expr} {f g : SE} [PureE g] {o : CmpOp} {op : D → D → Option D} {pos : Pos} (ho : OpTV X T (compareOp o) op) (ha : OKT X T W a f) (hb : OKT X T W b g) (hm : behindInMarks o b = false := by first | exact nomark _ | rfl) : OKB X T W (.Compare a [o] [b] pos) (tE (eOp op f g)) :=
  okB_of (ok_cmpT ho ha hb hm) (pt_imp2 (pt_cmpR ho ha hb hm) fun σ H Q h => read2T (fun _ _ _ _ q => q) h)
theorem okB_chain {a b c : Expr} {f g k : SE} {o o' : CmpOp} {op op' : D → D → Option D} {pos : Pos} (ho : OpV X T (compareOp o) op) (ho' : OpV X T (compareOp o') op') (ha : OKE X T W a f) (hb : OKE X T W b g) (hc : OKE X T W c k)
    (hm : lastMarks [o, o'] [b, c] = false := by with_unfolding_all rfl) : OKB X T W (.Compare a [o, o'] [b, c] pos) (tE (eCh op op' f g k)) := by
  refine okB_of (ok_chain ho ho' ha hb hc hm) (pt_imp2 (pt_chain ho ho' ha hb hc hm) fun σ H Q ⟨fr, B, ρ, E, p⟩ => ⟨fr, B, ρ, E, p.bind fun d ρ1 B1 H1 v _ s1 E1 r1 p1 => ⟨fr, B1, ρ1, E1, p1.bind fun d2 ρ2 B2 H2 v2 _ s2 E2 r2 p2 => ?_⟩⟩)
  cases e3 : op d d2 with
  | none => rw [e3] at p2; exact p2.elim
  | some z =>
    rw [e3] at p2
    refine ⟨B2, d, d2, z, E2.bh, Rep.mono s2 r1, r2, e3, fun B3 H3 w gr r3 => ?_⟩
    have E3 := gr.env E2
    have s3 := gr.same E2
    cases r3 with
    | bl t =>
      refine ⟨t, rfl, ?_⟩
      cases t with
      | true =>
        rw [if_pos rfl]
        refine ⟨fr, B3, ρ2, E3, Post.bind (o := k ρ2) (Post.mono s3 p2) fun d4 ρ4 B4 H4 v4 _ s4 E4 r4 p4 => ?_⟩
        obtain ⟨d5, e5, p5⟩ := Post.opt p4
        exact ⟨B4, d2, d4, d5, E4.bh, Rep.mono (s3.trans s4) r2, r4, e5, fun B' H' w g r5 => p5 _ _ _ (g.same E4) (g.env E4) r5⟩
      | false =>
        rw [if_neg (by decide)]
        exact p2 _ _ _ s3 E3 (.bl false)
    | _ => exact p2.elim
theorem okB_bool {e : Expr} {f : SE} (he : OKE X T W e f) (ht : ∀ whole, isTrue e X.env whole = (do let v ← whole; standAt e.pos; holding [v] (truthy v)) := by intro _; rfl) : OKB X T W e (tE f) := pt_imp (pt_val he ht) fun σ H Q ⟨fr, B, ρ, E, p⟩ => ⟨fr, B, ρ, E, p.bind fun d ρ1 B1 H1 v _ s1 E1 r1 p1 => by
  cases r1 with
  | bl c => exact ⟨c, rfl, p1.done E1 rfl⟩
  | _ => exact p1.elim⟩
theorem okB_not {a : Expr} {t : ST} {pos : Pos} (ha : OKB X T W a t) : OKB X T W (.UnaryOp .Not a pos) (tNot t) := pt_imp (pt_not ha) fun σ H Q ⟨fr, B, ρ, E, p⟩ => ⟨fr, B, ρ, E, p.bind fun d ρ1 B1 H1 v _ s1 E1 r1 p1 => by
  cases r1
  exact p1.done E1 rfl⟩
theorem okW_and1 {a : Expr} {t : ST} {pos : Pos} (ha : OKB X T W a t) : OKW X T W (.BoolOp .And [a] pos) t := pw_and1 ha
theorem okW_or1 {a : Expr} {t : ST} {pos : Pos} (ha : OKB X T W a t) : OKW X T W (.BoolOp .Or [a] pos) t := pw_or1 ha
theorem okW_and {a b : Expr} {rest : List Expr} {t u : ST} {pos : Pos} (ha : OKB X T W a t) (hb : OKW X T W (.BoolOp .And (b :: rest) pos) u) : OKW X T W (.BoolOp .And (a :: b :: rest) pos) (tAnd t u) :=
  pw_imp (pw_and ha hb) fun σ H Q ⟨fr, B, ρ, E, p⟩ => ⟨fr, B, ρ, E, p.bind fun d ρ1 B1 H1 v _ s1 E1 r1 p1 => by
    cases r1
    cases d with
    | true => rw [if_pos rfl]; exact ⟨fr, B1, ρ1, E1, p1⟩
    | false => rw [if_neg (by decide)]; exact p1.done E1 rfl⟩
theorem okW_or {a b : Expr} {rest : List Expr} {t u : ST} {pos : Pos} (ha : OKB X T W a t) (hb : OKW X T W (.BoolOp .Or (b :: rest) pos) u) : OKW X T W (.BoolOp .Or (a :: b :: rest) pos) (tOr t u) :=
  pw_imp (pw_or ha hb) fun σ H Q ⟨fr, B, ρ, E, p⟩ => ⟨fr, B, ρ, E, p.bind fun d ρ1 B1 H1 v _ s1 E1 r1 p1 => by
    cases r1
    cases d with
    | true => rw [if_pos rfl]; exact p1.done E1 rfl
    | false => rw [if_neg (by decide)]; exact ⟨fr, B1, ρ1, E1, p1⟩⟩
theorem okB_w {a : Expr} {t : ST} (ha : OKW X T W a t) : OKB X T W a t := ha.pt
theorem ok_ifExp {c a b : Expr} {t : ST} {f g : SE} {pos : Pos} (hc : OKB X T W c t) (ha : OKE X T W a f) (hb : OKE X T W b g) : OKE X T W (.IfExp c a b pos) (eIf t f g) :=
  pe_imp (pe_ifExp hc ha hb) fun σ H Q ⟨fr, B, ρ, E, p⟩ => ⟨fr, B, ρ, E, p.bind fun d ρ1 B1 H1 v _ s1 E1 r1 p1 => by
    cases r1
    cases d with
    | true => rw [if_pos rfl]; exact ⟨fr, B1, ρ1, E1, p1⟩
    | false => rw [if_neg (by decide)]; exact ⟨fr, B1, ρ1, E1, p1⟩⟩
theorem okO_ifExp {c a b : Expr} {t : ST} {f g : SE} {pos : Pos} (hc : OKB X T W c t) (ha : OKO X T W a f) (hb : OKO X T W b g) : OKO X T W (.IfExp c a b pos) (eIf t f g) :=
  pe_imp (pe_ifExp hc ha hb) fun σ H Q ⟨fr, B, ρ, E, p⟩ => ⟨fr, B, ρ, E, p.bind fun d ρ1 B1 H1 v _ s1 E1 r1 p1 => by
    cases r1
    cases d with
    | true => rw [if_pos rfl]; exact ⟨fr, B1, ρ1, E1, p1⟩
    | false => rw [if_neg (by decide)]; exact ⟨fr, B1, ρ1, E1, p1⟩⟩

theorem Tp.ins {K : PySem.W.Frag} {B H : Hp} {c : Nat} {fs : List (Str × D)} {v : V} (s : Same B H) (h : Tp K T B H (.ins c fs) v) : ∃ a dx vfs, v = .ref a ∧ H a = some (.ins (T c) dx vfs) ∧ RepF K T B fs vfs := by
  rcases h with h | ⟨a, rfl, dx, vfs, h1, h2⟩
  · cases h with
    | ins h1 h2 => exact ⟨_, _, _, rfl, s _ _ h1, h2⟩
  · exact ⟨a, dx, vfs, rfl, h1, h2⟩
theorem ok_attr {e : Expr} {f : Str} {g : SE} {pos : Pos} (he : OKT X T W e g) (hc : ∀ (c : Nat) (fs : List (Str × D)) (d : D), fldD f (.ins c fs) = some d → Cls X.K (T c) ∧ NoAttr X.K (T c) f) (hb : attributeBase e f X.env (eval e X.env) = eval e X.env := by rfl) : OKE X T W (.Attribute e f pos) (eUn (fldD f) g) :=
  pe_imp (pe_fld he hb) fun σ H Q ⟨fr, B, ρ, E, p⟩ => ⟨fr, B, ρ, E, p.bind fun d ρ1 B1 H1 v _ s1 E1 r1 p1 => by
    obtain ⟨d2, e2, p2⟩ := p1.opt
    cases d with
    | ins c fs =>
      obtain ⟨a, dx, vfs, rfl, h1, h2⟩ := (RT.tp E1 r1).ins E1.bh
      obtain ⟨k1, k2⟩ := hc c fs d2 e2
      obtain ⟨w, hw, rw_⟩ := h2.look e2
      exact ⟨a, T c, dx, vfs, w, rfl, h1, k1, k2, hw, p2.done E1 rw_⟩
    | _ => cases e2⟩
theorem nth_at {xs : List D} {vs : List V} {K : PySem.W.Frag} {B : Hp} {i : Int} {d : D} (r : RepL K T B xs vs) (e : nthD xs i = some d) : ∃ v, atI vs i = some v ∧ Rep K T B d v := by
  unfold nthD at e
  have hl := r.length
  unfold atI ixN
  by_cases h0 : 0 ≤ i
  · rw [if_pos h0] at e
    obtain ⟨v, h1, h2⟩ := r.get e
    have hlt := (List.getElem?_eq_some_iff.mp h1).1
    rw [if_pos h0, if_pos (by omega)]
    exact ⟨v, h1, h2⟩
  · rw [if_neg h0] at e
    split at e
    · rename_i h1
      obtain ⟨v, h2, h3⟩ := r.get e
      rw [if_neg h0, if_pos (by omega)]
      refine ⟨v, ?_, h3⟩
      show vs[(i + (vs.length : Int)).toNat]? = some v
      rw [show i + (vs.length : Int) = (xs.length : Int) + i by omega]
      exact h2
    · cases e
theorem ixr : IxR X (rOfT X.K T oIdx) := by
  intro value slice pins s σ H x y v u Q I rx ry ⟨B, d1, d2, d, sb, r1, r2, e, q⟩ hs
  unfold oIdx at e
  split at e
  · rename_i xs i
    obtain ⟨a, vs, rfl, hq, rl⟩ := r1.items sb rfl
    obtain ⟨w, h1, h2⟩ := nth_at rl e
    have ey : y = .int i := by rcases r2 with r2 | ⟨_, _, r2⟩; cases r2; rfl; exact r2.elim
    subst ey
    rcases hq with hq | hq
    · exact ix_tup value slice pins s σ H _ _ v u Q I rx ry ⟨a, vs, i, w, rfl, rfl, hq, h1, q _ _ _ .refl h2⟩ hs
    · exact ix_list value slice pins s σ H _ _ v u Q I rx ry ⟨a, vs, i, w, rfl, rfl, hq, h1, q _ _ _ .refl h2⟩ hs
  · rename_i xs i
    obtain ⟨a, vs, rfl, hq, rl⟩ := r1.items sb rfl
    obtain ⟨w, h1, h2⟩ := nth_at rl e
    have ey : y = .int i := by rcases r2 with r2 | ⟨_, _, r2⟩; cases r2; rfl; exact r2.elim
    subst ey
    rcases hq with hq | hq
    · exact ix_tup value slice pins s σ H _ _ v u Q I rx ry ⟨a, vs, i, w, rfl, rfl, hq, h1, q _ _ _ .refl h2⟩ hs
    · exact ix_list value slice pins s σ H _ _ v u Q I rx ry ⟨a, vs, i, w, rfl, rfl, hq, h1, q _ _ _ .refl h2⟩ hs
  · rename_i ns i
    obtain ⟨a, vs, rfl, hq, rl⟩ := r1.items sb rfl
    obtain ⟨w, h1, h2⟩ := nth_at rl e
    have ey : y = .int i := by rcases r2 with r2 | ⟨_, _, r2⟩; cases r2; rfl; exact r2.elim
    subst ey
    rcases hq with hq | hq
    · exact ix_tup value slice pins s σ H _ _ v u Q I rx ry ⟨a, vs, i, w, rfl, rfl, hq, h1, q _ _ _ .refl h2⟩ hs
    · exact ix_list value slice pins s σ H _ _ v u Q I rx ry ⟨a, vs, i, w, rfl, rfl, hq, h1, q _ _ _ .refl h2⟩ hs
  · cases e
theorem ok_idx {a b : Expr} {f g : SE} [PureE g] {pos : Pos} (ha : OKT X T W a f) (hb : OKE X T W b g) (hs : PlainIx b := by intro _ _; rfl) : OKE X T W (.Subscript a b pos) (eOp oIdx f g) :=
  pe_imp (pe_ix (ixr (T := T)) ha hb.top hs) fun σ H Q h => read2T (fun _ _ _ _ q => q) h

def RP : Hp → Hp → SEnv → Option Int → Option Int → Prop := fun _ _ _ a b => a = b
abbrev OKP (X : Cx) (T : TabC) (W : WX) (o : Option Expr) (f : SP) : Prop := PO X o (fun σ H Q => ∃ fr B ρ, EnvOk X.K T fr B H ρ σ ∧ Post X.K T RP fr W B σ Q (f ρ))
theorem okP_no : OKP X T W none pNo := ⟨fun pins s σ H Q I ⟨fr, B, ρ, E, p⟩ => po_none.run pins s σ H Q I (p.done E rfl)⟩
theorem okP_at {e : Expr} {f : SE} (he : OKE X T W e f) : OKP X T W (some e) (pAt f) := ⟨fun pins s σ H Q I ⟨fr, B, ρ, E, p⟩ => (po_some he).run pins s σ H Q I ⟨fr, B, ρ, E, p.bind fun d ρ1 B1 H1 v _ s1 E1 r1 p1 => by
  cases r1 with
  | int i => exact ⟨i, rfl, p1.done E1 rfl⟩
  | _ => exact p1.elim⟩⟩
theorem cut_eq {α : Type} (xs : List α) (lo hi : Option Int) : cutL xs lo hi = (xs.drop (HT.sIx xs.length 0 lo)).take (HT.sIx xs.length xs.length hi - HT.sIx xs.length 0 lo) := by
  have b : ∀ (n : Nat) (i : Int), bndI n i = (if i < 0 then (i + (n : Int)).toNat else min i.toNat n) := fun n i => by
    unfold bndI
    rw [Int.add_comm]
  cases lo <;> cases hi <;> simp only [cutL, HT.sIx, b]
theorem RepL.cut {K : PySem.W.Frag} {B : Hp} {xs : List D} {vs : List V} (r : RepL K T B xs vs) (lo hi : Option Int) : RepL K T B (cutL xs lo hi) (cutV vs lo hi) := by
  rw [cut_eq]
  unfold cutV
  rw [r.length]
  exact (r.drop _).take _
theorem Tp.listL {K : PySem.W.Frag} {B H : Hp} {xs : List D} {v : V} (s : Same B H) (h : Tp K T B H (.lst xs) v) : ∃ a vs, v = .ref a ∧ SqL K H a vs ∧ RepL K T B xs vs := by
  rcases h with h | ⟨a, rfl, vs, h1, h2⟩
  · cases h with
    | lst h1 h2 => exact ⟨_, _, rfl, SqL.of (s _ _ h1), h2⟩
  · exact ⟨a, vs, rfl, SqL.of h1, h2⟩
theorem Tp.scrL {K : PySem.W.Frag} {B H : Hp} {ns : List Int} {v : V} (s : Same B H) (h : Tp K T B H (.scr ns) v) : ∃ a vs, v = .ref a ∧ SqL K H a vs ∧ RepL K T B (ns.map D.int) vs := by
  rcases h with h | ⟨a, _, h⟩
  · cases h with
    | scr h1 => exact ⟨_, _, rfl, s.seq h1, RepL.ints _⟩
  · exact h.elim
theorem Tp.tupT {K : PySem.W.Frag} {B H : Hp} {xs : List D} {v : V} (s : Same B H) (h : Tp K T B H (.tup xs) v) : ∃ a vs, v = .ref a ∧ SqT K B a vs ∧ RepL K T B xs vs := by
  rcases h with h | ⟨a, _, h⟩
  · cases h with
    | tup h1 h2 => exact ⟨_, _, rfl, h1, h2⟩
  · exact h.elim
theorem ok_slL {e : Expr} {f : SE} {lo hi : Option Expr} {l h : SP} [PureP l] [PureP h] {pos p2 : Pos} (he : OKT X T W e f) (hl : OKP X T W lo l) (hh : OKP X T W hi h) : OKO X T W (.Subscript e (.Slice lo hi none p2) pos) (eSlL f l h) :=
  pe_imp (pe_slice sl_list he hl hh) fun σ H Q ⟨fr, B, ρ, E, p⟩ => ⟨fr, B, ρ, E, p.bind fun d ρ1 B1 H1 v _ s1 E1 r1 p1 => ⟨fr, B1, ρ1, E1, p1.bind fun o1 ρ2 B2 H2 b2 e2 s2 E2 r2 p2 => ⟨fr, B2, ρ2, E2, p2.bind fun o2 ρ3 B3 H3 b3 e3 s3 E3 r3 p3 => by
    have er : ρ2 = ρ1 := PureP.pure _ _ _ e2
    have er3 : ρ3 = ρ2 := PureP.pure _ _ _ e3
    subst er3 er
    cases r2
    cases r3
    have tp := RT.tp E3 (RT.keep (H' := H3) (s2.trans s3) r1)
    split at p3
    · obtain ⟨a, vs, rfl, hq, rl⟩ := tp.listL E3.bh
      exact ⟨a, vs, rfl, hq, fun q hq0 => p3 _ _ _ (Same.refl _) (E3.allocOwn hq0) ⟨q, rfl, OwnAt.new E3 hq0 ⟨_, upd_same, rl.cut _ _⟩, E3.apart_new hq0⟩⟩
    · obtain ⟨a, vs, rfl, hq, rl⟩ := tp.scrL E3.bh
      exact ⟨a, vs, rfl, hq, fun q hq0 => p3 _ _ _ (Same.refl _) (E3.allocOwn hq0) ⟨q, rfl, OwnAt.new E3 hq0 ⟨_, upd_same, rl.cut _ _⟩, E3.apart_new hq0⟩⟩
    · exact p3.elim⟩⟩⟩
end
end VL
end

section
set_option maxRecDepth 100000
set_option maxHeartbeats 1000000
namespace VL
open PySem L2

structure After (B H : Hp) (ia : Option Addr) (B' H' : Hp) : Prop where
  b : Same B B'
  bh : Same B' H'
  f : ∀ c o, H c = some o → ia ≠ some c → H' c = some o
  n : ∀ c, B' c ≠ none → B c ≠ none ∨ H c = none
  t : ∀ c, ia = some c → H' c ≠ none
def RetAt (K : PySem.W.Frag) (T : TabC) (fresh : Bool) (B' H H' : Hp) (d : D) (v : V) : Prop :=
  if fresh then ∃ p, v = .ref p ∧ H p = none ∧ B' p = none ∧ ObjAt K T B' H' p d else Rep K T B' d v
def retPost (K : PySem.W.Frag) (T : TabC) (fresh : Bool) (ia : Option Addr) (B H : Hp) (Q : VK) (E : XK) : Ret → Prop
  | .val d o => ∀ (B' H' : Hp) (v : V), After B H ia B' H' → (∀ a d1, ia = some a → o = some d1 → ObjAt K T B' H' a d1) → RetAt K T fresh B' H H' d v → Q v H'
  | .exn c fs => ∀ (B' H' : Hp) (cv : Value) (od : Option Addr), After B H ia B' H' → ExcAt K T B' H' c fs cv od → E cv od H'
def spV (K : PySem.W.Frag) (T : TabC) (fresh : Bool) (fn : FnS) : Sp := fun vs H Q E => ∃ (B : Hp) (ds : List D) (r : Ret), Same B H ∧ RepL K T B ds vs ∧ fn ds = some r ∧ retPost K T fresh none B H Q E r
def spIo (K : PySem.W.Frag) (T : TabC) (fresh : Bool) (fn : FnS) : Sp := fun vs H Q E => ∃ (B : Hp) (a : Addr) (d0 : D) (ds : List D) (us : List V) (r : Ret), Same B H ∧ vs = .ref a :: us ∧ B a = none ∧ ObjAt K T B H a d0 ∧ RepL K T B ds us ∧ fn (d0 :: ds) = some r ∧
  retPost K T fresh (some a) B H Q E r

section
variable {K : PySem.W.Frag} {T : TabC} {fr : Frm} {B B' H H' : Hp} {ρ ρ' : SEnv} {σ : L2.St}
theorem EnvOk.after {ia : Option Addr} (E : EnvOk K T fr B H ρ σ) (A : After B H ia B' H') (ap : ∀ a, ia = some a → Apart ρ σ a ∧ fr.F a = none) : EnvOk K T fr B' H' ρ σ := by
  have own : ∀ {i : Nat} {s : Slot} {a : Addr} {d : D}, ρ[i]? = some s → s.alone = true → σ[i]? = some (some (.ref a)) → B a = none → ObjAt K T B H a d → B' a = none ∧ ObjAt K T B' H' a d := fun {i s a d} q al e hb ho => by
    obtain ⟨u, hu⟩ := ho.there
    have hne : ia ≠ some a := fun z => (ap a z).1 i s q al e
    refine ⟨?_, ho.mono A.b (by rw [hu]; exact A.f _ _ hu hne)⟩
    cases z : B' a with
    | none => rfl
    | some o =>
      rcases A.n a (by rw [z]; intro w; cases w) with w | w
      · exact absurd hb w
      · rw [hu] at w; cases w
  refine ⟨A.bh, E.b0.trans A.b, fun c o e => A.f _ _ (E.fh _ _ e) (fun z => (by rw [(ap c z).2] at e; cases e)), fun k a e => ?_, fun a ha => ?_, E.len, fun i s q => ?_, E.dis⟩
  · by_cases z : ia = some a
    · exact A.t a z
    · have w := E.ih k a e
      cases y : H a with
      | none => exact absurd y w
      | some o => rw [A.f _ _ y z]; intro x; cases x
  · rcases A.n a ha with w | w
    · exact E.bf a w
    · exact .inr ⟨E.fh.free w, fun k z => E.ih k a z w⟩
  · have z := E.slot i s q
    cases s with
    | no => trivial
    | sh d => obtain ⟨v, h1, h2⟩ := z; exact ⟨v, h1, h2.mono A.b⟩
    | own d =>
      obtain ⟨a, h1, ⟨h2, h3, h4, h5⟩⟩ := z
      obtain ⟨x, y⟩ := own q rfl h1 h2 h5
      exact ⟨a, h1, ⟨x, h3, h4, y⟩⟩
    | io d =>
      obtain ⟨a, h1, h2, h3, h4, h5⟩ := z
      obtain ⟨x, y⟩ := own q rfl h1 h3 h5
      exact ⟨a, h1, h2, x, h4, y⟩
end

section
variable {X : Cx} {T : TabC} {W : WX}
theorem read_call {fn : FnS} {fr : Frm} {B H : Hp} {ρ : SEnv} {σ : L2.St} {Q : VK} {ds : List D} {vs : List V} (E : EnvOk X.K T fr B H ρ σ) (r : RepL X.K T B ds vs)
    (p : Post X.K T (RV X.K T) fr W B σ Q (match fn ds with | some (.val d _) => .ok d ρ | some (.exn c fs) => .exc c fs ρ | none => .bad)) : spV X.K T false fn vs H Q (WE W σ) := by
  cases e : fn ds with
  | none => rw [e] at p; exact p.elim
  | some r1 =>
    rw [e] at p
    refine ⟨B, ds, r1, E.bh, r, e, ?_⟩
    cases r1 with
    | val d o => exact fun B' H' v A _ rr => p B' H' v A.b (E.after A (fun a z => by cases z)) rr
    | exn c fs => exact fun B' H' cv od A x => p B' H' cv od A.b (E.after A (fun a z => by cases z)) x
theorem read_callO {fn : FnS} {fr : Frm} {B H : Hp} {ρ : SEnv} {σ : L2.St} {Q : VK} {ds : List D} {vs : List V} (E : EnvOk X.K T fr B H ρ σ) (r : RepL X.K T B ds vs)
    (p : Post X.K T (RO X.K T fr σ) fr W B σ Q (match fn ds with | some (.val d _) => .ok d ρ | some (.exn c fs) => .exc c fs ρ | none => .bad)) : spV X.K T true fn vs H Q (WE W σ) := by
  cases e : fn ds with
  | none => rw [e] at p; exact p.elim
  | some r1 =>
    rw [e] at p
    refine ⟨B, ds, r1, E.bh, r, e, ?_⟩
    cases r1 with
    | val d o =>
      rintro B' H' v A _ ⟨q, rfl, hq, hb, ho⟩
      exact p B' H' _ A.b (E.after A (fun a z => by cases z)) ⟨q, rfl, ⟨hb, E.fh.free hq, fun k z => E.ih k q z hq, ho⟩, E.apart_new hq⟩
    | exn c fs => exact fun B' H' cv od A x => p B' H' cv od A.b (E.after A (fun a z => by cases z)) x
structure DefAt (P : Program) (w : World) (K : PySem.W.Frag) (mg : Str → Option Value) (base : Heap) (k : Nat) (f : Addr) (ps : List Str) (ds : List Value) (sp : Sp) : Prop where
  ok : ∃ fd, FnOk P w K mg base (L2.CX P w) k f fd ps sp ∧ Binds K fd ps ds
  kp : PySem.W.keepIn K (.ref f) = true
theorem DefAt.mono {P : Program} {w : World} {K : PySem.W.Frag} {mg : Str → Option Value} {base : Heap} {j k : Nat} {f : Addr} {ps : List Str} {ds : List Value} {sp : Sp} (F : DefAt P w K mg base j f ps ds sp) (h : j ≤ k) : DefAt P w K mg base k f ps ds sp :=
  let ⟨fd, F1, b⟩ := F.ok; ⟨⟨fd, F1.mono h, b⟩, F.kp⟩
section
variable {k : Nat} {f : Addr} {ps : List Str} {ds : List Value} {dvs : List V} {dfl : List D} {x : Str} {p pos : Pos} {e : Expr} {es : List Expr} {g : SA} {fn : FnS}
theorem pe_callAt {sp : Sp} {t : TA} (F : DefAt X.prog X.w X.K X.mg X.base k f ps ds sp) (hd : Vals dvs ds) (hr : Room k X.A) (hm : X.mg x = some (.ref f)) (tk : Takes X W) (ha : PA X (e :: es) t) (hg : Gl X x := by rfl) (hdb : (x == ("__debug__" : Str)) = false := by decide)
    (he : starEach (e :: es) X.env = (false, eval e X.env) :: starEach es X.env := by rfl) (hpl : (backTo pos (starEach es X.env)).any (·.1) = false := by rfl) :
    PE X (.Call (.Name x p) (e :: es) [] pos) (fun σ H Q => t σ H fun vs H1 => sp (vs ++ dvs) H1 Q (WE W σ)) := by
  obtain ⟨fd, F1, b⟩ := F.ok
  exact pe_callSD F1 hr hg hm F.kp b hd (passAt tk) ha hdb he hpl
theorem ok_call (F : DefAt X.prog X.w X.K X.mg X.base k f ps ds (spV X.K T false fn)) (hd : Vals dvs ds) (hdr : ∀ B, RepL X.K T B dfl dvs) (hr : Room k X.A) (hm : X.mg x = some (.ref f)) (tk : Takes X W) (ha : OKA X T W (e :: es) g)
    (hg : Gl X x := by rfl) (hdb : (x == ("__debug__" : Str)) = false := by decide)
    (he : starEach (e :: es) X.env = (false, eval e X.env) :: starEach es X.env := by rfl) (hpl : (backTo pos (starEach es X.env)).any (·.1) = false := by rfl) : OKE X T W (.Call (.Name x p) (e :: es) [] pos) (eCall fn (aDef g dfl)) :=
  pe_imp (pe_callAt F hd hr hm tk ha hg hdb he hpl) fun σ H Q ⟨fr, B, ρ, E, p⟩ => ⟨fr, B, ρ, E, Post.bind (o := g ρ) (by
    have z := p
    unfold eCall aDef at z
    cases q : g ρ with
    | ok a ρ1 => rw [q] at z; exact z
    | exc c fs ρ1 => rw [q] at z; exact z
    | bad => rw [q] at z; exact z) fun a ρ1 B1 H1 b _ s1 E1 r1 p1 => read_call (fn := fn) (ρ := ρ1) E1 (r1.append (hdr B1)) p1⟩
theorem okO_call (F : DefAt X.prog X.w X.K X.mg X.base k f ps ds (spV X.K T true fn)) (hd : Vals dvs ds) (hdr : ∀ B, RepL X.K T B dfl dvs) (hr : Room k X.A) (hm : X.mg x = some (.ref f)) (tk : Takes X W) (ha : OKA X T W (e :: es) g)
    (hg : Gl X x := by rfl) (hdb : (x == ("__debug__" : Str)) = false := by decide)
    (he : starEach (e :: es) X.env = (false, eval e X.env) :: starEach es X.env := by rfl) (hpl : (backTo pos (starEach es X.env)).any (·.1) = false := by rfl) : OKO X T W (.Call (.Name x p) (e :: es) [] pos) (eCall fn (aDef g dfl)) :=
  pe_imp (pe_callAt F hd hr hm tk ha hg hdb he hpl) fun σ H Q ⟨fr, B, ρ, E, p⟩ => ⟨fr, B, ρ, E, Post.bind (o := g ρ) (by
    have z := p
    unfold eCall aDef at z
    cases q : g ρ with
    | ok a ρ1 => rw [q] at z; exact z
    | exc c fs ρ1 => rw [q] at z; exact z
    | bad => rw [q] at z; exact z) fun a ρ1 B1 H1 b _ s1 E1 r1 p1 => read_callO (fn := fn) (ρ := ρ1) E1 (r1.append (hdr B1)) p1⟩
structure MethAt (X : Cx) (T : TabC) (k : Nat) (m : Str) (c : Nat) (fn : FnS) : Prop where
  cl : Cls X.K (T c)
  ex : ∃ (f : Addr) (ps : List Str) (ds : List Value) (dvs : List V) (dfl : List D) (fn0 : FnS), Meth X.K (T c) m f ∧ DefAt X.prog X.w X.K X.mg X.base k f ps ds (spV X.K T false fn0) ∧ Vals dvs ds ∧ (∀ B, RepL X.K T B dfl dvs) ∧ fn = fun as => fn0 (as ++ dfl)
theorem made_env {fr : Frm} {B H : Hp} {ρ : SEnv} {σ : L2.St} {x dx : Addr} {o : HO} (E : EnvOk X.K T fr B H ρ σ) (h1 : H x = none) (h2 : H dx = none) (h3 : dx ≠ x) : EnvOk X.K T fr B (upd (upd H dx (.own x)) x o) ρ σ ∧ Apart ρ σ x :=
  ⟨(E.allocOwn h2).allocOwn (by rw [upd_ne (fun z => h3 z.symm)]; exact h1), E.apart_new h1⟩
structure MkAt (X : Cx) (k : Nat) (C : Addr) (ps : List Str) (ds : List Value) (sp : Sp) : Prop where
  ex : ∃ f, Mk X.K C f ∧ DefAt X.prog X.w X.K X.mg X.base k f ps ds sp
theorem run_makeAt {C : Addr} {sp : Sp} {pins : List (Addr × Obj)} {σ : L2.St} {H : Hp} {s : Shared} {Q : VK} {us : List Value} {vs : List V} (M : MkAt X k C ps ds sp) (hd : Vals dvs ds) (hr : Room (k + 1) X.A) (tk : Takes X W) (I : L2.Inv X pins σ H s) (r : Vals vs us)
    (q : ∀ x dx, H x = none → H dx = none → dx ≠ x → sp (.ref x :: (vs ++ dvs)) (upd (upd H dx (.own x)) x (.ins C dx [])) (fun v H2 => v = .non ∧ Q (.ref x) H2) (WE W σ)) : wpAny (model X.prog X.w) X.A (call (.ref C) us) (EP X pins σ Q) X.xe s := by
  obtain ⟨f1, mk, ⟨fd, F1, hb⟩, _⟩ := M.ex
  have J := Inv.made (C := C) I
  have z := q (s.heap.objs.size + 1) s.heap.objs.size (I.hok.fresh (Nat.le_succ _)) (I.hok.fresh (Nat.le_refl _)) (Nat.ne_of_lt (Nat.lt_succ_self _))
  have rs : Vals (V.ref (s.heap.objs.size + 1) :: (vs ++ dvs)) (Value.ref (s.heap.objs.size + 1) :: (us ++ ds)) := .cons rfl (r.append hd)
  have len : (Value.ref (s.heap.objs.size + 1) :: us ++ ds).length = ps.length := by
    have e := rs.length
    rw [F1.len _ _ _ _ z] at e
    exact e.symm
  apply wpAny_call
  apply make_map (f := f1) I.kIn mk.makes mk.init (beq_iff_eq.mp mk.fn)
  apply codeAny_mono (F1.run _ X.stack _ _ ⟨Value.ref (s.heap.objs.size + 1) :: us, []⟩ (Value.ref (s.heap.objs.size + 1) :: (us ++ ds)) _ _ (WE W σ) (hr.make C us []) (J.env0.make C us []) (hb _ (Value.ref (s.heap.objs.size + 1) :: us) J.kIn len) rs z)
  intro res s1 hres
  match res, hres with
  | .error e, he => exact passAt tk σ pins _ _ e s1 J he
  | .ok (.ret u), he =>
    obtain ⟨v, H1, J1, rv, ev, q1⟩ := J.after he
    subst ev
    exact ⟨rv, ⟨V.ref (s.heap.objs.size + 1), H1, J1, rfl, q1⟩⟩
  | .ok .next, he => exact False.elim he
  | .ok .brk, he => exact False.elim he
  | .ok .cont, he => exact False.elim he
theorem pe_makeAt {C : Addr} {sp : Sp} {t : TA} (M : MkAt X k C ps ds sp) (hd : Vals dvs ds) (hr : Room (k + 1) X.A) (hm : X.mg x = some (.ref C)) (tk : Takes X W) (ha : PA X (e :: es) t) (hg : Gl X x) (hdb : (x == ("__debug__" : Str)) = false)
    (he : starEach (e :: es) X.env = (false, eval e X.env) :: starEach es X.env) (hpl : (backTo pos (starEach es X.env)).any (·.1) = false) :
    PE X (.Call (.Name x p) (e :: es) [] pos) (fun σ H Q => t σ H fun vs H1 => ∀ a dx, H1 a = none → H1 dx = none → dx ≠ a → sp (.ref a :: (vs ++ dvs)) (upd (upd H1 dx (.own a)) a (.ins C dx [])) (fun v H2 => v = .non ∧ Q (.ref a) H2) (WE W σ)) := by
  constructor
  intro pins s0 σ0 H0 Q0 I0 h0
  apply wpAny_Call_Name_kw
  apply ld_glob I0 hg hm ?_ hdb
  obtain ⟨f1, mk, _⟩ := M.ex
  refine PySem.W.callWith_K (h₀ := X.base) I0.ok.mod.kin mk.kp ?_ he hpl
  apply thn (ha.run pos pins s0 σ0 H0 _ I0 h0)
  rintro us0 s2 ⟨vs0, H2, I2, r1, q1⟩
  exact ⟨I2.kIn, run_makeAt M hd hr tk I2 r1 q1⟩
theorem read_new {fn : FnS} {c : Nat} {fr : Frm} {B H : Hp} {ρ : SEnv} {σ : L2.St} {Q : VK} {as dfl : List D} {vs dvs : List V} (E : EnvOk X.K T fr B H ρ σ) (r : RepL X.K T B as vs) (hdr : ∀ B, RepL X.K T B dfl dvs)
    (p : Post X.K T (RO X.K T fr σ) fr W B σ Q (match fn (.ins c [] :: (as ++ dfl)) with | some (.val .non (some d)) => .ok d ρ | some (.exn c fs) => .exc c fs ρ | _ => .bad)) {a dx : Addr} (h1 : H a = none) (h2 : H dx = none) (h3 : dx ≠ a) :
    spIo X.K T false fn (.ref a :: (vs ++ dvs)) (upd (upd H dx (.own a)) a (.ins (T c) dx [])) (fun v H2 => v = .non ∧ Q (.ref a) H2) (WE W σ) := by
  obtain ⟨E1, ap⟩ := made_env (o := .ins (T c) dx []) E h1 h2 h3
  cases e : fn (.ins c [] :: (as ++ dfl)) with
  | none => rw [e] at p; exact p.elim
  | some r1 =>
    rw [e] at p
    have af : fr.F a = none := E.fh.free h1
    refine ⟨B, a, .ins c [], as ++ dfl, vs ++ dvs, r1, E1.bh, rfl, E.bh.free h1, ⟨dx, [], upd_same, .nil⟩, r.append (hdr B), e, ?_⟩
    have aft : ∀ {B' H' : Hp}, After B (upd (upd H dx (.own a)) a (.ins (T c) dx [])) (some a) B' H' → EnvOk X.K T fr B' H' ρ σ := fun {B' H'} A => E1.after A fun b z => by cases z; exact ⟨ap, af⟩
    cases r1 with
    | val d o =>
      cases d with
      | non =>
        cases o with
        | none => exact p.elim
        | some d1 =>
          intro B' H' v A ho rr
          have ob := ho a d1 rfl rfl
          have hb : B' a = none := by
            cases z : B' a with
            | none => rfl
            | some u =>
              rcases A.n a (by rw [z]; intro w; cases w) with w | w
              · exact absurd (E.bh.free h1) w
              · rw [upd_same] at w; cases w
          have rv : v = .non := by
            have z : Rep X.K T B' .non v := rr
            cases z
            rfl
          exact ⟨rv, p B' H' _ A.b (aft A) ⟨a, rfl, ⟨hb, af, fun k z => E.ih k a z h1, ob⟩, ap⟩⟩
      | _ => exact p.elim
    | exn c2 fs => exact fun B' H' cv od A x => p B' H' cv od A.b (aft A) x
theorem ok_new {fn : FnS} {c : Nat} (M : MkAt X k (T c) ps ds (spIo X.K T false fn)) (hd : Vals dvs ds) (hdr : ∀ B, RepL X.K T B dfl dvs) (hr : Room (k + 1) X.A) (hm : X.mg x = some (.ref (T c))) (tk : Takes X W) (ha : OKA X T W (e :: es) g)
    (hg : Gl X x := by rfl) (hdb : (x == ("__debug__" : Str)) = false := by decide)
    (he : starEach (e :: es) X.env = (false, eval e X.env) :: starEach es X.env := by rfl) (hpl : (backTo pos (starEach es X.env)).any (·.1) = false := by rfl) : OKO X T W (.Call (.Name x p) (e :: es) [] pos) (eNew c fn (aDef g dfl)) :=
  pe_imp (pe_makeAt M hd hr hm tk ha hg hdb he hpl) fun σ H Q ⟨fr, B, ρ, E, p⟩ => ⟨fr, B, ρ, E, Post.bind (o := g ρ) (by
    have z := p
    unfold eNew aDef at z
    cases q : g ρ with
    | ok a ρ1 => rw [q] at z; exact z
    | exc c fs ρ1 => rw [q] at z; exact z
    | bad => rw [q] at z; exact z) fun as ρ1 B1 H1 vs _ s1 E1 r1 p1 a dx h1 h2 h3 => read_new (fn := fn) E1 r1 hdr p1 h1 h2 h3⟩
end
end
end VL
end

section
set_option maxRecDepth 100000
set_option maxHeartbeats 1000000
namespace VL
open PySem L2

def PostS (K : PySem.W.Frag) (T : TabC) (fr : Frm) (W : WX) (B : Hp) (D' : Ends) : Out Fl → Prop
  | .ok f ρ' => ∀ (B' H' : Hp) (σ' : L2.St), Same B B' → EnvOk K T fr B' H' ρ' σ' → (match f with
    | .nx => D'.nx σ' H'
    | .bk => D'.bk σ' H'
    | .ct => D'.ct σ' H'
    | .rt d => ∀ v, Rep K T B' d v → D'.rt v H'
    | .ro d => ∀ a, OwnAt K T fr B' H' a d → Apart ρ' σ' a → D'.rt (.ref a) H')
  | .exc c fs ρ' => ∀ (B' H' : Hp) (σ' : L2.St) (cv : Value) (od : Option Addr), Same B B' → EnvOk K T fr B' H' ρ' σ' → ExcAt K T B' H' c fs cv od → W cv od σ' H'
  | .bad => False
def rdS (K : PySem.W.Frag) (T : TabC) (W : WX) (f : SS) : TS := fun D' σ H => ∃ fr B ρ, EnvOk K T fr B H ρ σ ∧ PostS K T fr W B D' (f ρ)
abbrev OKS (X : Cx) (T : TabC) (W : WX) (st : Stmt) (f : SS) : Prop := PS X st (rdS X.K T W f)
abbrev OKSs (X : Cx) (T : TabC) (W : WX) (sts : List Stmt) (f : SS) : Prop := PSs X sts (rdS X.K T W f)

section
variable {K : PySem.W.Frag} {T : TabC} {fr : Frm} {W : WX} {B B' H H' : Hp} {ρ ρ' : SEnv} {σ : L2.St}
theorem PostS.mono {D' : Ends} (e : Same B B') : ∀ {o : Out Fl}, PostS K T fr W B D' o → PostS K T fr W B' D' o
  | .ok _ _, h => fun B2 H2 σ2 s => h B2 H2 σ2 (e.trans s)
  | .exc _ _ _, h => fun B2 H2 σ2 cv od s => h B2 H2 σ2 cv od (e.trans s)
theorem PostS.bind {α β : Type} {R : Hp → Hp → SEnv → α → β → Prop} {D' : Ends} {Q' : β → Hp → Prop} {k : α → SEnv → Out Fl} : ∀ {o : Out α}, PostS K T fr W B D' (o.bind k) →
    (∀ a ρ1 B1 H1 b, o = .ok a ρ1 → Same B B1 → EnvOk K T fr B1 H1 ρ1 σ → R B1 H1 ρ1 a b → PostS K T fr W B1 D' (k a ρ1) → Q' b H1) → Post K T R fr W B σ Q' o
  | .ok a ρ1, h, hk => fun B1 H1 b s E r => hk a ρ1 B1 H1 b rfl s E r (PostS.mono s h)
  | .exc _ _ _, h, _ => fun B1 H1 cv od s E x => h B1 H1 σ cv od s E x
theorem PostS.done {D' : Ends} {σ' : L2.St} (h : PostS K T fr W B D' (.ok .nx ρ)) (E : EnvOk K T fr B H ρ σ') : D'.nx σ' H := h B H σ' (Same.refl _) E
theorem PostS.seq {D' : Ends} {D2 : Ends} {k : Fl → SEnv → Out Fl} (hk : ∀ f ρ, f ≠ .nx → k f ρ = .ok f ρ) (h2 : D2.rt = D'.rt ∧ D2.bk = D'.bk ∧ D2.ct = D'.ct) : ∀ {o : Out Fl}, PostS K T fr W B D' (o.bind k) →
    (∀ ρ1 B1 H1 σ1, Same B B1 → EnvOk K T fr B1 H1 ρ1 σ1 → PostS K T fr W B1 D' (k .nx ρ1) → D2.nx σ1 H1) → PostS K T fr W B D2 o
  | .ok .nx ρ1, h, hn => fun B1 H1 σ1 s E => hn ρ1 B1 H1 σ1 s E (PostS.mono s h)
  | .ok (.rt d) ρ1, h, _ => fun B1 H1 σ1 s E v r => by
    rw [h2.1]
    have h' : PostS K T fr W B D' (k (.rt d) ρ1) := h
    rw [hk _ _ (by intro z; cases z)] at h'
    exact h' B1 H1 σ1 s E v r
  | .ok (.ro d) ρ1, h, _ => fun B1 H1 σ1 s E a r ap => by
    rw [h2.1]
    have h' : PostS K T fr W B D' (k (.ro d) ρ1) := h
    rw [hk _ _ (by intro z; cases z)] at h'
    exact h' B1 H1 σ1 s E a r ap
  | .ok .bk ρ1, h, _ => fun B1 H1 σ1 s E => by
    show D2.bk σ1 H1
    rw [h2.2.1]
    have h' : PostS K T fr W B D' (k .bk ρ1) := h
    rw [hk _ _ (by intro z; cases z)] at h'
    exact h' B1 H1 σ1 s E
  | .ok .ct ρ1, h, _ => fun B1 H1 σ1 s E => by
    show D2.ct σ1 H1
    rw [h2.2.2]
    have h' : PostS K T fr W B D' (k .ct ρ1) := h
    rw [hk _ _ (by intro z; cases z)] at h'
    exact h' B1 H1 σ1 s E
  | .exc _ _ _, h, _ => h
end

def Frm.mask (fr : Frm) (p : Addr) (o : HO) : Frm := ⟨fr.B0, upd fr.F p o, fr.ia⟩
section
variable {K : PySem.W.Frag} {T : TabC} {fr : Frm} {B B' H H' : Hp} {ρ ρ' : SEnv} {σ σ' : L2.St} {p : Addr} {o : HO} {d : D}
theorem EnvOk.mask (E : EnvOk K T fr B H ρ σ) (r : OwnAt K T fr B H p d) (ap : Apart ρ σ p) (ho : H p = some o) : EnvOk K T (fr.mask p o) B H ρ σ := by
  refine ⟨E.bh, E.b0, fun b u e => ?_, E.ih, fun a ha => ?_, E.len, fun i s q => ?_, E.dis⟩
  · by_cases h : b = p
    · subst h
      have e' : upd fr.F b o b = some u := e
      rw [upd_same] at e'; rw [← e']; exact ho
    · have e' : upd fr.F p o b = some u := e
      rw [upd_ne h] at e'; exact E.fh _ _ e'
  · rcases E.bf a ha with h | ⟨h1, h2⟩
    · exact .inl h
    · refine .inr ⟨?_, h2⟩
      have hap : a ≠ p := fun z => by subst z; exact ha r.b
      show upd fr.F p o a = none
      rw [upd_ne hap]; exact h1
  · have z := E.slot i s q
    have fm : ∀ {a : Addr}, a ≠ p → fr.F a = none → (fr.mask p o).F a = none := fun {a} h e => by
      show upd fr.F p o a = none
      rw [upd_ne h]; exact e
    cases s with
    | no => trivial
    | sh d => exact z
    | own d =>
      obtain ⟨a, h1, ⟨h2, h3, h4, h5⟩⟩ := z
      exact ⟨a, h1, ⟨h2, fm (fun w => by subst w; exact ap i _ q rfl h1) h3, h4, h5⟩⟩
    | io d =>
      obtain ⟨a, h1, h2, h3, h4, h5⟩ := z
      exact ⟨a, h1, h2, h3, fm (fun w => by subst w; exact ap i _ q rfl h1) h4, h5⟩
theorem EnvOk.unmask (E : EnvOk K T (fr.mask p o) B' H' ρ' σ') (hf : fr.F p = none) (hb0 : fr.B0 p = none) : EnvOk K T fr B' H' ρ' σ' ∧ H' p = some o ∧ B' p = none ∧ Apart ρ' σ' p := by
  have fu : ∀ {a : Addr}, (fr.mask p o).F a = none → fr.F a = none := fun {a} h => by
    have h' : upd fr.F p o a = none := h
    by_cases z : a = p
    · subst z; exact hf
    · rw [upd_ne z] at h'; exact h'
  have fp : (fr.mask p o).F p = some o := upd_same
  refine ⟨⟨E.bh, E.b0, fun b u e => E.fh b u ?_, E.ih, fun a ha => ?_, E.len, fun i s q => ?_, E.dis⟩, E.fh _ _ fp, ?_, fun i s q al e => ?_⟩
  · show upd fr.F p o b = some u
    rw [upd_ne (fun z => by subst z; rw [hf] at e; cases e)]; exact e
  · rcases E.bf a ha with h | ⟨h1, h2⟩
    · exact .inl h
    · exact .inr ⟨fu h1, h2⟩
  · have z := E.slot i s q
    cases s with
    | no => trivial
    | sh d => exact z
    | own d => obtain ⟨a, h1, ⟨h2, h3, h4, h5⟩⟩ := z; exact ⟨a, h1, ⟨h2, fu h3, h4, h5⟩⟩
    | io d => obtain ⟨a, h1, h2, h3, h4, h5⟩ := z; exact ⟨a, h1, h2, h3, fu h4, h5⟩
  · cases z : B' p with
    | none => rfl
    | some u =>
      rcases E.bf p (by rw [z]; intro w; cases w) with w | ⟨w, _⟩
      · exact absurd hb0 w
      · rw [fp] at w; cases w
  · have z := E.slot i s q
    cases s with
    | no => cases al
    | sh d => cases al
    | own d =>
      obtain ⟨a, h1, h2⟩ := z
      rw [h1] at e; cases e
      have w := h2.f
      rw [fp] at w; cases w
    | io d =>
      obtain ⟨a, h1, _, _, w, _⟩ := z
      rw [h1] at e; cases e
      rw [fp] at w; cases w
end

section
variable {X : Cx} {T : TabC} {W : WX}
theorem okS_nil : OKSs X T W [] sSkip := pss_imp pss_nil fun D' σ H ⟨fr, B, ρ, E, p⟩ => p.done E
theorem okS_one {st : Stmt} {f : SS} (h : OKS X T W st f) : OKSs X T W [st] f := pss_one h
theorem okS_cons {st : Stmt} {sts : List Stmt} {f g : SS} (h : OKS X T W st f) (hr : OKSs X T W sts g) : OKSs X T W (st :: sts) (sSeq f g) := pss_imp (pss_cons h hr) fun D' σ H ⟨fr, B, ρ, E, p⟩ =>
  ⟨fr, B, ρ, E, PostS.seq (D' := D') (D2 := { D' with nx := rdS X.K T W g D' }) (k := fun f ρ => match f with | .nx => g ρ | f => .ok f ρ) (fun f ρ hf => by cases f <;> first | exact absurd rfl hf | rfl) ⟨rfl, rfl, rfl⟩ p fun ρ1 B1 H1 σ1 s1 E1 p1 => ⟨fr, B1, ρ1, E1, p1⟩⟩
theorem okS_pass {pos : Pos} : OKS X T W (.Pass pos) sSkip := ps_imp ps_pass fun D' σ H ⟨fr, B, ρ, E, p⟩ => p.done E
theorem okS_if {c : Expr} {a b : List Stmt} {t : ST} {f g : SS} {pos : Pos} (hc : OKB X T W c t) (ha : OKSs X T W a f) (hb : OKSs X T W b g) : OKS X T W (.If c a b pos) (sIf t f g) := ps_imp (ps_if hc ha hb) fun D' σ H ⟨fr, B, ρ, E, p⟩ =>
  ⟨fr, B, ρ, E, PostS.bind (R := RB) p fun d ρ1 B1 H1 b _ s1 E1 r1 p1 => by
    cases r1
    cases d with
    | true => rw [if_pos rfl]; exact ⟨fr, B1, ρ1, E1, p1⟩
    | false => rw [if_neg (by decide)]; exact ⟨fr, B1, ρ1, E1, p1⟩⟩
theorem okS_ret {e : Expr} {f : SE} {pos : Pos} (h : OKE X T W e f) : OKS X T W (.Return (some e) pos) (sRet f) := ps_imp (ps_ret h) fun D' σ H ⟨fr, B, ρ, E, p⟩ =>
  ⟨fr, B, ρ, E, PostS.bind (R := RV X.K T) p fun d ρ1 B1 H1 v _ s1 E1 r1 p1 => p1 B1 H1 σ (Same.refl _) E1 v r1⟩
theorem okS_retO {e : Expr} {f : SE} {pos : Pos} (h : OKO X T W e f) : OKS X T W (.Return (some e) pos) (sRetO f) := ps_imp (ps_ret h) fun D' σ H ⟨fr, B, ρ, E, p⟩ =>
  ⟨fr, B, ρ, E, PostS.bind (R := RO X.K T fr σ) p fun d ρ1 B1 H1 v _ s1 E1 r1 p1 => by
    obtain ⟨a, rfl, r, ap⟩ := r1
    exact p1 B1 H1 σ (Same.refl _) E1 a r ap⟩
theorem okS_expr {e : Expr} {f : SE} {pos : Pos} (h : OKE X T W e f) (hs : swapsWith e none pos.line X.env = pure false := by rfl) : OKS X T W (.Expr e pos) (sExpr f) := ps_imp (ps_expr h hs) fun D' σ H ⟨fr, B, ρ, E, p⟩ =>
  ⟨fr, B, ρ, E, PostS.bind (R := RV X.K T) p fun d ρ1 B1 H1 v _ s1 E1 r1 p1 => p1.done E1⟩
theorem okS_asg {i : Nat} {x : Str} {e : Expr} {f : SE} {pos pos' : Pos} (hN : X.N.Nodup) (h : OKE X T W e f) (hi : X.N[i]? = some x := by rfl) (hx : Loc X.env.scope x := by first | exact Or.inl rfl | exact Or.inr rfl) (hs : swapsWith e (some (.Name x pos')) pos.line X.env = pure false := by rfl)
    (hf : X.fn x = true ∨ X.env.scope.names.lookup x = some .local := by first | exact .inl rfl | exact .inr rfl) : OKS X T W (.Assign [.Name x pos'] e pos) (sAsg i f) := ps_imp (ps_set hN hi hx h hs hf) fun D' σ H ⟨fr, B, ρ, E, p⟩ =>
  ⟨fr, B, ρ, E, PostS.bind (R := RV X.K T) p fun d ρ1 B1 H1 v _ s1 E1 r1 p1 => p1 B1 H1 _ (Same.refl _) (E1.setSh r1)⟩
theorem okS_own {i : Nat} {x : Str} {e : Expr} {f : SE} {pos pos' : Pos} (hN : X.N.Nodup) (h : OKO X T W e f) (hi : X.N[i]? = some x := by rfl) (hx : Loc X.env.scope x := by first | exact Or.inl rfl | exact Or.inr rfl) (hs : swapsWith e (some (.Name x pos')) pos.line X.env = pure false := by rfl)
    (hf : X.fn x = true ∨ X.env.scope.names.lookup x = some .local := by first | exact .inl rfl | exact .inr rfl) : OKS X T W (.Assign [.Name x pos'] e pos) (sOwn i f) := ps_imp (ps_set hN hi hx h hs hf) fun D' σ H ⟨fr, B, ρ, E, p⟩ =>
  ⟨fr, B, ρ, E, PostS.bind (R := RO X.K T fr σ) p fun d ρ1 B1 H1 v _ s1 E1 r1 p1 => by
    obtain ⟨a, rfl, r, ap⟩ := r1
    exact p1 B1 H1 _ (Same.refl _) (E1.setOwn r ap)⟩
end

section
variable {K : PySem.W.Frag} {T : TabC}
def RM (K : PySem.W.Frag) (T : TabC) (fr : Frm) (σ : L2.St) (m : Bool) : Hp → Hp → SEnv → D → V → Prop := fun B H ρ d v => if m then RO K T fr σ B H ρ d v else Rep K T B d v
def rdM (K : PySem.W.Frag) (T : TabC) (W : WX) (m : Bool) (f : SE) : TE := fun σ H Q => ∃ fr B ρ, EnvOk K T fr B H ρ σ ∧ Post K T (RM K T fr σ m) fr W B σ Q (f ρ)
abbrev OKM (X : Cx) (T : TabC) (W : WX) (m : Bool) (e : Expr) (f : SE) : Prop := PE X e (rdM X.K T W m f)
end
section
variable {X : Cx} {T : TabC} {W : WX}
theorem okM_sh {e : Expr} {f : SE} (h : OKE X T W e f) : OKM X T W false e f := h
theorem RM.wait {fr : Frm} {m : Bool} {B H : Hp} {ρ : SEnv} {σ : L2.St} {d : D} {v : V} (E : EnvOk X.K T fr B H ρ σ) (r : RM X.K T fr σ m B H ρ d v) : ∃ fr' : Frm, EnvOk X.K T fr' B H ρ σ ∧
    ∀ B' H' ρ' σ', Same B B' → EnvOk X.K T fr' B' H' ρ' σ' → EnvOk X.K T fr B' H' ρ' σ' ∧ (if m then ∃ a, v = .ref a ∧ OwnAt X.K T fr B' H' a d ∧ Apart ρ' σ' a ∧ ∀ c d2, OwnAt X.K T fr' B' H' c d2 → c ≠ a else Rep X.K T B' d v) ∧ (∀ c d2, OwnAt X.K T fr' B' H' c d2 → OwnAt X.K T fr B' H' c d2) := by
  cases m with
  | false => exact ⟨fr, E, fun B' H' ρ' σ' s E' => ⟨E', Rep.mono s r, fun _ _ z => z⟩⟩
  | true =>
    obtain ⟨a, rfl, r, ap⟩ := r
    obtain ⟨o, ho⟩ := r.o.there
    refine ⟨fr.mask a o, E.mask r ap ho, fun B' H' ρ' σ' s E' => ?_⟩
    obtain ⟨E2, h2, b2, ap2⟩ := E'.unmask r.f (E.b0.free r.b)
    refine ⟨E2, ⟨a, rfl, ⟨b2, r.f, r.i, r.o.mono s (by rw [h2, ho])⟩, ap2, fun c d2 z w => ?_⟩, fun c d2 z => ⟨z.b, ?_, z.i, z.o⟩⟩
    · subst w
      have y := z.f
      rw [show (fr.mask c o).F c = some o from upd_same] at y
      cases y
    · have y : upd fr.F a o c = none := z.f
      by_cases w : c = a
      · subst w; exact r.f
      · rw [upd_ne w] at y; exact y
theorem setM {fr : Frm} {B H : Hp} {ρ : SEnv} {σ : L2.St} {m : Bool} {d : D} {v : V} {i : Nat} (E : EnvOk X.K T fr B H ρ σ) (r : RM X.K T fr σ m B H ρ d v) : EnvOk X.K T fr B H (ρ.set i (slotOf m d)) (σ.set i (some v)) := by
  cases m with
  | false => exact E.setSh r
  | true =>
    obtain ⟨a, rfl, r, ap⟩ := r
    exact E.setOwn r ap
theorem apart_set {ρ : SEnv} {σ : L2.St} {m : Bool} {d : D} {v : V} {i : Nat} {a : Addr} (ap : Apart ρ σ a) (h : m = true → v ≠ .ref a) : Apart (ρ.set i (slotOf m d)) (σ.set i (some v)) a := fun j s q al e => by
  rcases get_set_cases q with ⟨rfl, rfl⟩ | ⟨hne, q⟩
  · cases m with
    | false => cases al
    | true =>
      rw [List.getElem?_set] at e
      simp only [if_true] at e
      split at e
      · exact h rfl (Option.some.inj (Option.some.inj e))
      · cases e
  · rw [List.getElem?_set_ne (fun z => hne z.symm)] at e
    exact ap j s q al e
theorem pa_M2 {m n : Bool} {a b : Expr} {f g : SE} (ha : OKM X T W m a f) (hb : OKM X T W n b g) (h1 : starEach [a, b] X.env = (false, eval a X.env) :: starEach [b] X.env) (h2 : starEach [b] X.env = (false, eval b X.env) :: starEach [] X.env) :
    PA X [a, b] (tCons (rdM X.K T W m f) (tCons (rdM X.K T W n g) tNil)) := pa_cons ha (pa_cons hb pa_nil h2) h1
theorem wait_post {fr : Frm} {m n : Bool} {B1 H1 : Hp} {ρ1 : SEnv} {σ : L2.St} {d : D} {v : V} {D' : Ends} {g : SE} {k : D → SEnv → Out Fl} {Q' : VK} (E1 : EnvOk X.K T fr B1 H1 ρ1 σ) (r1 : RM X.K T fr σ m B1 H1 ρ1 d v) (p1 : PostS X.K T fr W B1 D' ((g ρ1).bind k))
    (fin : ∀ d2 ρ2 B2 H2 v2, Same B1 B2 → EnvOk X.K T fr B2 H2 ρ2 σ → RM X.K T fr σ m B2 H2 ρ2 d v → RM X.K T fr σ n B2 H2 ρ2 d2 v2 → (m = true → n = true → v ≠ v2) → PostS X.K T fr W B2 D' (k d2 ρ2) → Q' v2 H2) : rdM X.K T W n g σ H1 Q' := by
  obtain ⟨fr', E1', back⟩ := RM.wait E1 r1
  refine ⟨fr', B1, ρ1, E1', ?_⟩
  cases q : g ρ1 with
  | bad => rw [q] at p1; exact p1.elim
  | exc c fs ρ2 => rw [q] at p1; exact fun B2 H2 cv od s E2 x => p1 B2 H2 σ cv od s (back _ _ _ _ s E2).1 x
  | ok d2 ρ2 =>
    rw [q] at p1
    intro B2 H2 v2 s E2 r2
    obtain ⟨E3, w1, w2⟩ := back _ _ _ _ s E2
    refine fin d2 ρ2 B2 H2 v2 s E3 ?_ ?_ ?_ (PostS.mono s p1)
    · cases m with
      | false => exact w1
      | true => obtain ⟨a, rfl, h1, h2, _⟩ := w1; exact ⟨a, rfl, h1, h2⟩
    · cases n with
      | false => exact r2
      | true => obtain ⟨c, rfl, h1, h2⟩ := r2; exact ⟨c, rfl, w2 _ _ h1, h2⟩
    · intro hm hn
      subst hm hn
      obtain ⟨a, rfl, _, _, h3⟩ := w1
      obtain ⟨c, rfl, h1, _⟩ := r2
      intro z
      injection z with z
      exact h3 c d2 h1 z.symm
theorem RM.setKeep {fr : Frm} {m n : Bool} {B H : Hp} {ρ : SEnv} {σ : L2.St} {d d2 : D} {v v2 : V} {i : Nat} (r : RM X.K T fr σ n B H ρ d2 v2) (h : m = true → n = true → v ≠ v2) : RM X.K T fr (σ.set i (some v)) n B H (ρ.set i (slotOf m d)) d2 v2 := by
  cases n with
  | false => exact r
  | true =>
    obtain ⟨c, rfl, h1, h2⟩ := r
    exact ⟨c, rfl, h1, apart_set h2 fun hm => h hm rfl⟩
theorem okS_par {i j : Nat} {m n : Bool} {x y : Str} {a b : Expr} {f g : SE} {px py pt pos : Pos} {kt k2 : Nat} {pt2 : Pos} (hN : X.N.Nodup) (hc : X.calm = true) (ha : OKM X T W m a f) (hb : OKM X T W n b g)
    (hw : swappedStores [.Tuple [.Name x px, .Name y py] kt pt] (.Tuple [a, b] k2 pt2) X.env = pure (some [x, y]))
    (hi : X.N[i]? = some x := by rfl) (hj : X.N[j]? = some y := by rfl) (hij : i ≠ j := by decide)
    (hx : X.env.scope.names.lookup x = some .local := by rfl) (hy : X.env.scope.names.lookup y = some .local := by rfl)
    (h1 : starEach [a, b] X.env = (false, eval a X.env) :: starEach [b] X.env := by rfl) (h2 : starEach [b] X.env = (false, eval b X.env) :: starEach [] X.env := by rfl)
    (hs : swapsWithSole [.Tuple [.Name x px, .Name y py] kt pt] (.Tuple [a, b] k2 pt2) pos.line X.env = pure false := by rfl) :
    OKS X T W (.Assign [.Tuple [.Name x px, .Name y py] kt pt] (.Tuple [a, b] k2 pt2) pos) (sPar i j m n f g) :=
  ps_imp (ps_par hc hN hi hj hij hx hy (pa_M2 ha hb h1 h2) hw hs) fun D' σ H ⟨fr, B, ρ, E, p⟩ => ⟨fr, B, ρ, E, PostS.bind (R := RM X.K T fr σ m) p fun d ρ1 B1 H1 v _ s1 E1 r1 p1 =>
    wait_post E1 r1 p1 fun d2 ρ2 B2 H2 v2 s2 E2 r1' r2 hne p2 => ⟨v, v2, rfl, p2 B2 H2 _ (Same.refl _) (setM (setM E2 r1') (r2.setKeep hne))⟩⟩
end
end VL
end

section
set_option maxRecDepth 100000
set_option maxHeartbeats 1000000
namespace VL
open PySem L2
section
variable {X : Cx} {T : TabC} {W : WX}
theorem pe_name {i : Nat} {x : Str} {pos : Pos} (hN : X.N[i]? = some x := by rfl) (hv : Vis X.env.scope x := by first | exact Or.inl rfl | exact Or.inr (Or.inl rfl) | exact Or.inr (Or.inr rfl)) (hd : (x == ("__debug__" : Str)) = false := by decide)
    (hcd : (x == ("__classdict__" : Str)) = false := by decide) : PE X (.Name x pos) (tVar i) := pe_var hN hv hd hcd
theorem reSlot_post {fr : Frm} {B H : Hp} {ρ : SEnv} {σ : L2.St} {D' : Ends} {i : Nat} {f : D → Option D} (E : EnvOk X.K T fr B H ρ σ) (p : PostS X.K T fr W B D' (reSlot i f ρ)) :
    ∃ a d d', σ[i]? = some (some (.ref a)) ∧ ObjAt X.K T B H a d ∧ f d = some d' ∧ ∀ o, ObjAt X.K T B (upd H a o) a d' → D'.nx σ (upd H a o) := by
  unfold reSlot at p
  split at p
  · rename_i d q
    split at p
    · rename_i d' e
      obtain ⟨a, h1, h2⟩ := E.slot i _ q
      exact ⟨a, d, d', h1, h2.o, e, fun o ho => p B _ σ (Same.refl _) (E.write q rfl h1 (.inl ⟨d, rfl, rfl⟩) ho)⟩
    · exact p.elim
  · rename_i d q
    split at p
    · rename_i d' e
      obtain ⟨a, h1, _, _, _, h2⟩ := E.slot i _ q
      exact ⟨a, d, d', h1, h2, e, fun o ho => p B _ σ (Same.refl _) (E.write q rfl h1 (.inr ⟨d, rfl, rfl⟩) ho)⟩
    · exact p.elim
  · exact p.elim
theorem alone_bound {fr : Frm} {B H : Hp} {ρ : SEnv} {σ : L2.St} {i : Nat} (E : EnvOk X.K T fr B H ρ σ) (h : aloneAt ρ i = true) : ∃ a d, σ[i]? = some (some (.ref a)) ∧ (ρ[i]? = some (.own d) ∨ ρ[i]? = some (.io d)) ∧ ObjAt X.K T B H a d := by
  unfold aloneAt at h
  split at h
  · rename_i d q
    obtain ⟨a, h1, _, _, h2⟩ := E.at_alone (.inl q)
    exact ⟨a, d, h1, .inl q, h2⟩
  · rename_i d q
    obtain ⟨a, h1, _, _, h2⟩ := E.at_alone (.inr q)
    exact ⟨a, d, h1, .inr q, h2⟩
  · cases h
theorem okS_setI {i : Nat} {x : Str} {ix v : Expr} {fi fv : SE} {xpos spos pos : Pos} (hx : PE X (.Name x xpos) (tVar i)) (hi : OKE X T W ix fi) (hv : OKE X T W v fv)
    (ha : ∀ u, assign (.Subscript (.Name x xpos) ix spos) X.env u = (do
      let ov ← holding [u] (eval (.Name x xpos) X.env)
      let iv ← holding [u, ov] (eval ix X.env)
      standAt spos
      holding [u, ov, iv] (setItem ov iv u)
      release [u, ov, iv] []) := by intro _; rfl)
    (hs : swapsWithSole [.Subscript (.Name x xpos) ix spos] v pos.line X.env = pure false := by rfl) (hw : swappedStores [.Subscript (.Name x xpos) ix spos] v X.env = pure none := by rfl)
    (h1 : (assignEach [.Subscript (.Name x xpos) ix spos] X.env).map (·.2) = [assign (.Subscript (.Name x xpos) ix spos) X.env] := by rfl) : OKS X T W (.Assign [.Subscript (.Name x xpos) ix spos] v pos) (sSetI i fi fv) :=
  ps_imp (ps_asg hv (pg_sub hx hi set_list ha) hs hw h1) fun D' σ H ⟨fr, B, ρ, E, p⟩ => ⟨fr, B, ρ, E, PostS.bind (R := RV X.K T) p fun d ρ1 B1 H1 w _ s1 E1 r1 p1 => by
    split at p1
    · rename_i h0
      obtain ⟨a, d0, hb, _⟩ := alone_bound E1 h0
      refine ⟨.ref a, hb, fr, B1, ρ1, E1, PostS.bind (R := RV X.K T) p1 fun k ρ2 B2 H2 w2 _ s2 E2 r2 p2 => ?_⟩
      obtain ⟨a2, d1, d2, e1, o1, e2, fin⟩ := reSlot_post E2 p2
      rw [hb] at e1
      cases e1
      unfold setD at e2
      split at e2
      · rename_i xs z v0
        obtain ⟨vs, g1, g2⟩ := o1
        cases r2
        have hl := g2.length
        split at e2
        · rename_i hz
          cases e2
          refine ⟨a, vs, _, z.toNat, rfl, rfl, g1, ?_, fin _ ⟨_, upd_same, RepL.set (Rep.mono s2 r1) _ g2⟩⟩
          unfold ixN
          rw [if_pos hz.1, if_pos (by omega)]
        · split at e2
          · rename_i hz0 hz
            cases e2
            refine ⟨a, vs, _, ((xs.length : Int) + z).toNat, rfl, rfl, g1, ?_, fin _ ⟨_, upd_same, RepL.set (Rep.mono s2 r1) _ g2⟩⟩
            unfold ixN
            rw [if_neg (by omega), if_pos (by omega), show z + (vs.length : Int) = (xs.length : Int) + z by omega]
          · cases e2
      · cases e2
    · exact p1.elim⟩
theorem okS_fld {i : Nat} {x f : Str} {e : Expr} {g : SE} {xpos apos pos : Pos} (hx : PE X (.Name x xpos) (tVar i)) (he : OKE X T W e g) (hk : ∀ (c : Nat) (fs : List (Str × D)) (d : D), fldPut f d (.ins c fs) ≠ none → Cls X.K (T c) ∧ NoAttr X.K (T c) f)
    (hs : swapsWith e (some (.Attribute (.Name x xpos) f apos)) pos.line X.env = pure false := by rfl) : OKS X T W (.Assign [.Attribute (.Name x xpos) f apos] e pos) (sFld i f g) :=
  ps_imp (ps_fld hx he hs) fun D' σ H ⟨fr, B, ρ, E, p⟩ => ⟨fr, B, ρ, E, PostS.bind (R := RV X.K T) p fun d ρ1 B1 H1 w _ s1 E1 r1 p1 => by
    obtain ⟨a, d1, d2, e1, o1, e2, fin⟩ := reSlot_post E1 p1
    cases d1 with
    | ins c fs =>
      obtain ⟨k1, k2⟩ := hk c fs d (by rw [e2]; intro z; cases z)
      obtain ⟨dx, vfs, g1, g2⟩ := o1
      unfold fldPut at e2
      simp only at e2
      split at e2
      · rename_i hl
        cases e2
        exact ⟨.ref a, e1, a, T c, dx, vfs, rfl, g1, k1, k2, by rw [← g2.length]; exact hl, fin _ ⟨dx, _, upd_same, g2.put r1⟩⟩
      · cases e2
    | _ => cases e2⟩

def Touch (is : List Nat) (σ σ' : L2.St) : Prop := σ'.length = σ.length ∧ ∀ j, j ∉ is → σ'[j]? = σ[j]?
def rdG (K : PySem.W.Frag) (T : TabC) (g : SG) (is : List Nat) : TG := fun v σ H Q => ∃ (fr : Frm) (B : Hp) (ρ : SEnv) (d : D) (ρ' : SEnv), EnvOk K T fr B H ρ σ ∧ Rep K T B d v ∧ g d ρ = some ρ' ∧ ∀ σ', EnvOk K T fr B H ρ' σ' → Touch is σ σ' → Q σ' H
structure OKG (X : Cx) (T : TabC) (tg : Expr) (g : SG) (is : List Nat) : Prop where
  pg : PG X tg (rdG X.K T g is)
theorem pg_imp {tg : Expr} {t t' : TG} (h : PG X tg t) (k : ∀ v σ H Q, t' v σ H Q → t v σ H Q) : PG X tg t' := ⟨fun pins s σ H v u Q I r q => h.run pins s σ H v u Q I r (k _ _ _ _ q)⟩
theorem okG_name {i : Nat} {x : Str} {pos : Pos} (hN : X.N.Nodup) (hi : X.N[i]? = some x := by rfl) (hx : Loc X.env.scope x := by first | exact Or.inl rfl | exact Or.inr rfl) (hf : X.fn x = true ∨ X.env.scope.names.lookup x = some .local := by first | exact .inl rfl | exact .inr rfl) : OKG X T (.Name x pos) (gN i) [i] :=
  ⟨pg_imp (pg_name hN hi hx hf) fun v σ H Q ⟨fr, B, ρ, d, ρ', E, r, e, q⟩ => by
    cases e
    exact q _ (E.setSh r) ⟨by simp, fun j hj => List.getElem?_set_ne (fun z => hj (by simp [z]))⟩⟩
structure OKGs (X : Cx) (T : TabC) (tgs : List Expr) (gs : List SG) (is : List Nat) : Prop where
  pgs : PGs X tgs (fun vs σ H Q => ∃ (fr : Frm) (B : Hp) (ρ : SEnv) (ds : List D) (ρ' : SEnv), EnvOk X.K T fr B H ρ σ ∧ RepL X.K T B ds vs ∧ gNs gs ds ρ = some ρ' ∧ ∀ σ', EnvOk X.K T fr B H ρ' σ' → Touch is σ σ' → Q σ' H)
theorem pgs_imp {tgs : List Expr} {t t' : TGs} (h : PGs X tgs t) (k : ∀ v σ H Q, t' v σ H Q → t v σ H Q) : PGs X tgs t' := ⟨fun pins s σ H v u Q I r q => h.run pins s σ H v u Q I r (k _ _ _ _ q)⟩
theorem okGs_nil : OKGs X T [] [] [] := ⟨pgs_imp pgs_nil fun vs σ H Q ⟨fr, B, ρ, ds, ρ', E, r, e, q⟩ => by
  cases r with
  | nil => cases e; exact ⟨rfl, q σ E ⟨rfl, fun _ _ => rfl⟩⟩
  | cons _ _ => cases e⟩
theorem okGs_cons {tg : Expr} {tgs : List Expr} {g : SG} {gs : List SG} {is js : List Nat} (h : OKG X T tg g is) (hr : OKGs X T tgs gs js) (hs : (assignEach (tg :: tgs) X.env).map (·.2) = assign tg X.env :: (assignEach tgs X.env).map (·.2) := by rfl) : OKGs X T (tg :: tgs) (g :: gs) (is ++ js) :=
  ⟨pgs_imp (pgs_cons h.pg hr.pgs hs) fun vs σ H Q ⟨fr, B, ρ, ds, ρ', E, r, e, q⟩ => by
    cases r with
    | nil => cases e
    | @cons d v ds vs r1 r2 =>
      have e' : ((g d ρ).bind fun ρ => gNs gs ds ρ) = some ρ' := e
      cases e1 : g d ρ with
      | none => rw [e1] at e'; cases e'
      | some ρ1 =>
        rw [e1] at e'
        refine ⟨v, vs, rfl, fr, B, ρ, d, ρ1, E, r1, e1, fun σ1 E1 t1 => ⟨fr, B, ρ1, ds, ρ', E1, r2, e', fun σ2 E2 t2 => q σ2 E2 ⟨t2.1.trans t1.1, fun j hj => ?_⟩⟩⟩
        rw [List.mem_append, not_or] at hj
        exact (t2.2 j hj.2).trans (t1.2 j hj.1)⟩
theorem gNs_len : ∀ {gs : List SG} {ds : List D} {ρ ρ' : SEnv}, gNs gs ds ρ = some ρ' → ds.length = gs.length
  | [], [], _, _, _ => rfl
  | [], _ :: _, _, _, e => by cases e
  | _ :: _, [], _, _, e => by cases e
  | g :: gs, d :: ds, ρ, ρ', e => by
    have e' : ((g d ρ).bind fun ρ => gNs gs ds ρ) = some ρ' := e
    cases e1 : g d ρ with
    | none => rw [e1] at e'; cases e'
    | some ρ1 => rw [e1] at e'; simp [gNs_len e']
theorem okG_tup {tgs : List Expr} {gs : List SG} {is : List Nat} {k : Nat} {pos : Pos} (hc : X.calm = true) (h : OKGs X T tgs gs is) (hn : (assignEach tgs X.env).length = gs.length := by rfl) (hst : (assignEach tgs X.env).findIdx? (·.1) = none := by rfl) : OKG X T (.Tuple tgs k pos) (gT gs) is :=
  ⟨pg_imp (pg_tup hc h.pgs hn hst) fun v σ H Q ⟨fr, B, ρ, d, ρ', E, r, e, q⟩ => by
    cases r with
    | tup h1 h2 => exact ⟨_, _, rfl, sameT E.bh h1, by rw [← h2.length]; exact gNs_len e, fr, B, ρ, _, ρ', E, h2, e, q⟩
    | _ => cases e⟩
def VWalk (K : PySem.W.Frag) (T : TabC) (B : Hp) (xs : List D) (J : It) : Prop := ∃ (G : Hp → Prop) (Y : Nat → Hp → V → Hp → Prop), Walk J xs.length G Y ∧ (∀ B1 H, Same B B1 → Same B1 H → G H) ∧
  ∀ (i : Nat) (H : Hp) (v : V) (H' B1 : Hp), i < xs.length → Same B B1 → Same B1 H → Y i H v H' → ∃ d B2, xs[i]? = some d ∧ Grow B1 H B2 H' ∧ Rep K T B2 d v
def RI (K : PySem.W.Frag) (T : TabC) : Hp → Hp → SEnv → List D → It → Prop := fun B _ _ xs J => VWalk K T B xs J
abbrev OKI (X : Cx) (T : TabC) (W : WX) (tg e : Expr) (f : SI) : Prop := PI X tg e (fun σ H R => ∃ fr B ρ, EnvOk X.K T fr B H ρ σ ∧ Post X.K T (RI X.K T) fr W B σ R (f ρ))
theorem pi_imp {tg e : Expr} {t t' : TI} (h : PI X tg e t) (k : ∀ σ H R, t' σ H R → t σ H R) : PI X tg e t' := ⟨fun pins s σ H R I q => h.run pins s σ H R I (k _ _ _ q)⟩
theorem walkL {K : PySem.W.Frag} {B : Hp} {xs : List D} {a : Addr} {vs : List V} (h : ∀ H, Same B H → SqL K H a vs) (r : RepL K T B xs vs) : VWalk K T B xs (Itl K a) :=
  ⟨_, _, by rw [r.length]; exact walk_list (xs := vs), fun B1 H s1 s2 => h H (s1.trans s2), fun i H v H' B1 hi s1 s2 y => by
    obtain ⟨rfl, e⟩ := y
    obtain ⟨d, h1, h2⟩ := r.get' e
    exact ⟨d, B1, h1, .refl, h2.mono s1⟩⟩
theorem walkT {K : PySem.W.Frag} {B : Hp} {xs : List D} {a : Addr} {vs : List V} (h : SqT K B a vs) (r : RepL K T B xs vs) : VWalk K T B xs (Itt K a) :=
  ⟨_, _, by rw [r.length]; exact walk_tup (xs := vs), fun B1 H s1 s2 => sameT (s1.trans s2) h, fun i H v H' B1 hi s1 s2 y => by
    obtain ⟨rfl, e⟩ := y
    obtain ⟨d, h1, h2⟩ := r.get' e
    exact ⟨d, B1, h1, .refl, h2.mono s1⟩⟩
theorem okI_seq {tg e : Expr} {f : SE} (he : OKE X T W e f) : OKI X T W tg e (iSeq f) := by
  constructor
  rintro pins s σ H R I ⟨fr, B, ρ, E, p⟩
  have run : ∀ d ρ1, f ρ = .ok d ρ1 → (∃ xs, d = .lst xs) ∨ (∃ ns, d = .scr ns) ∨ (∃ xs, d = .tup xs) ∨ itemsD d = none := fun d ρ1 _ => by
    cases d <;> first | exact .inl ⟨_, rfl⟩ | exact .inr (.inl ⟨_, rfl⟩) | exact .inr (.inr (.inl ⟨_, rfl⟩)) | exact .inr (.inr (.inr rfl))
  have asL : (∀ d ρ1, f ρ = .ok d ρ1 → (∃ xs, d = .lst xs) ∨ (∃ ns, d = .scr ns)) → wpAny (model X.prog X.w) X.A (eval e X.env) (fun v s1 => wpAny (model X.prog X.w) X.A (pyIter v) (PIE X pins σ tg R) X.xe s1) X.xe s := fun hd =>
    (pi_list he).run pins s σ H R I ⟨fr, B, ρ, E, p.bind fun d ρ1 B1 H1 v q s1 E1 r1 p1 => by
      rcases hd d ρ1 q with ⟨xs, rfl⟩ | ⟨ns, rfl⟩
      · cases r1 with
        | lst h1 h2 => exact ⟨_, rfl, ⟨_, SqL.of (E1.bh _ _ h1)⟩, p1.done E1 (walkL (fun H s => SqL.of (s _ _ h1)) h2)⟩
      · cases r1 with
        | scr h1 => exact ⟨_, rfl, ⟨_, E1.bh.seq h1⟩, p1.done E1 (walkL (fun H s => s.seq h1) (RepL.ints _))⟩⟩
  have asT : (∀ d ρ1, f ρ = .ok d ρ1 → ∃ xs, d = .tup xs) → wpAny (model X.prog X.w) X.A (eval e X.env) (fun v s1 => wpAny (model X.prog X.w) X.A (pyIter v) (PIE X pins σ tg R) X.xe s1) X.xe s := fun hd =>
    (pi_tup he).run pins s σ H R I ⟨fr, B, ρ, E, p.bind fun d ρ1 B1 H1 v q s1 E1 r1 p1 => by
      obtain ⟨xs, rfl⟩ := hd d ρ1 q
      cases r1 with
      | tup h1 h2 => exact ⟨_, rfl, ⟨_, sameT E1.bh h1⟩, p1.done E1 (walkT h1 h2)⟩⟩
  cases q : f ρ with
  | bad =>
    have pp := p
    unfold iSeq at pp
    rw [q] at pp
    exact pp.elim
  | exc c fs ρ1 => exact asT fun d ρ2 z => by rw [q] at z; cases z
  | ok d ρ1 =>
    rcases run d ρ1 q with h | h | h | h
    · exact asL fun d' ρ2 z => by rw [q] at z; cases z; exact .inl h
    · exact asL fun d' ρ2 z => by rw [q] at z; cases z; exact .inr h
    · exact asT fun d' ρ2 z => by rw [q] at z; cases z; exact h
    · have pp := p
      unfold iSeq at pp
      rw [q] at pp
      simp only [Out.bind_ok, h] at pp
      exact pp.elim
theorem walkR {K : PySem.W.Frag} {B : Hp} {lo hi : Int} : VWalk K T B (rngD lo hi) (Itr lo (hi - lo).toNat) :=
  ⟨_, _, by
    have e : (rngD lo hi).length = (hi - lo).toNat := by unfold rngD; rw [List.length_map, List.length_range]
    rw [e]; exact walk_range, fun _ _ _ _ => trivial, fun i H v H' B1 hi s1 s2 y => by
    obtain ⟨rfl, rfl⟩ := y
    refine ⟨_, B1, ?_, .refl, .int _⟩
    unfold rngD at hi ⊢
    rw [List.length_map, List.length_range] at hi
    rw [List.getElem?_map, List.getElem?_range hi]
    rfl⟩
theorem okI_rng1 {tg a : Expr} {f : SE} {p pos : Pos} (hm : X.mg "range" = none) (ha : OKE X T W a f) (hg : Gl X "range" := by rfl) (hs : starEach [a] X.env = [(false, eval a X.env)] := by rfl) : OKI X T W tg (.Call (.Name "range" p) [a] [] pos) (iRng1 f) :=
  pi_imp (pi_range1 hg hm (pa_cons ha pa_nil hs) hs) fun σ H R ⟨fr, B, ρ, E, p⟩ => ⟨fr, B, ρ, E, p.bind fun d ρ1 B1 H1 v _ s1 E1 r1 p1 => by
    cases r1 with
    | int j =>
      simp only at p1
      split at p1
      · rename_i h
        refine ⟨j, rfl, h.1, h.2, p1.done E1 ?_⟩
        have z := walkR (K := X.K) (T := T) (B := B1) (lo := 0) (hi := j)
        rw [show j - 0 = j by omega] at z
        exact z
      · exact p1.elim
    | _ => exact p1.elim⟩
theorem okI_rng2 {tg a b : Expr} {f g : SE} {p pos : Pos} (hm : X.mg "range" = none) (ha : OKE X T W a f) (hb : OKE X T W b g) (hg : Gl X "range" := by rfl) (hs : starEach [a, b] X.env = [(false, eval a X.env), (false, eval b X.env)] := by rfl) (hs2 : starEach [b] X.env = [(false, eval b X.env)] := by rfl) : OKI X T W tg (.Call (.Name "range" p) [a, b] [] pos) (iRng2 f g) :=
  pi_imp (pi_range2 hg hm (pa_cons ha (pa_cons hb pa_nil hs2) (by rw [hs, hs2])) hs hs2) fun σ H R ⟨fr, B, ρ, E, p⟩ => ⟨fr, B, ρ, E, p.bind fun d ρ1 B1 H1 v _ s1 E1 r1 p1 => ⟨fr, B1, ρ1, E1, p1.bind fun d2 ρ2 B2 H2 v2 _ s2 E2 r2 p2 => by
    cases r1 with
    | int i =>
      cases r2 with
      | int j =>
        simp only at p2
        split at p2
        · rename_i h
          exact ⟨i, j, rfl, h, p2.done E2 walkR⟩
        · exact p2.elim
      | _ => exact p2.elim
    | _ => cases r2 <;> exact p2.elim⟩⟩

theorem okS_for {tg iter : Expr} {body : List Stmt} {it : SI} {g : SG} {is : List Nat} {b : SS} {pos : Pos} (hc : X.calm = true) (hp : PassesOwn (model X.prog X.w) X.A X.env X.xe) (hi : OKI X T W tg iter it) (hg : OKG X T tg g is) (hb : OKSs X T W body b) (hs : ∀ x, foldedSetIterable iter X.env x = pure x := by intro _; rfl) : OKS X T W (.For tg iter body [] pos) (sFor it g b) :=
  ps_imp (ps_for hp hc hi hg.pg hb hs) fun D' σ H ⟨fr, B, ρ, E, p⟩ => ⟨fr, B, ρ, E, PostS.bind (R := RI X.K T) p fun xs ρ1 B1 H1 J _ s1 E1 r1 p1 => by
    obtain ⟨G, Y, wk, hG, hY⟩ := r1
    refine for_it (g := rdG X.K T g is) (tb := rdS X.K T W b) (D := D') wk (fun i σ H => ∃ B2 ρ2, Same B1 B2 ∧ EnvOk X.K T fr B2 H ρ2 σ ∧ PostS X.K T fr W B2 D' (forL g b (xs.drop i) ρ2)) ⟨B1, ρ1, Same.refl _, E1, p1⟩ (fun i σ H _ ⟨B2, ρ2, s2, E2, _⟩ => hG B2 H s2 E2.bh) ?_ ?_
    · rintro i v σ2 H2 H3 hi ⟨B2, ρ2, s2, E2, p2⟩ y
      obtain ⟨d, B3, hd, gr, r3⟩ := hY i H2 v H3 B2 hi s2 E2.bh y
      have hdr : xs.drop i = d :: xs.drop (i + 1) := by
        rw [List.drop_eq_getElem_cons hi]
        rw [List.getElem?_eq_getElem hi] at hd
        rw [Option.some.inj hd]
      rw [hdr] at p2
      unfold forL at p2
      cases e1 : g d ρ2 with
      | none => rw [e1] at p2; exact p2.elim
      | some ρ3 =>
        rw [e1] at p2
        have E3 := gr.env E2
        have s3 := gr.same E2
        refine ⟨fr, B3, ρ2, d, ρ3, E3, r3, e1, fun σ3 E4 _ => ⟨fr, B3, ρ3, E4, ?_⟩⟩
        have p3 := PostS.mono s3 p2
        simp only at p3
        cases q : b ρ3 with
        | bad => rw [q] at p3; exact p3.elim
        | exc c fs ρ4 => rw [q] at p3; exact p3
        | ok f ρ4 =>
          rw [q] at p3
          intro B4 H4 σ4 s4 E5
          have p4 := PostS.mono s4 p3
          cases f with
          | nx => exact ⟨B4, ρ4, (s2.trans s3).trans s4, E5, p4⟩
          | ct => exact ⟨B4, ρ4, (s2.trans s3).trans s4, E5, p4⟩
          | bk => exact PostS.done p4 E5
          | rt d => exact fun v r => p4 B4 H4 σ4 (Same.refl _) E5 v r
          | ro d => exact fun a r ap => p4 B4 H4 σ4 (Same.refl _) E5 a r ap
    · rintro σ2 H2 ⟨B2, ρ2, s2, E2, p2⟩
      rw [List.drop_of_length_le (Nat.le_refl _)] at p2
      exact p2.done E2⟩
theorem okS_while {c : Expr} {body : List Stmt} {t : ST} {b : SS} {pos : Pos} {n : Nat} (hp : PassesOwn (model X.prog X.w) X.A X.env X.xe) (hc : OKB X T W c t) (hb : OKSs X T W body b) : OKS X T W (.While c body [] pos) (sWhile t b n) :=
  ps_imp (ps_while hp hc hb) fun D' σ H ⟨fr, B, ρ, E, p⟩ => by
    refine ⟨fun m σ H => ∃ B2 ρ2, EnvOk X.K T fr B2 H ρ2 σ ∧ PostS X.K T fr W B2 D' (sWhile t b m ρ2), ⟨n, B, ρ, E, p⟩, ?_⟩
    rintro m σ2 H2 ⟨B2, ρ2, E2, p2⟩
    cases m with
    | zero => exact p2.elim
    | succ m =>
      unfold sWhile at p2
      refine ⟨fr, B2, ρ2, E2, PostS.bind (R := RB) p2 fun k ρ3 B3 H3 bb _ s3 E3 r3 p3 => ?_⟩
      cases r3
      cases k with
      | false =>
        rw [if_neg (by decide)]
        exact PostS.done (by simpa using p3) E3
      | true =>
        rw [if_pos rfl]
        refine ⟨fun σ H => ∃ B2 ρ2, EnvOk X.K T fr B2 H ρ2 σ ∧ PostS X.K T fr W B2 D' (sWhile t b m ρ2), fun σ' H' h => ⟨m, Nat.lt_succ_self _, h⟩, fr, B3, ρ3, E3, ?_⟩
        simp only [if_true] at p3
        cases q : b ρ3 with
        | bad => rw [q] at p3; exact p3.elim
        | exc c fs ρ4 => rw [q] at p3; exact p3
        | ok f ρ4 =>
          rw [q] at p3
          intro B4 H4 σ4 s4 E5
          have p4 := PostS.mono s4 p3
          cases f with
          | nx => exact ⟨B4, ρ4, E5, p4⟩
          | ct => exact ⟨B4, ρ4, E5, p4⟩
          | bk => exact PostS.done p4 E5
          | rt d => exact fun v r => p4 B4 H4 σ4 (Same.refl _) E5 v r
          | ro d => exact fun a r ap => p4 B4 H4 σ4 (Same.refl _) E5 a r ap
end
end VL
end

section
set_option maxRecDepth 100000
set_option maxHeartbeats 1000000
namespace VL
open PySem L2
section
variable {K : PySem.W.Frag} {T : TabC} {fr : Frm} {B B' H H' : Hp} {ρ ρ' ρ0 : SEnv} {σ σ' : L2.St}
theorem wipe_get {σ : L2.St} {j : Nat} : ∀ {vs : List Nat}, (wipe σ vs)[j]? = if j ∈ vs then σ[j]?.map (fun _ => none) else σ[j]?
  | [] => by simp [wipe]
  | v :: vs => by
    unfold wipe
    have ih := wipe_get (σ := σ) (j := j) (vs := vs)
    by_cases h : j = v
    · subst h
      rw [List.getElem?_set]
      simp only [List.mem_cons, true_or, if_true]
      rw [wipe_length]
      by_cases hl : j < σ.length
      · rw [if_pos hl, List.getElem?_eq_getElem hl]; rfl
      · rw [if_neg hl, List.getElem?_eq_none (by omega)]; rfl
    · rw [List.getElem?_set_ne (fun z => h z.symm), ih]
      simp [h]
theorem wipeE_get {ρ : SEnv} {j : Nat} : ∀ {vs : List Nat}, (wipeE ρ vs)[j]? = if j ∈ vs then ρ[j]?.map (fun _ => Slot.no) else ρ[j]?
  | [] => by simp [wipeE]
  | v :: vs => by
    unfold wipeE
    have ih := wipeE_get (ρ := ρ) (j := j) (vs := vs)
    have len : ∀ {vs : List Nat}, (wipeE ρ vs).length = ρ.length := by
      intro vs
      induction vs with
      | nil => rfl
      | cons v vs ih => unfold wipeE; rw [List.length_set, ih]
    by_cases h : j = v
    · subst h
      rw [List.getElem?_set]
      simp only [List.mem_cons, true_or, if_true]
      rw [len]
      by_cases hl : j < ρ.length
      · rw [if_pos hl, List.getElem?_eq_getElem hl]; rfl
      · rw [if_neg hl, List.getElem?_eq_none (by omega)]; rfl
    · rw [List.getElem?_set_ne (fun z => h z.symm), ih]
      simp [h]
theorem wipe_touch {vs is : List Nat} {σ σ2 : L2.St} (hi : ∀ i ∈ is, i ∈ vs) (t : Touch is (wipe σ vs) σ2) : wipe σ2 vs = wipe σ vs := by
  apply List.ext_getElem?
  intro j
  rw [wipe_get, wipe_get]
  by_cases h : j ∈ vs
  · rw [if_pos h, if_pos h]
    have hl : σ2.length = σ.length := by rw [t.1, wipe_length]
    by_cases hj : j < σ.length
    · rw [List.getElem?_eq_getElem hj, List.getElem?_eq_getElem (by omega)]; rfl
    · rw [List.getElem?_eq_none (by omega), List.getElem?_eq_none (by omega)]
  · rw [if_neg h, if_neg h, t.2 j (fun z => h (hi j z)), wipe_get, if_neg h]
theorem EnvOk.wipeAll (E : EnvOk K T fr B H ρ σ) : ∀ vs : List Nat, EnvOk K T fr B H (wipeE ρ vs) (wipe σ vs)
  | [] => E
  | v :: vs => (EnvOk.wipeAll E vs).setNo
theorem backE_len : ∀ {vs : List Nat}, (backE ρ0 ρ vs).length = ρ.length
  | [] => rfl
  | v :: vs => by unfold backE; rw [List.length_set, backE_len]
theorem backE_get {j : Nat} {s : Slot} : ∀ {vs : List Nat}, (backE ρ0 ρ vs)[j]? = some s → (j ∈ vs ∧ s = ρ0.getD j .no) ∨ (j ∉ vs ∧ ρ[j]? = some s)
  | [], h => .inr ⟨by simp, h⟩
  | v :: vs, h => by
    unfold backE at h
    rcases get_set_cases h with ⟨rfl, rfl⟩ | ⟨hne, h⟩
    · exact .inl ⟨by simp, rfl⟩
    · rcases backE_get h with ⟨h1, h2⟩ | ⟨h1, h2⟩
      · exact .inl ⟨by simp [h1], h2⟩
      · exact .inr ⟨by simp [h1, hne], h2⟩
theorem shOnly_at {vs : List Nat} (h : shOnly ρ0 vs = true) {j : Nat} (hj : j ∈ vs) : (ρ0.getD j .no).alone = false := by
  unfold shOnly at h
  rw [List.all_eq_true] at h
  have z := h j hj
  rw [List.getD_eq_getElem?_getD]
  cases q : ρ0[j]? with
  | none => rfl
  | some s =>
    rw [q] at z
    cases s <;> first | rfl | cases z
theorem EnvOk.back {B1 H1 : Hp} {vs : List Nat} (E0 : EnvOk K T fr B1 H1 ρ0 σ) (s : Same B1 B) (E : EnvOk K T fr B H ρ (wipe σ vs)) (h : shOnly ρ0 vs = true) : EnvOk K T fr B H (backE ρ0 ρ vs) σ := by
  have out : ∀ {j : Nat} {s : Slot}, (backE ρ0 ρ vs)[j]? = some s → s.alone = true → j ∉ vs ∧ ρ[j]? = some s := fun {j s} q al => by
    rcases backE_get q with ⟨h1, rfl⟩ | h1
    · rw [shOnly_at h h1] at al; cases al
    · exact h1
  have sg : ∀ {j : Nat}, j ∉ vs → (wipe σ vs)[j]? = σ[j]? := fun {j} hj => by rw [wipe_get, if_neg hj]
  refine ⟨E.bh, E.b0, E.fh, E.ih, E.bf, by rw [backE_len, E.len, wipe_length], fun j t q => ?_, fun j k t t' a jk q1 q2 a1 a2 e1 e2 => ?_⟩
  · rcases backE_get q with ⟨h1, rfl⟩ | ⟨h1, h2⟩
    · rw [List.getD_eq_getElem?_getD]
      cases q2 : ρ0[j]? with
      | none => trivial
      | some t =>
        have z := E0.slot j t q2
        have al := shOnly_at h h1
        rw [List.getD_eq_getElem?_getD, q2] at al
        cases t with
        | no => trivial
        | sh d => obtain ⟨v, k1, k2⟩ := z; exact ⟨v, k1, k2.mono s⟩
        | own d => cases al
        | io d => cases al
    · have z := E.slot j t h2
      cases t <;> simpa only [SlotOk, sg h1] using z
  · obtain ⟨n1, m1⟩ := out q1 a1
    obtain ⟨n2, m2⟩ := out q2 a2
    exact E.dis j k t t' a jk m1 m2 a1 a2 (by rw [sg n1]; exact e1) (by rw [sg n2]; exact e2)
theorem Apart.back {vs : List Nat} {a : Addr} (ap : Apart ρ (wipe σ vs) a) (h : shOnly ρ0 vs = true) : Apart (backE ρ0 ρ vs) σ a := fun j s q al e => by
  rcases backE_get q with ⟨h1, rfl⟩ | ⟨h1, h2⟩
  · rw [shOnly_at h h1] at al; cases al
  · exact ap j s h2 al (by rw [wipe_get, if_neg h1]; exact e)
theorem Apart.wipeAll {vs : List Nat} {a : Addr} (ap : Apart ρ σ a) : Apart (wipeE ρ vs) (wipe σ vs) a := fun j s q al e => by
  rw [wipeE_get] at q
  rw [wipe_get] at e
  by_cases h : j ∈ vs
  · rw [if_pos h] at q
    cases z : ρ[j]? with
    | none => rw [z] at q; cases q
    | some t => rw [z] at q; cases q; cases al
  · rw [if_neg h] at q e
    exact ap j s q al e
theorem EnvOk.poke (E : EnvOk K T fr B H ρ σ) {p : Addr} {o : HO} (hb : B p = none) (hf : fr.F p = none) (ap : Apart ρ σ p) : EnvOk K T fr B (upd H p o) ρ σ := by
  have ne_ : ∀ {G : Hp} {b : Addr} {w : HO}, G p = none → G b = some w → b ≠ p := fun {G b w} hg hw e => by subst e; rw [hg] at hw; cases hw
  refine ⟨fun b w e => by rw [upd_ne (ne_ hb e)]; exact E.bh _ _ e, E.b0, fun b w e => by rw [upd_ne (ne_ hf e)]; exact E.fh _ _ e, fun k b e => ?_, E.bf, E.len, fun j t e => ?_, E.dis⟩
  · by_cases h : b = p
    · subst h; rw [upd_same]; intro z; cases z
    · rw [upd_ne h]; exact E.ih k b e
  · have z := E.slot j t e
    cases t with
    | no => trivial
    | sh d => exact z
    | own d =>
      obtain ⟨b, h1, ⟨h2, h3, h4, h5⟩⟩ := z
      have hbp : b ≠ p := fun w => by subst w; exact ap j _ e rfl h1
      exact ⟨b, h1, ⟨h2, h3, h4, h5.mono (Same.refl _) (upd_ne hbp)⟩⟩
    | io d =>
      obtain ⟨b, h1, h2, h3, h4, h5⟩ := z
      have hbp : b ≠ p := fun w => by subst w; exact ap j _ e rfl h1
      exact ⟨b, h1, h2, h3, h4, h5.mono (Same.refl _) (upd_ne hbp)⟩
end
abbrev W0 : WX := fun _ _ _ _ => False
section
variable {X : Cx} {T : TabC} {W : WX}
abbrev OKPs (X : Cx) (T : TabC) (W : WX) (ifs : List Expr) (t : ST) : Prop := PTs X ifs (rdB X.K T W t)
theorem okPs_nil : OKPs X T W [] tYesS := ⟨fun pins s σ H Q I ⟨fr, B, ρ, E, p⟩ => pts_nil.run pins s σ H Q I (p.done E rfl)⟩
theorem lc_read {xs : List D} {vs is : List Nat} {g : SG} {t : ST} {e : SE} {fr : Frm} {B1 H1 : Hp} {ρ1 ρf : SEnv} {σ : L2.St} {ds : List D} {Dd : Addr} {Qd : Hp → Prop} {J : It} {K : PySem.W.Frag} (E1 : EnvOk K T fr B1 H1 ρ1 σ) (r1 : VWalk K T B1 xs J) (hd : H1 Dd = none) (hi : ∀ i ∈ is, i ∈ vs)
    (he : compL vs g t e xs [] (wipeE ρ1 vs) = .ok ds ρf) (hs : shOnly ρ1 vs = true)
    (fin : ∀ B2 H2, Same B1 B2 → EnvOk K T fr B2 H2 (backE ρ1 ρf vs) σ → OwnAt K T fr B2 H2 Dd (.lst ds) → Apart (backE ρ1 ρf vs) σ Dd → Qd H2) :
    ∃ W : Nat → Nat → Hp → Prop, (∃ m, W 0 m (upd H1 Dd (.lst []))) ∧ ∀ i m H, W i m H →
      (J.stop i H ∧ Qd H) ∨ (J.go i H ∧ ∃ Nx : Hp → Prop, (∀ H', Nx H' → ∃ m', m' < m ∧ W (i + 1) m' H') ∧ ∀ x H', J.yld i H x H' → rdG K T g is x (wipe σ vs) H' fun σ2 H2 => wipe σ2 vs = wipe σ vs ∧ rdB K T W0 t σ2 H2 fun b H3 =>
        if b = true then rdE K T W0 e σ2 H3 fun y H4 => ∃ acc, H4 Dd = some (.lst acc) ∧ acc.length < sizeLine ∧ Nx (upd H4 Dd (.lst (acc ++ [y]))) else Nx H3) := by
  obtain ⟨G, Y, wk, hG, hY⟩ := r1
  have fd : fr.F Dd = none := E1.fh.free hd
  have bd0 : fr.B0 Dd = none := E1.b0.free (E1.bh.free hd)
  have id : ∀ k, fr.ia k ≠ some Dd := fun k z => E1.ih k Dd z hd
  refine lc_it wk (fun i H => ∃ B2 ρ2 acc vacc, Same B1 B2 ∧ EnvOk K T fr B2 H ρ2 (wipe σ vs) ∧ B2 Dd = none ∧ Apart ρ2 (wipe σ vs) Dd ∧ H Dd = some (.lst vacc) ∧ RepL K T B2 acc vacc ∧ (∀ j ∈ vs, ρ2[j]? = some .no ∨ ρ2[j]? = none) ∧ compL vs g t e (xs.drop i) acc ρ2 = .ok ds ρf)
    ⟨B1, wipeE ρ1 vs, [], [], Same.refl _, (E1.allocOwn hd).wipeAll vs, E1.bh.free hd, (E1.apart_new hd).wipeAll, upd_same, .nil, fun j hj => by
      rw [wipeE_get, if_pos hj]
      cases ρ1[j]? <;> simp, he⟩ (fun i H _ ⟨B2, ρ2, acc, vacc, s2, E2, _⟩ => hG B2 H s2 E2.bh) ?_ ?_
  · rintro i v H2 H3 hi2 ⟨B2, ρ2, acc, vacc, s2, E2, b2, ap2, hD, ra, hno, eq⟩ y
    obtain ⟨d, B3, hdx, gr, r3⟩ := hY i H2 v H3 B2 hi2 s2 E2.bh y
    have hdr : xs.drop i = d :: xs.drop (i + 1) := by
      rw [List.drop_eq_getElem_cons hi2]
      rw [List.getElem?_eq_getElem hi2] at hdx
      rw [Option.some.inj hdx]
    rw [hdr] at eq
    unfold compL at eq
    have hw : wipeE ρ2 vs = ρ2 := by
      apply List.ext_getElem?
      intro j
      rw [wipeE_get]
      by_cases h : j ∈ vs
      · rw [if_pos h]
        rcases hno j h with q | q <;> rw [q] <;> rfl
      · rw [if_neg h]
    rw [hw] at eq
    have E3 := gr.env E2
    have s3 := gr.same E2
    have own2 : OwnAt K T fr B3 H3 Dd (.lst acc) := by
      refine ⟨?_, fd, id, vacc, ?_, ra.mono s3⟩
      · cases gr with
        | refl => exact b2
        | new o hp => rw [upd_ne (ne_of_none hD hp)]; exact b2
      · cases gr with
        | refl => exact hD
        | new o hp => rw [upd_ne (ne_of_none hD hp)]; exact hD
    have hD3 : H3 Dd = some (.lst vacc) := by
      cases gr with
      | refl => exact hD
      | new o hp => rw [upd_ne (ne_of_none hD hp)]; exact hD
    have E3m := E3.mask own2 ap2 hD3
    cases e1 : g d ρ2 with
    | none => rw [e1] at eq; cases eq
    | some ρ3 =>
      rw [e1] at eq
      simp only at eq
      refine ⟨_, B3, ρ2, d, ρ3, E3m, r3, e1, fun σ3 E4 tch => ⟨wipe_touch hi tch, _, B3, ρ3, E4, ?_⟩⟩
      have hws := wipe_touch hi tch
      cases q : t ρ3 with
      | bad => rw [q] at eq; cases eq
      | exc c fs ρ4 => rw [q] at eq; cases eq
      | ok b ρ4 =>
        rw [q] at eq
        intro B4 H4 b' s4 E5 rb
        cases rb
        cases b with
        | false =>
          rw [if_neg (by decide)]
          obtain ⟨E6, hD4, b4, ap4⟩ := E5.unmask fd bd0
          have z1 := E6.wipeAll vs
          rw [hws] at z1
          have z2 := ap4.wipeAll (vs := vs)
          rw [hws] at z2
          exact ⟨B4, wipeE ρ4 vs, acc, vacc, (s2.trans s3).trans s4, z1, b4, z2, hD4, (ra.mono s3).mono s4, fun j hj => by rw [wipeE_get, if_pos hj]; cases ρ4[j]? <;> simp, eq⟩
        | true =>
          rw [if_pos rfl]
          refine ⟨_, B4, ρ4, E5, ?_⟩
          simp only at eq
          cases q2 : e ρ4 with
          | bad => rw [q2] at eq; cases eq
          | exc c fs ρ5 => rw [q2] at eq; cases eq
          | ok dd ρ5 =>
            rw [q2] at eq
            simp only at eq
            split at eq
            · rename_i hz
              intro B5 H5 w s5 E6 rw5
              obtain ⟨E7, hD5, b5, ap5⟩ := E6.unmask fd bd0
              have z1 := (E7.poke (o := .lst (vacc ++ [w])) b5 fd ap5).wipeAll vs
              rw [hws] at z1
              have z2 := ap5.wipeAll (vs := vs)
              rw [hws] at z2
              have ra5 := ((ra.mono s3).mono s4).mono s5
              exact ⟨vacc, hD5, by rw [← ra.length, ← sz_eq]; exact hz, B5, wipeE ρ5 vs, acc ++ [dd], vacc ++ [w], ((s2.trans s3).trans s4).trans s5, z1, b5, z2, upd_same, ra5.append (.cons rw5 .nil), fun j hj => by rw [wipeE_get, if_pos hj]; cases ρ5[j]? <;> simp, eq⟩
            · cases eq
  · rintro H2 ⟨B2, ρ2, acc, vacc, s2, E2, b2, ap2, hD, ra, hno, eq⟩
    rw [List.drop_of_length_le (Nat.le_refl _)] at eq
    unfold compL at eq
    cases eq
    exact fin B2 H2 s2 (EnvOk.back E1 s2 E2 hs) ⟨b2, fd, id, vacc, hD, ra⟩ (ap2.back hs)
theorem eComp_inv {it : SI} {vs : List Nat} {g : SG} {t : ST} {e : SE} {ρ : SEnv} {fr : Frm} {B : Hp} {σ : L2.St} {Q : VK} {D' : Ends} {R : Hp → Hp → SEnv → D → V → Prop} {xs : List D} {ρ1 : SEnv} (p : Post X.K T R fr W B σ Q (if shOnly ρ1 vs then (match compL vs g t e xs [] (wipeE ρ1 vs) with | .ok ds ρ2 => .ok (.lst ds) (backE ρ1 ρ2 vs) | _ => .bad) else .bad)) :
    shOnly ρ1 vs = true ∧ ∃ ds ρf, compL vs g t e xs [] (wipeE ρ1 vs) = .ok ds ρf ∧ Post X.K T R fr W B σ Q (.ok (.lst ds) (backE ρ1 ρf vs)) := by
  split at p
  · rename_i h
    cases q : compL vs g t e xs [] (wipeE ρ1 vs) with
    | bad => rw [q] at p; exact p.elim
    | exc c fs ρ2 => rw [q] at p; exact p.elim
    | ok ds ρf => rw [q] at p; exact ⟨h, ds, ρf, rfl, p⟩
  · exact p.elim
theorem ok_comp {elt tg iter : Expr} {ifs : List Expr} {scope : Scope} {own : List (Str × Nat)} {pos : Pos} {it : SI} {g : SG} {is : List Nat} {t : ST} {e : SE} (hN : X.N.Nodup) (hc : X.calm = true) (hi : OKI X T W tg iter it) (ok : BlkOk X.N X.env.scope scope own)
    (hg : ∀ (s : Shared) (H : Hp) (C : Addr) (cl : List (Str × Addr)) (fp : List Addr), OKG (X.blk s H scope (compEnvC scope cl C X.env) fp) T tg g is) (ht : ∀ (s : Shared) (H : Hp) (C : Addr) (cl : List (Str × Addr)) (fp : List Addr), OKPs (X.blk s H scope (compEnvC scope cl C X.env) fp) T W0 ifs t)
    (he : ∀ (s : Shared) (H : Hp) (C : Addr) (cl : List (Str × Addr)) (fp : List Addr), OKE (X.blk s H scope (compEnvC scope cl C X.env) fp) T W0 elt e) (his : ∀ i ∈ is, i ∈ own.map (·.2) := by decide) (hs : ∀ x, foldedSetIterable iter X.env x = pure x := by intro _; rfl) :
    OKO X T W (.ListComp elt [⟨tg, iter, ifs, 0⟩] scope pos) (eComp it (own.map (·.2)) g t e) :=
  pe_imp (pe_lc (g := rdG X.K T g is) (tt := rdB X.K T W0 t) (te := rdE X.K T W0 e) hc hN hi ok (fun s H C cl fp => (hg s H C cl fp).pg) ht he hs) fun σ H Q ⟨fr, B, ρ, E, p⟩ => ⟨fr, B, ρ, E, p.bind fun xs ρ1 B1 H1 J _ s1 E1 r1 p1 => by
    intro Dd hd
    obtain ⟨h0, ds, ρf, eq, p2⟩ := eComp_inv (it := it) (ρ := ρ) (D' := { nx := fun _ _ => True, rt := fun _ _ => True }) p1
    exact lc_read E1 r1 hd his eq h0 fun B2 H2 s2 E2 o2 ap2 => p2 B2 H2 _ s2 E2 ⟨Dd, rfl, o2, ap2⟩⟩
theorem okS_comp {m : Bool} {i : Nat} {y : Str} {py : Pos} {elt tg iter : Expr} {ifs : List Expr} {scope : Scope} {own : List (Str × Nat)} {pos spos : Pos} {it : SI} {g : SG} {is : List Nat} {t : ST} {e : SE} (hN : X.N.Nodup) (hc : X.calm = true) (hi : OKI X T W tg iter it) (ok : BlkOk X.N X.env.scope scope own)
    (hsw : swapsWith (.ListComp elt [⟨tg, iter, ifs, 0⟩] scope pos) (some (.Name y py)) spos.line X.env = pure true)
    (hg : ∀ (s : Shared) (H : Hp) (C : Addr) (cl : List (Str × Addr)) (fp : List Addr), OKG (X.blk s H scope (compEnvC scope cl C X.env) fp) T tg g is) (ht : ∀ (s : Shared) (H : Hp) (C : Addr) (cl : List (Str × Addr)) (fp : List Addr), OKPs (X.blk s H scope (compEnvC scope cl C X.env) fp) T W0 ifs t)
    (he : ∀ (s : Shared) (H : Hp) (C : Addr) (cl : List (Str × Addr)) (fp : List Addr), OKE (X.blk s H scope (compEnvC scope cl C X.env) fp) T W0 elt e) (his : ∀ i ∈ is, i ∈ own.map (·.2) := by decide) (hy : X.N[i]? = some y := by rfl) (hyl : X.env.scope.names.lookup y = some .local := by rfl) (hs : ∀ x, foldedSetIterable iter X.env x = pure x := by intro _; rfl) :
    OKS X T W (.Assign [.Name y py] (.ListComp elt [⟨tg, iter, ifs, 0⟩] scope pos) spos) (if m then sOwn i (eComp it (own.map (·.2)) g t e) else sAsg i (eComp it (own.map (·.2)) g t e)) :=
  ps_imp (ps_setLc (g := rdG X.K T g is) (tt := rdB X.K T W0 t) (te := rdE X.K T W0 e) hc hN hy hyl hsw hi ok (fun s H C cl fp => (hg s H C cl fp).pg) ht he hs) fun D' σ H ⟨fr, B, ρ, E, p⟩ => ⟨fr, B, ρ, E, by
    have p' : PostS X.K T fr W B D' ((it ρ).bind fun xs ρ1 => if shOnly ρ1 (own.map (·.2)) then (match compL (own.map (·.2)) g t e xs [] (wipeE ρ1 (own.map (·.2))) with | .ok ds ρ2 => .ok .nx ((backE ρ1 ρ2 (own.map (·.2))).set i (slotOf m (.lst ds))) | _ => .bad) else .bad) := by
      cases m
      · show PostS X.K T fr W B D' _
        have z : PostS X.K T fr W B D' (sAsg i (eComp it (own.map (·.2)) g t e) ρ) := p
        unfold sAsg eComp at z
        cases q : it ρ with
        | bad => rw [q] at z; exact z
        | exc c fs ρ1 => rw [q] at z; exact z
        | ok xs ρ1 =>
          rw [q] at z
          simp only [Out.bind_ok] at z ⊢
          split
          · rename_i h
            rw [if_pos h] at z
            cases q2 : compL (own.map (·.2)) g t e xs [] (wipeE ρ1 (own.map (·.2))) with
            | bad => rw [q2] at z; exact z
            | exc c fs ρ2 => rw [q2] at z; exact z
            | ok ds ρ2 => rw [q2] at z; exact z
          · rename_i h
            rw [if_neg h] at z; exact z
      · have z : PostS X.K T fr W B D' (sOwn i (eComp it (own.map (·.2)) g t e) ρ) := p
        unfold sOwn eComp at z
        cases q : it ρ with
        | bad => rw [q] at z; exact z
        | exc c fs ρ1 => rw [q] at z; exact z
        | ok xs ρ1 =>
          rw [q] at z
          simp only [Out.bind_ok] at z ⊢
          split
          · rename_i h
            rw [if_pos h] at z
            cases q2 : compL (own.map (·.2)) g t e xs [] (wipeE ρ1 (own.map (·.2))) with
            | bad => rw [q2] at z; exact z
            | exc c fs ρ2 => rw [q2] at z; exact z
            | ok ds ρ2 => rw [q2] at z; exact z
          · rename_i h
            rw [if_neg h] at z; exact z
    exact PostS.bind (R := RI X.K T) p' fun xs ρ1 B1 H1 J _ s1 E1 r1 p1 => by
      intro Dd hd
      split at p1
      · rename_i h0
        cases eq : compL (own.map (·.2)) g t e xs [] (wipeE ρ1 (own.map (·.2))) with
        | bad => rw [eq] at p1; exact p1.elim
        | exc c fs ρ2 => rw [eq] at p1; exact p1.elim
        | ok ds ρf =>
          rw [eq] at p1
          refine lc_read E1 r1 hd his eq h0 fun B2 H2 s2 E2 o2 ap2 => ?_
          cases m with
          | true => exact p1 B2 H2 _ s2 (E2.setOwn o2 ap2)
          | false =>
            obtain ⟨o, ho, E3, s3, r3⟩ := E2.share o2 ap2
            exact p1 _ H2 _ (s2.trans s3) (E3.setSh r3)
      · exact p1.elim⟩
end
end VL
end

section
set_option maxRecDepth 100000
set_option maxHeartbeats 1000000
namespace VL
open PySem L2 PyProof.Rows
section
variable {K : PySem.W.Frag} {T : TabC}
theorem startE_get {n : Nat} {ds : List D} {i : Nat} {s : Slot} (h : (startE n false ds)[i]? = some s) : (∃ d, ds[i]? = some d ∧ s = .sh d) ∨ s = .no := by
  have h' : (ds.map Slot.sh ++ List.replicate (n - ds.length) Slot.no)[i]? = some s := by
    cases ds <;> exact h
  rw [List.getElem?_append] at h'
  split at h'
  · rw [List.getElem?_map] at h'
    cases q : ds[i]? with
    | none => rw [q] at h'; cases h'
    | some d => rw [q] at h'; cases h'; exact .inl ⟨d, rfl, rfl⟩
  · rw [List.getElem?_replicate] at h'
    split at h'
    · cases h'; exact .inr rfl
    · cases h'
theorem start_get {N : List Str} {vs : List V} {i : Nat} {v : V} (h : vs[i]? = some v) : (L2.start N vs)[i]? = some (some v) := by
  unfold L2.start
  have hl := (List.getElem?_eq_some_iff.mp h).1
  rw [List.getElem?_append_left (by simpa using hl), List.getElem?_map, h]
  rfl
theorem EnvOk.start {B H : Hp} {ds : List D} {vs : List V} {N : List Str} (s : Same B H) (r : RepL K T B ds vs) : EnvOk K T ⟨B, H, fun _ => none⟩ B H (startE N.length false ds) (L2.start N vs) := by
  have hl := r.length
  refine ⟨s, Same.refl _, Same.refl _, fun k a e => (by cases e), fun a h => .inl h, ?_, fun i t q => ?_, fun i j t u a ij q1 q2 a1 a2 => ?_⟩
  · unfold startE L2.start
    cases ds <;> simp_all <;> omega
  · rcases startE_get q with ⟨d, h1, rfl⟩ | rfl
    · obtain ⟨v, h2, h3⟩ := r.get h1
      exact ⟨v, start_get h2, h3⟩
    · trivial
  · rcases startE_get q1 with ⟨d, _, rfl⟩ | rfl <;> cases a1
theorem startIo_get {n : Nat} {d0 : D} {ds : List D} {i : Nat} {s : Slot} (h : (startE n true (d0 :: ds))[i]? = some s) : (i = 0 ∧ s = .io d0) ∨ (∃ j d, i = j + 1 ∧ ds[j]? = some d ∧ s = .sh d) ∨ s = .no := by
  have h' : (Slot.io d0 :: (ds.map Slot.sh ++ List.replicate (n - (d0 :: ds).length) Slot.no))[i]? = some s := h
  cases i with
  | zero => cases h'; exact .inl ⟨rfl, rfl⟩
  | succ j =>
    rw [List.getElem?_cons_succ, List.getElem?_append] at h'
    split at h'
    · rw [List.getElem?_map] at h'
      cases q : ds[j]? with
      | none => rw [q] at h'; cases h'
      | some d => rw [q] at h'; cases h'; exact .inr (.inl ⟨j, d, rfl, q, rfl⟩)
    · rw [List.getElem?_replicate] at h'
      split at h'
      · cases h'; exact .inr (.inr rfl)
      · cases h'
def ia0 (a : Addr) : Nat → Option Addr := fun k => if k = 0 then some a else none
theorem ia0_some {a b : Addr} {k : Nat} (h : ia0 a k = some b) : b = a := by
  unfold ia0 at h
  split at h
  · cases h; rfl
  · cases h
theorem EnvOk.startIo {B H : Hp} {a : Addr} {d0 : D} {ds : List D} {vs : List V} {N : List Str} (s : Same B H) (hb : B a = none) (o : ObjAt K T B H a d0) (r : RepL K T B ds vs) :
    EnvOk K T ⟨B, fun b => if b = a then none else H b, ia0 a⟩ B H (startE N.length true (d0 :: ds)) (L2.start N (.ref a :: vs)) := by
  have hl := r.length
  obtain ⟨u, hu⟩ := o.there
  refine ⟨s, Same.refl _, fun b w e => ?_, fun k c e => ?_, fun c h => .inl h, ?_, fun i t q => ?_, fun i j t u' c ij q1 q2 a1 a2 => ?_⟩
  · by_cases h : b = a
    · subst h
      have e' : (if b = b then none else H b) = some w := e
      rw [if_pos rfl] at e'; cases e'
    · have e' : (if b = a then none else H b) = some w := e
      rw [if_neg h] at e'; exact e'
  · rw [ia0_some e, hu]; intro z; cases z
  · unfold startE L2.start
    simp_all
  · rcases startIo_get q with ⟨rfl, rfl⟩ | ⟨j, d, rfl, h1, rfl⟩ | rfl
    · exact ⟨a, start_get rfl, rfl, hb, by show (if a = a then none else H a) = none; rw [if_pos rfl], o⟩
    · obtain ⟨v, h2, h3⟩ := r.get h1
      exact ⟨v, start_get (by simpa using h2), h3⟩
    · trivial
  · rcases startIo_get q1 with ⟨rfl, rfl⟩ | ⟨j1, d, rfl, h1, rfl⟩ | rfl
    · rcases startIo_get q2 with ⟨rfl, rfl⟩ | ⟨j2, d, rfl, h1, rfl⟩ | rfl
      · exact absurd rfl ij
      · cases a2
      · cases a2
    · cases a1
    · cases a1
theorem EnvOk.afterV {B H B' H' : Hp} {ρ : SEnv} {σ : L2.St} (E : EnvOk K T ⟨B, H, fun _ => none⟩ B' H' ρ σ) : After B H none B' H' :=
  ⟨E.b0, E.bh, fun c o e _ => E.fh c o e, fun c h => by
    rcases E.bf c h with h | ⟨h, _⟩
    · exact .inl h
    · exact .inr h, fun c z => by cases z⟩
theorem EnvOk.afterIo {B H B' H' : Hp} {a : Addr} {ρ : SEnv} {σ : L2.St} (E : EnvOk K T ⟨B, fun b => if b = a then none else H b, ia0 a⟩ B' H' ρ σ) : After B H (some a) B' H' :=
  ⟨E.b0, E.bh, fun c o e z => E.fh c o (by
      show (if c = a then none else H c) = some o
      rw [if_neg (fun w => z (by rw [w]))]; exact e), fun c h => by
    rcases E.bf c h with h | ⟨h1, h2⟩
    · exact .inl h
    · have h1' : (if c = a then none else H c) = none := h1
      by_cases w : c = a
      · subst w
        exact absurd (show ia0 c 0 = some c from rfl) (h2 0)
      · rw [if_neg w] at h1'; exact .inr h1', fun c z => by
    cases z
    exact E.ih 0 a rfl⟩
end
theorem post_end {K : PySem.W.Frag} {T : TabC} {fr : Frm} {W : WX} {B H : Hp} {ia : Option Addr} {io fresh : Bool} {Q : VK} {E : XK} {o : Out Fl} {r : Ret}
    (hW : ∀ c d σ H, E c d H → W c d σ H) (af : ∀ {B' H' ρ σ}, EnvOk K T fr B' H' ρ σ → After B H ia B' H') (fh : ∀ {p}, fr.F p = none → (∀ k, fr.ia k ≠ some p) → H p = none)
    (hio : ∀ {B' H' ρ σ}, EnvOk K T fr B' H' ρ σ → ∀ x, ioOf io ρ = some x → ∀ a d1, ia = some a → x = some d1 → ObjAt K T B' H' a d1) (e : endOf io fresh o = some r) (p : retPost K T fresh ia B H Q E r) :
    PostS K T fr W B { nx := fun _ H' => Q .non H', rt := Q } o := by
  cases o with
  | bad => cases e
  | exc c fs ρ =>
    cases e
    exact fun B' H' σ' cv od s E' x => hW _ _ _ _ (p B' H' cv od (af E') x)
  | ok f ρ =>
    cases f with
    | bk => cases e
    | ct => cases e
    | nx =>
      unfold endOf at e
      cases fresh with
      | true => cases e
      | false =>
        simp only [Bool.false_eq_true, if_false] at e
        cases q : ioOf io ρ with
        | none => rw [q] at e; cases e
        | some x =>
          rw [q] at e; cases e
          exact fun B' H' σ' s E' => p B' H' .non (af E') (fun a d1 h1 h2 => hio E' x q a d1 h1 h2) .non
    | rt d =>
      unfold endOf at e
      cases fresh with
      | true => cases e
      | false =>
        simp only [Bool.false_eq_true, if_false] at e
        cases q : ioOf io ρ with
        | none => rw [q] at e; cases e
        | some x =>
          rw [q] at e; cases e
          exact fun B' H' σ' s E' v r => p B' H' v (af E') (fun a d1 h1 h2 => hio E' x q a d1 h1 h2) r
    | ro d =>
      have e : (ioOf io ρ).map (fun o => Ret.val d o) = some r := e
      cases q : ioOf io ρ with
      | none => rw [q] at e; cases e
      | some x =>
        rw [q] at e; cases e
        intro B' H' σ' s E' a ow ap
        cases fresh with
        | true =>
          refine p B' H' _ (af E') (fun a d1 h1 h2 => hio E' x q a d1 h1 h2) ?_
          show ∃ p, V.ref a = .ref p ∧ H p = none ∧ B' p = none ∧ ObjAt K T B' H' p d
          exact ⟨a, rfl, fh ow.f ow.i, ow.b, ow.o⟩
        | false =>
          obtain ⟨u, hu, E2, s2, r2⟩ := E'.share ow ap
          exact p _ H' _ (af E2) (fun a d1 h1 h2 => hio E2 x q a d1 h1 h2) r2
section
variable {P : Program} {w : World} {K : PySem.W.Frag} {mg : Str → Option Value} {base : Heap} {T : TabC}
abbrev defCx (P : Program) (w : World) (K : PySem.W.Frag) (mg : Str → Option Value) (base : Heap) (N : List Str) (qual : Str) (st : Stmt) (f : Addr) (cdv : Value) (A : Around) (outer : List Env) (s : Shared) (H : Hp) (E : XK) : Cx := cxOf (L2.CX P w) P w K mg base N qual (defScope st) f cdv A outer s H E
abbrev defW (E : XK) : WX := fun cls d _ H => E cls d H
theorem fn_val {x qual : Str} {st : Stmt} {f : Addr} {fd : FuncData} {N ps : List Str} {k : Nat} {fresh : Bool} {b : SS} (F : Fun K x qual st f fd) (S : FnScope N ps (defScope st))
    (hb : ∀ (cdv : Value) (A : Around) (outer : List Env) (s : Shared) (H : Hp) (E : XK), Room k (A.deeper (envOfC qual (defScope st) s.heap.objs.size f cdv)) → OKSs (defCx P w K mg base N qual st f cdv A outer s H E) T (defW E) (defBody st) b) :
    FnOk P w K mg base (L2.CX P w) (k + 1) f fd ps (spV K T fresh (fnOf N.length ps.length false fresh b)) := by
  refine F.okX S (fun vs H Q E h => ?_) (fun cdv A outer s H vs Q E hr h => ⟨_, hb cdv A outer s H E hr, ?_⟩)
  · obtain ⟨B, ds, r, s1, rl, e, _⟩ := h
    unfold fnOf at e
    split at e
    · rename_i hl; rw [← rl.length]; exact hl
    · cases e
  · obtain ⟨B, ds, r, s1, rl, e, p⟩ := h
    unfold fnOf at e
    split at e
    · refine ⟨⟨B, H, fun _ => none⟩, B, _, EnvOk.start s1 rl, post_end (ia := none) (fun c d σ H z => z) (fun E' => E'.afterV) (fun h _ => h) (fun _ x _ a d1 z => by cases z) e p⟩
    · cases e
theorem fn_io {x qual : Str} {st : Stmt} {f : Addr} {fd : FuncData} {N ps : List Str} {k : Nat} {fresh : Bool} {b : SS} (F : Fun K x qual st f fd) (S : FnScope N ps (defScope st))
    (hb : ∀ (cdv : Value) (A : Around) (outer : List Env) (s : Shared) (H : Hp) (E : XK), Room k (A.deeper (envOfC qual (defScope st) s.heap.objs.size f cdv)) → OKSs (defCx P w K mg base N qual st f cdv A outer s H E) T (defW E) (defBody st) b) :
    FnOk P w K mg base (L2.CX P w) (k + 1) f fd ps (spIo K T fresh (fnOf N.length ps.length true fresh b)) := by
  refine F.okX S (fun vs H Q E h => ?_) (fun cdv A outer s H vs Q E hr h => ⟨_, hb cdv A outer s H E hr, ?_⟩)
  · obtain ⟨B, a, d0, ds, us, r, s1, rfl, hb, o, rl, e, _⟩ := h
    unfold fnOf at e
    split at e
    · rename_i hl; rw [← hl, List.length_cons, List.length_cons, rl.length]
    · cases e
  · obtain ⟨B, a, d0, ds, us, r, s1, rfl, hb, o, rl, e, p⟩ := h
    unfold fnOf at e
    split at e
    · refine ⟨_, B, _, EnvOk.startIo s1 hb o rl, post_end (ia := some a) (fun c d σ H z => z) (fun E' => E'.afterIo) (fun {c} h hi => ?_) (fun {B' H' ρ σ} E' x q a' d1 z1 z2 => ?_) e p⟩
      · have h' : (if c = a then none else H c) = none := h
        by_cases z : c = a
        · subst z; exact absurd (show ia0 c 0 = some c from rfl) (hi 0)
        · rw [if_neg z] at h'; exact h'
      · cases z1
        subst z2
        unfold ioOf at q
        simp only [if_true] at q
        unfold ioSlot at q
        split at q
        · rename_i d qs
          cases q
          obtain ⟨c, h1, h2, _, _, h3⟩ := E'.slot 0 _ qs
          have z : c = a := ia0_some (k := 0) h2
          rw [z] at h3
          exact h3
        · cases q
    · cases e
end
end VL
end

section
set_option maxRecDepth 100000
set_option maxHeartbeats 1000000
namespace VL
open PySem L2 PyProof.Rows
section
variable {prog : Program} {w : World} {A : Around} {E : Value → Shared → Prop} {s : Shared} {l : Addr} {its : List Value} {ns : List Int} {Q : Value → Shared → Prop}
end
section
variable {X : Cx}
def rSumT (K : PySem.W.Frag) : List V → Hp → VK → Prop := fun vs H Q => ∃ (a : Addr) (ns : List Int), vs = [V.ref a] ∧ SqT K H a (ns.map V.int) ∧ Q (.int ns.sum) H
end
end VL
end

section
set_option maxRecDepth 100000
set_option maxHeartbeats 1000000
namespace VL
open PySem L2 PyProof.Rows
section
variable {X : Cx} {T : TabC} {W : WX}
def rC1 (K : PySem.W.Frag) (T : TabC) (op : D → Option D) : List V → Hp → VK → Prop := fun vs H Q => ∃ x, vs = [x] ∧ rUnT K T op x H Q
def rC1O (K : PySem.W.Frag) (T : TabC) (op : D → Option D) : List V → Hp → VK → Prop := fun vs H Q => ∃ B d x xs, vs = [x] ∧ Same B H ∧ Tp K T B H d x ∧ op d = some (.lst xs) ∧ ∀ us, RepL K T B xs us → ∀ p, H p = none → Q (.ref p) (upd H p (.lst us))
theorem CallR.wk {f : Value} {r r' : List V → Hp → VK → Prop} (h : CallR X f r) (k : ∀ xs H Q, r' xs H Q → r xs H Q) : CallR X f r' := fun pins s σ H xs us Q I r0 q => h pins s σ H xs us Q I r0 (k _ _ _ q)
theorem pa1T {e : Expr} {f : SE} (ha : OKT X T W e f) (hs : starEach [e] X.env = (false, eval e X.env) :: starEach [] X.env) : PA X [e] (tCons (rdT X.K T W f) tNil) := pa_cons ha pa_nil hs
section
variable {x : Str} {id T0 : String} {e : Expr} {f : SE} {op : D → Option D} {p pos : Pos}
theorem ok_b1 (hc : CallR X (.builtin id) (rC1 X.K T op)) (hm : X.mg x = none) (ha : OKT X T W e f) (hv : bootBuiltins x = some (.builtin id)) (hg : Gl X x := by rfl) (hn : x ≠ "__name__" := by decide) (hdb : (x == ("__debug__" : Str)) = false := by decide)
    (he : starEach [e] X.env = (false, eval e X.env) :: starEach [] X.env := by rfl) (hpl : (backTo pos (starEach [] X.env)).any (·.1) = false := by rfl) : OKE X T W (.Call (.Name x p) [e] [] pos) (eUn op f) :=
  pe_imp (pe_callB hc hg hm hv (pa1T ha he) hn hdb he hpl) fun σ H Q ⟨fr, B, ρ, E, p⟩ => ⟨fr, B, ρ, E, p.bind fun d ρ1 B1 H1 v _ s1 E1 r1 p1 => by
    obtain ⟨d3, e3, p3⟩ := p1.opt
    exact ⟨v, rfl, B1, d, d3, E1.bh, RT.tp E1 r1, e3, fun B' H' w g r3 => p3 _ _ _ (g.same E1) (g.env E1) r3⟩⟩
theorem ok_t1 (hc : CallR X (.type T0) (rC1 X.K T op)) (hm : X.mg x = none) (ha : OKT X T W e f) (hv : bootBuiltins x = some (.type T0)) (hg : Gl X x := by rfl) (hn : x ≠ "__name__" := by decide) (hdb : (x == ("__debug__" : Str)) = false := by decide)
    (he : starEach [e] X.env = (false, eval e X.env) :: starEach [] X.env := by rfl) (hpl : (backTo pos (starEach [] X.env)).any (·.1) = false := by rfl) : OKE X T W (.Call (.Name x p) [e] [] pos) (eUn op f) :=
  pe_imp (pe_callTy hc hg hm hv (pa1T ha he) hn hdb he hpl) fun σ H Q ⟨fr, B, ρ, E, p⟩ => ⟨fr, B, ρ, E, p.bind fun d ρ1 B1 H1 v _ s1 E1 r1 p1 => by
    obtain ⟨d3, e3, p3⟩ := p1.opt
    exact ⟨v, rfl, B1, d, d3, E1.bh, RT.tp E1 r1, e3, fun B' H' w g r3 => p3 _ _ _ (g.same E1) (g.env E1) r3⟩⟩
end
theorem Tp.flat {K : PySem.W.Frag} {B H : Hp} {d : D} {v : V} (h : Tp K T B H d v) : (∀ i, d = .int i → v = .int i) ∧ (∀ b, d = .bl b → v = .bl b) ∧ (∀ s, d = .str s → v = .str s) := by
  rcases h with h | ⟨a, rfl, h⟩
  · cases h <;> simp
  · cases d <;> first | exact h.elim | simp
theorem call_lenDR : CallR X (.builtin "len") (fun xs H Q => ∃ a kvs, xs = [V.ref a] ∧ Rd H a (.dK kvs) ∧ Q (.int kvs.length) H) := by
  intro pins s σ H xs us Q I r h
  obtain ⟨a, kvs, rfl, ha, q⟩ := h
  obtain ⟨u, rfl, ru⟩ := vals1 r
  obtain rfl : u = Value.ref a := ru
  exact d_len I ha fun t s' I' => ⟨.int kvs.length, H, I', ⟨t, rfl⟩, q⟩
theorem c_len : CallR X (.builtin "len") (rC1 X.K T oLen) := CallR.wk (call_len_seq.or (call_len_str.or call_lenDR)) fun xs H Q ⟨x, e, B, d, d', s, tp, eo, q⟩ => by
  subst e
  cases d with
  | lst ys => cases eo; obtain ⟨a, vs, rfl, h1, h2⟩ := tp.listL s; exact .inl ⟨a, vs, rfl, .inl h1, by have z := q B H _ .refl (.int _); rw [h2.length] at z; exact z⟩
  | scr ns => cases eo; obtain ⟨a, vs, rfl, h1, h2⟩ := tp.scrL s; exact .inl ⟨a, vs, rfl, .inl h1, by have z := q B H _ .refl (.int _); have e := h2.length; rw [List.length_map] at e; rw [e] at z; exact z⟩
  | tup ys => cases eo; obtain ⟨a, vs, rfl, h1, h2⟩ := tp.tupT s; exact .inl ⟨a, vs, rfl, .inr (sameT s h1), by have z := q B H _ .refl (.int _); rw [h2.length] at z; exact z⟩
  | str z =>
    have e := tp.flat.2.2 z rfl
    subst e
    unfold oLen at eo
    simp only at eo
    split at eo <;> cases eo
    rename_i hz
    exact .inr (.inl ⟨z, rfl, by rw [← sz_eq]; exact hz, q B H _ .refl (.int _)⟩)
  | dic kvs =>
    cases eo
    rcases tp with tp | ⟨a, rfl, vkv, h1, h2⟩
    · cases tp with
      | dic h1 h2 =>
        have len : ∀ {ks : List (D × D)} {vs : List (Key × V)}, RepK X.K T B ks vs → ks.length = vs.length := by
          intro ks vs r
          induction ks generalizing vs with
          | nil => cases r; rfl
          | cons k ks ih => cases r with
            | int _ r => simp [ih r]
            | str _ r => simp [ih r]
        exact .inr (.inr ⟨_, _, rfl, rdSame s h1, by have z := q B H _ .refl (.int _); rw [len h2] at z; exact z⟩)
    · have len : ∀ {ks : List (D × D)} {vs : List (Key × V)}, RepK X.K T B ks vs → ks.length = vs.length := by
        intro ks vs r
        induction ks generalizing vs with
        | nil => cases r; rfl
        | cons k ks ih => cases r with
          | int _ r => simp [ih r]
          | str _ r => simp [ih r]
      exact .inr (.inr ⟨_, _, rfl, .inl h1, by have z := q B H _ .refl (.int _); rw [len h2] at z; exact z⟩)
  | _ => cases eo
theorem c_abs : CallR X (.builtin "abs") (rC1 X.K T oAbs) := CallR.wk call_abs fun xs H Q ⟨x, e, B, d, d', s, tp, eo, q⟩ => by
  subst e
  cases d with
  | int i => cases eo; rw [tp.flat.1 i rfl]; exact ⟨i, rfl, q B H _ .refl (.int _)⟩
  | _ => cases eo
theorem c_int : CallR X (.type "int") (rC1 X.K T oInt) := CallR.wk call_int1 fun xs H Q ⟨x, e, B, d, d', s, tp, eo, q⟩ => by
  subst e
  cases d with
  | int i => cases eo; rw [tp.flat.1 i rfl]; exact .inl ⟨i, rfl, q B H _ .refl (.int _)⟩
  | bl i => cases eo; rw [tp.flat.2.1 i rfl]; exact .inr ⟨i, rfl, q B H _ .refl (.int _)⟩
  | _ => cases eo
theorem bols_rep {K : PySem.W.Frag} {B : Hp} : ∀ {xs : List D} {ns : List Bool} {vs : List V}, bolsOf xs = some ns → RepL K T B xs vs → vs = ns.map V.bl
  | [], ns, vs, e, r => by cases e; cases r; rfl
  | .bl i :: xs, ns, vs, e, r => by
    cases r with
    | cons r1 r2 =>
      cases r1
      have e' : (bolsOf xs).map (i :: ·) = some ns := e
      cases q : bolsOf xs with
      | none => rw [q] at e'; cases e'
      | some ms => rw [q] at e'; cases e'; rw [bols_rep q r2]; rfl
  | .non :: _, _, _, e, _ => by cases e
  | .int _ :: _, _, _, e, _ => by cases e
  | .str _ :: _, _, _, e, _ => by cases e
  | .tup _ :: _, _, _, e, _ => by cases e
  | .lst _ :: _, _, _, e, _ => by cases e
  | .scr _ :: _, _, _, e, _ => by cases e
  | .ins _ _ :: _, _, _, e, _ => by cases e
  | .dic _ :: _, _, _, e, _ => by cases e
  | .sti _ :: _, _, _, e, _ => by cases e
  | .dct _ :: _, _, _, e, _ => by cases e
theorem map_some {α β : Type} {o : Option α} {f : α → β} {b : β} (h : o.map f = some b) : ∃ a, o = some a ∧ f a = b := by
  cases o with
  | none => cases h
  | some a => exact ⟨a, rfl, Option.some.inj h⟩
theorem c_all (hc : X.calm = true) : CallR X (.builtin "all") (rC1 X.K T oAll) := CallR.wk (cr_all hc) fun xs H Q ⟨x, e, B, d, d', s, tp, eo, q⟩ => by
  subst e
  cases d with
  | lst ys =>
    obtain ⟨ns, e1, rfl⟩ := map_some eo
    obtain ⟨a, vs, rfl, h1, h2⟩ := tp.listL s
    rw [bols_rep e1 h2] at h1
    exact ⟨a, ns, rfl, h1, q B H _ .refl (.bl _)⟩
  | _ => cases eo
theorem c_tuple : CallR X (.type "tuple") (rC1 X.K T oTuple) := CallR.wk call_tuple_of fun xs H Q ⟨x, e, B, d, d', s, tp, eo, q⟩ => by
  subst e
  cases d with
  | lst ys =>
    cases eo
    obtain ⟨a, vs, rfl, h1, h2⟩ := tp.listL s
    exact ⟨a, vs, rfl, .inl ⟨h1, fun l hl => q _ _ _ (.new _ hl) (.tup (SqT.of upd_same) (h2.mono (upd_free (s.free hl))))⟩⟩
  | tup ys =>
    cases eo
    obtain ⟨a, vs, rfl, h1, h2⟩ := tp.tupT s
    exact ⟨a, vs, rfl, .inr ⟨sameT s h1, q B H _ .refl (.tup h1 h2)⟩⟩
  | _ => cases eo
theorem Tp.tyx {K : PySem.W.Frag} {B H : Hp} {d : D} {v : V} {t : String} (s : Same B H) (h : Tp K T B H d v) (e : tyName d = some t) : TyX K H v (.type t) := by
  have tT : ∀ {a : Addr} {vs : List V}, SqT K H a vs → TyX K H (.ref a) (.type "tuple") := fun {a vs} q => by
    rcases q with (q | ⟨o, q⟩) | ⟨o, its, n, q, c, _⟩
    · exact .base (.tup q)
    · exact .fTuple q
    · exact .kTuple q c
  have tL : ∀ {a : Addr} {vs : List V}, SqL K H a vs → TyX K H (.ref a) (.type "list") := fun {a vs} q => by
    rcases q with (q | ⟨o, q⟩) | ⟨o, its, n, q, c, _⟩
    · exact .base (.lst q)
    · exact .base (.frz q)
    · exact .kList q c
  cases d with
  | non => cases e; have z := h.isNon; have : v = .non := of_decide_eq_true z; subst this; exact .base .non
  | bl b => cases e; rw [h.flat.2.1 b rfl]; exact .base (.bl b)
  | int i => cases e; rw [h.flat.1 i rfl]; exact .base (.int i)
  | str x => cases e; rw [h.flat.2.2 x rfl]; exact .base (.str x)
  | tup xs => cases e; obtain ⟨a, vs, rfl, h1, _⟩ := h.tupT s; exact tT (sameT s h1)
  | lst xs => cases e; obtain ⟨a, vs, rfl, h1, _⟩ := h.listL s; exact tL h1
  | scr xs => cases e; obtain ⟨a, vs, rfl, h1, _⟩ := h.scrL s; exact tL h1
  | dic kvs =>
    cases e
    rcases h with h | ⟨a, rfl, vkv, h1, _⟩
    · cases h with
      | dic h1 _ =>
        rcases rdSame s h1 with h1 | ⟨o, h1⟩
        · exact .base (.dK h1)
        · exact .fDict h1
    · exact .base (.dK h1)
  | ins c fs => cases e
  | sti xs => cases e
  | dct xs => cases e
structure ClsI (K : PySem.W.Frag) (C : Addr) : Prop where
  cl : Cls K C
  ha : PySem.W.findIn K (.ref C) "__class__" = some (some (.builtin "object.__class__"))
  hn : PySem.W.specialIn K (.builtin "object.__class__") "__get__" = some (some (.builtin "getset_descriptor.__get__"))
  htk : PySem.W.takesIn K (.builtin "object.__class__") = some true
  hm : PySem.W.mroIn K C (.type "object") = some true
theorem pe_tyN {x : Str} {n : String} {pos : Pos} (hm : X.mg x = none) (hv : bootBuiltins x = some (.type n)) (hg : Gl X x) (hn : x ≠ "__name__") (hd : (x == ("__debug__" : Str)) = false) : PE X (.Name x pos) (tC (.ty n)) := pe_bltn (v := .ty n) hg hm hv rfl hn hd
theorem kit_name {d : D} {t n : String} {K : PySem.W.Frag} (e : tyName d = some t) (hn : n = "int" ∨ n = "bool" ∨ n = "str" ∨ n = "tuple" ∨ n = "list" ∨ n = "dict") : PySem.W.kitOne K (.type t) (.type n) = some (t == n || (t == "bool" && n == "int")) := by
  have ht : t = "NoneType" ∨ t = "bool" ∨ t = "int" ∨ t = "str" ∨ t = "tuple" ∨ t = "list" ∨ t = "dict" := by
    cases d <;> cases e <;> simp
  rcases ht with rfl | rfl | rfl | rfl | rfl | rfl | rfl <;> rcases hn with rfl | rfl | rfl | rfl | rfl | rfl <;> exact kit_ty (by decide +kernel)
theorem ok_isTy {n : Str} {t : String} {e : Expr} {f : SE} {p p2 pos : Pos} (ht : t = "int" ∨ t = "bool" ∨ t = "str" ∨ t = "tuple" ∨ t = "list" ∨ t = "dict") (hm : X.mg "isinstance" = none) (hm2 : X.mg n = none) (ha : OKT X T W e f) (hv : bootBuiltins n = some (.type t)) (hv0 : bootBuiltins "isinstance" = some (.builtin "isinstance"))
    (hg : Gl X "isinstance" := by rfl) (hg2 : Gl X n := by rfl) (hn : n ≠ "__name__" := by decide) (hd : (n == ("__debug__" : Str)) = false := by decide)
    (h1 : starEach [e, .Name n p2] X.env = (false, eval e X.env) :: starEach [.Name n p2] X.env := by rfl) (hpl : (backTo pos (starEach [.Name n p2] X.env)).any (·.1) = false := by rfl) : OKE X T W (.Call (.Name "isinstance" p) [e, .Name n p2] [] pos) (eUn (isTy [t]) f) :=
  pe_imp (pe_callB call_isi hg hm hv0 (pa_cons ha (pa_cons (pe_tyN hm2 hv hg2 hn hd) pa_nil) h1) (by decide) (by decide) h1 hpl) fun σ H Q ⟨fr, B, ρ, E, p⟩ => ⟨fr, B, ρ, E, p.bind fun d ρ1 B1 H1 v _ s1 E1 r1 p1 => by
    obtain ⟨d3, e3, p3⟩ := p1.opt
    obtain ⟨t0, e4, rfl⟩ := map_some e3
    exact ⟨v, .ty t, .type t0, .type t, _, rfl, .ty t, (RT.tp E1 r1).tyx E1.bh e4, kit_name e4 ht, p3.done E1 (by show Rep _ _ _ _ _; simpa using Rep.bl _)⟩⟩
theorem ok_isTy2 {n m : Str} {t u : String} {e : Expr} {f : SE} {p p2 p3 pt pos : Pos} {k : Nat} (ht : t = "int" ∨ t = "bool" ∨ t = "str" ∨ t = "tuple" ∨ t = "list" ∨ t = "dict") (hu : u = "int" ∨ u = "bool" ∨ u = "str" ∨ u = "tuple" ∨ u = "list" ∨ u = "dict") (hm : X.mg "isinstance" = none) (hm2 : X.mg n = none) (hm3 : X.mg m = none) (ha : OKE X T W e f) (hv : bootBuiltins n = some (.type t)) (hv3 : bootBuiltins m = some (.type u)) (hv0 : bootBuiltins "isinstance" = some (.builtin "isinstance"))
    (hg : Gl X "isinstance" := by rfl) (hg2 : Gl X n := by rfl) (hg3 : Gl X m := by rfl) (hn : n ≠ "__name__" := by decide) (hd : (n == ("__debug__" : Str)) = false := by decide) (hn3 : m ≠ "__name__" := by decide) (hd3 : (m == ("__debug__" : Str)) = false := by decide)
    (h1 : starEach [e, .Tuple [.Name n p2, .Name m p3] k pt] X.env = (false, eval e X.env) :: starEach [.Tuple [.Name n p2, .Name m p3] k pt] X.env := by rfl) (hpl : (backTo pos (starEach [.Tuple [.Name n p2, .Name m p3] k pt] X.env)).any (·.1) = false := by rfl) : OKE X T W (.Call (.Name "isinstance" p) [e, .Tuple [.Name n p2, .Name m p3] k pt] [] pos) (eUn (isTy [t, u]) f) :=
  pe_imp (pe_callB call_isiT hg hm hv0 (pa_cons ha (pa_cons (pe_tup (pa_cons (pe_tyN hm2 hv hg2 hn hd) (pa_cons (pe_tyN hm3 hv3 hg3 hn3 hd3) pa_nil))) pa_nil) h1) (by decide) (by decide) h1 hpl) fun σ H Q ⟨fr, B, ρ, E, p⟩ => ⟨fr, B, ρ, E, p.bind fun d ρ1 B1 H1 v _ s1 E1 r1 p1 => by
    obtain ⟨d3, e3, p3⟩ := p1.opt
    obtain ⟨t0, e4, rfl⟩ := map_some e3
    refine ⟨by show 2 ≤ sizeLine; decide, fun q hq => ?_⟩
    have g : Grow B1 H1 (upd B1 q (.tup [.ty t, .ty u])) (upd H1 q (.tup [.ty t, .ty u])) := .new _ hq
    refine ⟨v, q, [.ty t, .ty u], .type t0, [.type t, .type u], _, rfl, upd_same, .cons (.ty t) (.cons (.ty u) .nil), Tp.tyx (T := T) (B := upd B1 q (.tup [.ty t, .ty u])) (g.env E1).bh (.inl (Rep.mono (g.same E1) r1)) e4, ?_, p3 _ _ _ (g.same E1) (g.env E1) (.bl _)⟩
    refine kitAny_cons (kit_name e4 ht) (fun hb => kitAny_cons (kit_name e4 hu) (fun hb2 => ?_) (fun hb2 => ?_)) (fun hb => ?_)
    · rw [kitAny_nil]
      simp only [List.any_cons, List.any_nil, hb, hb2, Bool.or_false]
    · simp only [List.any_cons, List.any_nil, hb2, Bool.true_or, Bool.or_true, Bool.or_false]
    · simp only [List.any_cons, hb, Bool.true_or]⟩
theorem ok_isCl {x : Str} {C : Addr} {e : Expr} {f : SE} {ans : Nat → Option Bool} {p p2 pos : Pos} (hm : X.mg "isinstance" = none) (hm2 : X.mg x = some (.ref C)) (ha : OKT X T W e f) (hk : ∀ c b, ans c = some b → ClsI X.K (T c) ∧ PySem.W.kitOne X.K (.ref (T c)) (.ref C) = some b) (hv0 : bootBuiltins "isinstance" = some (.builtin "isinstance"))
    (hg : Gl X "isinstance" := by rfl) (hg2 : Gl X x := by rfl) (hd : (x == ("__debug__" : Str)) = false := by decide)
    (h1 : starEach [e, .Name x p2] X.env = (false, eval e X.env) :: starEach [.Name x p2] X.env := by rfl) (hpl : (backTo pos (starEach [.Name x p2] X.env)).any (·.1) = false := by rfl) : OKE X T W (.Call (.Name "isinstance" p) [e, .Name x p2] [] pos) (eUn (isCl ans) f) :=
  pe_imp (pe_callB call_isi hg hm hv0 (pa_cons ha (pa_cons (pe_glob (v := .ref C) hg2 hm2 rfl hd) pa_nil) h1) (by decide) (by decide) h1 hpl) fun σ H Q ⟨fr, B, ρ, E, p⟩ => ⟨fr, B, ρ, E, p.bind fun d ρ1 B1 H1 v _ s1 E1 r1 p1 => by
    obtain ⟨d3, e3, p3⟩ := p1.opt
    cases d with
    | ins c fs =>
      obtain ⟨b, e4, rfl⟩ := map_some e3
      obtain ⟨k1, k2⟩ := hk c b e4
      obtain ⟨a, dx, vfs, rfl, h1, _⟩ := (RT.tp E1 r1).ins E1.bh
      exact ⟨_, .ref C, .ref (T c), .ref C, b, rfl, .own C, .base (.ins h1 k1.cl k1.ha k1.hn k1.htk k1.hm), k2, p3.done E1 (.bl b)⟩
    | _ => cases e3⟩

theorem Inv.instAt {pins : List (Addr × Obj)} {s : Shared} {σ : L2.St} {H : Hp} {a C dx : Addr} {fs : List (Str × V)} (I : L2.Inv X pins σ H s) (h : H a = some (.ins C dx fs)) : ∃ od, PySem.W.InstAt s.heap a (PySem.W.instObj C dx) C (some od) := by
  obtain ⟨mA, O, _⟩ := ins_get I.hok h
  obtain ⟨od, J, _⟩ := O.look
  exact ⟨od, J⟩
structure SpecAt (X : Cx) (T : TabC) (k : Nat) (m : Str) (c : Nat) (fn : FnS) : Prop where
  ex : ∃ (f : Addr) (ps : List Str), PySem.W.findIn X.K (.ref (T c)) m = some (some (.ref f)) ∧ PySem.W.isFn X.K (.ref f) = true ∧ DefAt X.prog X.w X.K X.mg X.base k f ps [] (spV X.K T false fn)
theorem run_spec {k : Nat} {f : Addr} {ps : List Str} {sp : Sp} {A : Around} {pins : List (Addr × Obj)} {s : Shared} {σ : L2.St} {H : Hp} {Q : VK} {us : List Value} {vs : List V} (F : DefAt X.prog X.w X.K X.mg X.base k f ps [] sp) (hr : Room k A) (e0 : Env0 X.prog X.w X.K X.mg X.base A X.stack s H) (tk : Takes X W) (I : L2.Inv X pins σ H s) (r : Vals vs us) (q : sp vs H Q (WE W σ)) :
    wpAny (model X.prog X.w) A (call (.ref f) us) (EP X pins σ Q) X.xe s := by
  obtain ⟨⟨fd, F1, hb⟩, _⟩ := F
  have len : us.length = ps.length := by rw [← r.length]; exact F1.len _ _ _ _ q
  have b := hb s us I.kIn (by rw [List.append_nil]; exact len)
  rw [List.append_nil] at b
  refine wpAny_call (codeAny_mono (F1.run A X.stack s H ⟨us, []⟩ us vs Q (WE W σ) hr e0 b r q) fun res s1 hres => ?_)
  match res, hres with
  | .error e, he => exact passAt tk σ pins _ _ e s1 I he
  | .ok (.ret u), he => exact I.after he
  | .ok .next, he => exact False.elim he
  | .ok .brk, he => exact False.elim he
  | .ok .cont, he => exact False.elim he
theorem spec_val {fn : FnS} {fr : Frm} {B H : Hp} {ρ : SEnv} {σ : L2.St} {ds : List D} {vs : List V} {d : D} {o : Option D} (E : EnvOk X.K T fr B H ρ σ) (r : RepL X.K T B ds vs) (e : fn ds = some (.val d o)) {Q : VK} {Ew : XK} (q : ∀ B' H' v, Same B B' → EnvOk X.K T fr B' H' ρ σ → Rep X.K T B' d v → Q v H') : spV X.K T false fn vs H Q Ew :=
  ⟨B, ds, _, E.bh, r, e, fun B' H' v A _ rr => q B' H' v A.b (E.after A (fun a z => by cases z)) rr⟩
end
end VL
end

section
set_option maxRecDepth 100000
set_option maxHeartbeats 1000000
namespace VL
open PySem L2 PyProof.Rows
section
variable {prog : Program} {w : World} {A : Around} {E : Value → Shared → Prop} {s : Shared}
def bR (Q E : Value → Shared → Prop) (r : Result) (s' : Shared) : Prop := match r with
  | .ok (.ret v) => (∃ b, v = .bool b) ∧ Q v s'
  | .ok _ => False
  | .error e => E e s'
def iR (Q : Value → Shared → Prop) (b : Bool) (r : Result) (s' : Shared) : Prop := match r with
  | .ok (.ret v) => v = .none ∧ Q (.bool b) s'
  | _ => False
end
section
variable {X : Cx} {T : TabC} {W : WX}
theorem takesNone : Takes X W0 := fun _ _ x => by
  obtain ⟨_, _, _, _, _, _, _, _, _, _, _, _, _, _, _, _, z⟩ := x
  exact z.elim
theorem run_tru {k : Nat} {m : Str} {c : Nat} {fn : FnS} {A : Around} {fr : Frm} {B H : Hp} {ρ : SEnv} {σ σ2 : L2.St} {pins : List (Addr × Obj)} {s : Shared} {ds : List D} {us : List Value} {vs : List V} {b : Bool} {o : Option D} {f : Addr} {ps : List Str} (F : DefAt X.prog X.w X.K X.mg X.base k f ps [] (spV X.K T false fn)) (hr : Room k A) (e0 : Env0 X.prog X.w X.K X.mg X.base A X.stack s H)
    (I : L2.Inv X pins σ H s) (E : EnvOk X.K T fr B H ρ σ2) (rv : Vals vs us) (r : RepL X.K T B ds vs) (ev : fn ds = some (.val (.bl b) o)) {Q : Hp → Prop} (q : ∀ B' H', Same B B' → EnvOk X.K T fr B' H' ρ σ2 → Q H') :
    wpAny (model X.prog X.w) A (call (.ref f) us) (fun v s' => v = .bool b ∧ ∃ H', L2.Inv X pins σ H' s' ∧ Q H') X.xe s := by
  refine wpAny_mono (run_spec (W := W0) F hr e0 takesNone I rv (spec_val (Q := fun v H' => v = .bl b ∧ Q H') E r ev fun B' H' v s E' r' => ?_)) (fun w s' z => ?_) fun _ _ x => x
  · cases r'
    exact ⟨rfl, q B' H' s E'⟩
  · obtain ⟨z', H', I', rz, rfl, qz⟩ := z
    exact ⟨rz, H', I', qz⟩
def rTruO (X : Cx) (T : TabC) (tab : Nat → Option FnS) : V → Hp → (Bool → Hp → Prop) → Prop := fun x H Q => ∃ (σ : L2.St) (fr : Frm) (B : Hp) (ρ : SEnv) (c : Nat) (fs : List (Str × D)) (fn : FnS) (b : Bool) (o : Option D), EnvOk X.K T fr B H ρ σ ∧ Rep X.K T B (.ins c fs) x ∧ tab c = some fn ∧ fn [.ins c fs] = some (.val (.bl b) o) ∧ ∀ B' H', Same B B' → EnvOk X.K T fr B' H' ρ σ → Q b H'
end
end VL
end

section
set_option maxRecDepth 100000
set_option maxHeartbeats 1200000
namespace VL
open PySem L2 PyProof.Rows
def SqB (tup : Bool) (K : PySem.W.Frag) (H : Hp) (a : Addr) (xs : List V) : Prop := if tup then SqT K H a xs else SqL K H a xs
def SrcAt (tup : Bool) (h : Heap) (a : Addr) (its : List Value) : Prop := if tup then h.IsTuple a its.toArray else h.IsList a its.toArray
def ItSt (tup : Bool) (it a : Addr) (i : Nat) (h : Heap) : Prop := if tup then h.IsTupleIter it a i else h.IsListIter it a i
def itOb (tup : Bool) (a : Addr) : Obj := if tup then { cls := .type "tuple_iterator", data := .fields #[.ref a, .int 0 0] } else { cls := .type "list_iterator", data := .fields #[.ref a, .int 0 0] }
theorem SqB.src {X : Cx} {pins : List (Addr × Obj)} {σ : L2.St} {H : Hp} {s : Shared} (I : L2.Inv X pins σ H s) {tup : Bool} {a : Addr} {xs : List V} (h : SqB tup X.K H a xs) : ∃ its, Vals xs its ∧ SrcAt tup s.heap a its := by
  cases tup with
  | true => exact let ⟨its, rv, p, _⟩ := I.tuple h; ⟨its, rv, p⟩
  | false => exact let ⟨its, rv, p, _⟩ := I.list h; ⟨its, rv, p.isList⟩
theorem SqB.inj {X : Cx} {pins : List (Addr × Obj)} {σ : L2.St} {H : Hp} {s : Shared} (I : L2.Inv X pins σ H s) {tup : Bool} {a : Addr} {xs ys : List V} (h : SqB tup X.K H a xs) (h' : SqB tup X.K H a ys) : xs = ys := by
  cases tup with
  | true => exact I.tuple_inj h h'
  | false => exact I.list_inj h h'
theorem SrcAt.lt {tup : Bool} {h : Heap} {a : Addr} {its : List Value} (x : SrcAt tup h a its) : a < h.objs.size := by
  cases tup with
  | true => exact let ⟨_, e, _⟩ := x; Heap.lt_size e
  | false => exact let ⟨_, e, _⟩ := x; Heap.lt_size e
theorem SrcAt.keep {tup : Bool} {h h' : Heap} {a : Addr} {its : List Value} (x : SrcAt tup h a its) (k : ∀ o, h.get? a = some o → h'.get? a = some o) : SrcAt tup h' a its := by
  cases tup with
  | true => exact Heap.IsTuple.at x k
  | false => exact Heap.IsList.at x k
theorem draws_src {prog : Program} {w : World} {A : Around} (hh : A.handled = none) {tup : Bool} {it a : Addr} (hne : a ≠ it) (its : List Value) :
    Draws prog w A it [it, a] its.length (fun i v => its[i]? = some v) (fun i h => ItSt tup it a i h ∧ SrcAt tup h a its) := by
  cases tup with
  | true => simpa [ItSt, SrcAt] using Draws.tuple (prog := prog) (w := w) hh it a hne its.toArray
  | false => simpa [ItSt, SrcAt] using Draws.list (prog := prog) (w := w) hh it a hne its.toArray
theorem begins_src (tup : Bool) (a : Addr) (its : List Value) : Begins (.ref a) (itOb tup a) fun h => SrcAt tup h a its := by
  cases tup with
  | true => exact begins_tuple a its.toArray
  | false => exact begins_list a its.toArray
theorem ItSt.new {tup : Bool} {it a : Addr} {h : Heap} (e : h.get? it = some (itOb tup a)) : ItSt tup it a 0 h := by
  cases tup with
  | true => exact ⟨_, e, rfl, rfl⟩
  | false => exact ⟨_, e, rfl, rfl⟩
theorem ItSt.ob {tup : Bool} {it a : Addr} {i : Nat} {h : Heap} (x : ItSt tup it a i h) : ∃ o, h.get? it = some o ∧ ∀ v, o.data ≠ .cell v := by
  cases tup with
  | true => exact let ⟨o, e, _, d⟩ := x; ⟨o, e, fun v z => by rw [d] at z; cases z⟩
  | false => exact let ⟨o, e, _, d⟩ := x; ⟨o, e, fun v z => by rw [d] at z; cases z⟩
theorem ItSt.keep {tup : Bool} {it a : Addr} {i : Nat} {h h' : Heap} (x : ItSt tup it a i h) (k : ∀ o, h.get? it = some o → h'.get? it = some o) : ItSt tup it a i h' := by
  cases tup with
  | true => exact Heap.IsTupleIter.at x k
  | false => exact Heap.IsListIter.at x k

def ItN (n : Nat) (G : Hp → Prop) (Yv : Nat → Hp → List V → Prop) : It :=
  ⟨fun i H => i < n ∧ G H, fun i H v H' => ∃ T xs, v = .ref T ∧ H T = none ∧ H' = upd H T (.tup xs) ∧ Yv i H xs, fun i H => i = n ∧ G H⟩
structure Pairs (P : Program) (w : World) (K : PySem.W.Frag) (tg : Expr) (n : Nat) (G : Hp → Prop) (Yv : Nat → Hp → List V → Prop) (fp : List Addr) (I : Addr) (core : Nat → Heap → Prop) : Prop where
  mem : I ∈ fp
  obj : ∀ i h, core i h → ∀ b ∈ fp, ∃ o, h.get? b = some o ∧ ∀ v, o.data ≠ .cell v
  keep : ∀ i h h', core i h → (∀ b ∈ fp, ∀ o, h.get? b = some o → h'.get? b = some o) → core i h'
  self : ∀ (A : Around) (i : Nat) (s : Shared) (Q : Value → Shared → Prop) (E : Value → Shared → Prop), core i s.heap → Q (.ref I) s → wpAny (model P w) A (pyIter (.ref I)) Q E s
  step : ∀ (X : Cx), X.prog = P → X.w = w → X.K = K → X.calm = true → ∀ (i : Nat) (pins : List (Addr × Obj)) (s : Shared) (σ : L2.St) (H : Hp), L2.Inv X pins σ H s → G H → core i s.heap →
    ∃ fpN wr Y St, GoesN X.prog X.w X.A tg I fpN wr n Y St ∧ (∀ b ∈ wr, b ∈ fp) ∧ St i s.heap ∧ (∀ j h', St j h' → core j h') ∧
      ∀ v h', i < n → Y i s.heap v h' → ∃ T vals xs, v = .ref T ∧ s.heap.objs.size ≤ T ∧ h'.IsTuple T (vals : List Value).toArray ∧ Vals xs vals ∧ xs.length ≤ 16 ∧ Yv i H xs
theorem moved {X : Cx} {pins : List (Addr × Obj)} {σ : L2.St} {H : Hp} {s : Shared} {h' : Heap} {t' : Nat} {ch : List Addr} (J : L2.Inv X pins σ H s) (k : ∀ b o, b ∉ ch → s.heap.get? b = some o → h'.get? b = some o) (hf : ∀ b ∈ ch, FpOk X pins H b) : L2.Inv X pins σ H { s with heap := h', toks := t' } := by
  have out : ∀ {b u}, H b = some u → b ∉ ch := fun e z => by rw [(hf _ z).1] at e; cases e
  have loc : X.env.locals ∉ ch := fun z => (hf _ z).2.1 rfl
  refine J.step (g' := s.gens) (d' := s.drawn) (ch := ch) ?_ ?_ ?_ (fun _ _ _ _ z => z) ?_ (fun _ _ e => e) (fun _ _ _ e => e) ?_ ?_ ?_ J.bare
  · exact fun b hb => let ⟨_, q1, _, q3, q4, q5⟩ := hf b hb; ⟨q3, q1, q4, q5⟩
  · exact fun b o _ _ hc e _ => k b o hc e
  · exact fun b o _ _ hc e _ => ⟨o.slots, k b o hc e⟩
  · exact fun b o hc e => ⟨o, k b o hc e⟩
  · exact fun b ps e => ⟨#[], by simp [e]⟩
  · rintro m ⟨o, es, ep, ho, r⟩
    exact ⟨o, es, ep, k _ o loc ho, r⟩
  · exact fun b u e => (J.hok b u e).stay (fun c v hc q => k c v (hc.elim (fun z => z ▸ out e) fun z => out z) q) (fun _ q => q) fun _ _ q => q
theorem Pairs.turn {P : Program} {w : World} {K : PySem.W.Frag} {tg : Expr} {n : Nat} {G : Hp → Prop} {Yv : Nat → Hp → List V → Prop} {fp : List Addr} {I : Addr} {core : Nat → Heap → Prop} (p : Pairs P w K tg n G Yv fp I core) : Turn P w K tg (ItN n G Yv) fp I core := by
  refine ⟨p.mem, p.obj, p.keep, fun X hP hw hK hc i pins s σ H E J hf st hg => ?_, fun X hP hw hK hc i pins s σ H E J hf st hg => ?_, p.self⟩
  · obtain ⟨fpN, wr, Y, St, W, sub, st0, nxt, val⟩ := p.step X hP hw hK hc i pins s σ H J hg.2 st
    rw [← hP, ← hw]
    refine W.goes i s _ _ hg.1 st0 fun v h' tk y st1 k _ => ?_
    obtain ⟨T, vals, xs, rfl, hT, tup, rv, few, yv⟩ := val v h' hg.1 y
    have free : H T = none := J.hok.fresh hT
    have fits : xs.length ≤ sizeLine := by rw [sizeLine_eq]; omega
    refine ⟨.ref T, upd H T (.tup xs), Inv.turnedNew (t' := tk) (ch := wr) J k (fun b hb => hf b (sub b hb)) hT ⟨fits, vals, rv, tup⟩, rfl, ⟨T, xs, rfl, free, rfl, yv⟩, nxt _ _ st1, fun b hb => ?_⟩
    obtain ⟨o, ho, _⟩ := p.obj i s.heap st b hb
    rw [upd_ne fun z => Nat.lt_irrefl _ (Nat.lt_of_lt_of_le (Heap.lt_size (z ▸ ho)) hT)]
    exact (hf b hb).1
  · obtain ⟨rfl, g⟩ := hg
    obtain ⟨fpN, wr, Y, St, W, sub, st0, _, _⟩ := p.step X hP hw hK hc i pins s σ H J g st
    rw [← hP, ← hw]
    refine W.stops s _ _ st0 fun h' tk k _ => ?_
    exact moved J k fun b hb => hf b (sub b hb)
theorem enum_pairs {P : Program} {w : World} {K : PySem.W.Frag} {elts : List Expr} {kk : Nat} {tpos : Pos} {tup : Bool} {a e it : Addr} {xs : List V} (hai : a ≠ it) (hea : e ≠ a) (hne : e ≠ it) :
    Pairs P w K (.Tuple elts kk tpos) xs.length (fun H => SqB tup K H a xs) (fun i _ ys => ∃ x, xs[i]? = some x ∧ ys = [.int (i : Nat), x]) [e, it] e (fun i h => (∃ old, IsEnum h e it ((i : Nat) : Int) old) ∧ ItSt tup it a i h) where
  mem := List.mem_cons_self ..
  obj := fun i h ⟨⟨_, q⟩, st⟩ b hb => by
    rcases List.mem_cons.mp hb with rfl | hb
    · exact ⟨_, q, nofun⟩
    · exact List.mem_singleton.mp hb ▸ st.ob
  keep := fun i h h' ⟨⟨old, q⟩, st⟩ k => ⟨⟨old, k e (by simp) _ q⟩, st.keep (k it (by simp))⟩
  self := fun A i s Q E ⟨⟨_, q⟩, _⟩ h => wpAny_pyIter_enum q h
  step := fun X hP hw hK hc i pins s σ H J g ⟨⟨old, q⟩, st⟩ => by
    subst hP hw hK
    obtain ⟨its, rv, src⟩ := g.src J
    have W := GoesN.enumFrom (elts := elts) (x1 := kk) (pos := tpos) 0 (draws_src (prog := X.prog) (w := X.w) (A := X.A.in1) (J.ok.hd hc) (tup := tup) hai its) e hne (by simp [hne, hea]) (by simp)
    rw [← rv.length] at W
    refine ⟨_, _, _, _, W, fun b hb => hb, ⟨⟨old, by rw [Int.zero_add]; exact q⟩, st, src⟩, fun j h' ⟨⟨o, z⟩, z2, _⟩ => ⟨⟨o, by rw [Int.zero_add] at z; exact z⟩, z2⟩, ?_⟩
    rintro v h' hi ⟨T, t, x, rfl, hT, hx, ht⟩
    obtain ⟨y, hy⟩ : ∃ y, xs[i]? = some y := ⟨_, List.getElem?_eq_getElem hi⟩
    obtain ⟨u, hu, ru⟩ := rv.get hy
    have ex : u = x := Option.some.inj (hu.symm.trans hx)
    subst ex
    exact ⟨T, [.int (0 + (i : Int)) t, u], [.int (i : Nat), y], rfl, hT, ht, .cons ⟨t, by rw [Int.zero_add]⟩ (.cons ru .nil), Nat.le_of_ble_eq_true rfl, y, hy, rfl⟩
theorem enum_meets {v : Value} {o : Obj} {L : Heap → Prop} (B : Begins v o L) : Meets (Builtin.«enumerate.__new__» ⟨[.type "enumerate", v], []⟩)
    fun _ R s => L s.heap ∧ R (.ok (.ret (.ref (s.heap.push o).objs.size))) { s with heap := (s.heap.push o).push { cls := .type "enumerate", data := .fields #[.none, .bool false, .ref s.heap.objs.size, rawInt 0, .none, .none] } } := by
  refine .of_wp fun prog w A R s ⟨hL, hR⟩ => ?_
  rcases s with ⟨hp, gn, dr, tks, opsys⟩
  have own := sub_enumerate
  have begin_ : ∀ {A1 : Around} {E1 Q1 : Value → Shared → Prop}, Q1 (.ref hp.objs.size) ⟨hp.push o, gn, dr, tks, opsys⟩ → wpAny (model prog w) A1 (pyIter v) Q1 E1 ⟨hp, gn, dr, tks, opsys⟩ := B.iter prog w _ _ ⟨hp, gn, dr, tks, opsys⟩ _ hL
  wp_walk using begin_
  refine wpAny_stack_any fun top => wpAny_pure ?_
  split <;> first
    | (wp_walk using begin_; exact ⟨_, rfl, hR⟩)
    | (rename_i cls _ _ _ _ _; cases cls == Value.type "enumerate" <;> (wp_walk using begin_; exact ⟨_, rfl, hR⟩))
theorem call_enum {P : Program} {w : World} {A : Around} {E Q : Value → Shared → Prop} {s : Shared} {v : Value} {o : Obj} {L : Heap → Prop} (B : Begins v o L) (hL : L s.heap)
    (q : ∀ h', IsEnum h' (s.heap.objs.size + 1) s.heap.objs.size 0 .none → h'.get? s.heap.objs.size = some o → (∀ b u, s.heap.get? b = some u → h'.get? b = some u) → Q (.ref (s.heap.objs.size + 1)) { s with heap := h' }) :
    wpAny (model P w) A (call (.type "enumerate") [v]) Q E s := by
  have one : (s.heap.push o).objs.size = s.heap.objs.size + 1 := by simp [Heap.size_push]
  have at1 : ((s.heap.push o).push { cls := .type "enumerate", data := .fields #[.none, .bool false, .ref s.heap.objs.size, rawInt 0, .none, .none] }).get? (s.heap.objs.size + 1) = some { cls := .type "enumerate", data := .fields #[.none, .bool false, .ref s.heap.objs.size, rawInt 0, .none, .none] } := one ▸ Heap.get?_push_size _ rfl
  have at0 : (s.heap.push o).get? s.heap.objs.size = some o := Heap.get?_push_size _ B.free
  refine callType_new F.called_enumerate (by decide) (F.typeCall_enumerate_1 _) (F.newCall_enumerate_1 _) (F.args_object_init_2 · _) F.entry_enumerate_new (enum_meets B) ⟨hL, ?_⟩
  rw [one]
  exact ⟨⟨_, at1, rfl⟩, q _ at1 (Heap.get?_push_of_some _ at0) fun b u z => Heap.get?_push_of_some _ (Heap.get?_push_of_some _ z)⟩
def wEnum (K : PySem.W.Frag) (te : TE) : TI := fun σ H R => te σ H fun v H1 => ∃ a tup xs, v = .ref a ∧ SqB tup K H1 a xs ∧ R (ItN xs.length (fun H => SqB tup K H a xs) fun i _ ys => ∃ x, xs[i]? = some x ∧ ys = [.int (i : Nat), x]) H1
theorem pi_en {X : Cx} {e : Expr} {te : TE} {p pos tpos : Pos} {elts : List Expr} {kk : Nat} (hg : Gl X "enumerate") (hm : X.mg "enumerate" = none) (he : PE X e te) (hs : starEach [e] X.env = (false, eval e X.env) :: starEach [] X.env := by rfl) : PI X (.Tuple elts kk tpos) (.Call (.Name "enumerate" p) [e] [] pos) (wEnum X.K te) := by
  constructor
  intro pins s σ H R I h
  refine Call_ (ld_blt I hg hm boot_enumerate (callWith_type1 (args_cons (thn (he.run pins s σ H _ I h) ?_) hs) hs rfl))
  rintro _ s1 ⟨_, H1, J, r, a, tup, xs, rfl, sq, q⟩
  cases r
  refine args_nil ?_
  obtain ⟨its, rv, src⟩ := sq.src J
  have ha : a < s1.heap.objs.size := src.lt
  refine call_enum (begins_src tup a its) src fun h' z1 z0 k => wpAny_pyIter_enum z1 ?_
  refine ⟨_, [s1.heap.objs.size + 1, s1.heap.objs.size], _, _, H1, rfl, J.kept (t' := s1.toks) k, (enum_pairs (Nat.ne_of_lt ha) (Nat.ne_of_gt (Nat.lt_succ_of_lt ha)) (Nat.succ_ne_self _)).turn, ⟨⟨_, z1⟩, .new z0⟩, ?_, q⟩
  intro b hb
  have old : s1.heap.objs.size ≤ b := by
    rcases List.mem_cons.mp hb with rfl | hb
    · exact Nat.le_succ _
    · exact Nat.le_of_eq (List.mem_singleton.mp hb).symm
  exact J.fpOk old (J.hok.fresh old)
def wZip (K : PySem.W.Frag) (te tf : TE) : TI := fun σ H R => te σ H fun v H1 => tf σ H1 fun v2 H2 => ∃ a b t1 t2 xs ys, v = .ref a ∧ v2 = .ref b ∧ SqB t1 K H2 a xs ∧ SqB t2 K H2 b ys ∧
  R (ItN (min xs.length ys.length) (fun H => SqB t1 K H a xs ∧ SqB t2 K H b ys) fun i _ zs => ∃ x y, xs[i]? = some x ∧ ys[i]? = some y ∧ zs = [x, y]) H2
section
variable {X : Cx} {T : TabC} {W : WX}
theorem Rep.src {K : PySem.W.Frag} {B H : Hp} {d : D} {v : V} {xs : List D} (s : Same B H) (r : Rep K T B d v) (e : itemsD d = some xs) : ∃ a tup vs, v = .ref a ∧ (∀ H', Same B H' → SqB tup K H' a vs) ∧ RepL K T B xs vs := by
  cases r with
  | tup h1 h2 => cases e; exact ⟨_, true, _, rfl, fun H' s' => sameT s' h1, h2⟩
  | lst h1 h2 => cases e; exact ⟨_, false, _, rfl, fun H' s' => SqL.of (s' _ _ h1), h2⟩
  | scr h1 => cases e; exact ⟨_, false, _, rfl, fun H' s' => s'.seq h1, RepL.ints _⟩
  | _ => cases e
theorem grow_pair {K : PySem.W.Frag} {B1 H : Hp} {Ta : Addr} {ds : List D} {vs : List V} (s2 : Same B1 H) (hn : H Ta = none) (r : RepL K T B1 ds vs) : Grow B1 H (upd B1 Ta (.tup vs)) (upd H Ta (.tup vs)) ∧ Rep K T (upd B1 Ta (.tup vs)) (.tup ds) (.ref Ta) :=
  ⟨.new _ hn, .tup (SqT.of upd_same) (r.mono (upd_free (s2.free hn)))⟩
theorem walkEn {K : PySem.W.Frag} {B : Hp} {xs : List D} {vs : List V} {G : Hp → Prop} (g : ∀ H', Same B H' → G H') (r : RepL K T B xs vs) : VWalk K T B (enumD xs) (ItN vs.length G fun i _ ys => ∃ x, vs[i]? = some x ∧ ys = [.int (i : Nat), x]) := by
  have hl : (enumD xs).length = vs.length := by unfold enumD; simp [r.length]
  refine ⟨G, fun i H v H' => ∃ Ta ys, v = .ref Ta ∧ H Ta = none ∧ H' = upd H Ta (.tup ys) ∧ ∃ x, vs[i]? = some x ∧ ys = [.int (i : Nat), x], hl ▸ ⟨fun i H hi q => ⟨hi, q⟩, fun H q => ⟨rfl, q⟩, fun i H v H' hi q y => y⟩, fun B1 H s1 s2 => g H (s1.trans s2), ?_⟩
  rintro i H _ _ B1 hi s1 s2 ⟨Ta, _, rfl, hn, rfl, x, hx, rfl⟩
  obtain ⟨d, h3, h4⟩ := r.get' hx
  obtain ⟨z1, z2⟩ := grow_pair (Ta := Ta) s2 hn (.cons (.int (i : Nat)) (.cons (h4.mono s1) .nil))
  exact ⟨_, _, by unfold enumD; simp [h3], z1, z2⟩
theorem okI_enum {e : Expr} {f : SE} {p pos tpos : Pos} {elts : List Expr} {kk : Nat} (hm : X.mg "enumerate" = none) (he : OKE X T W e f) (hg : Gl X "enumerate" := by rfl) (hs : starEach [e] X.env = (false, eval e X.env) :: starEach [] X.env := by rfl) :
    OKI X T W (.Tuple elts kk tpos) (.Call (.Name "enumerate" p) [e] [] pos) (VL.iEnum f) :=
  pi_imp (pi_en hg hm he hs) fun σ H R ⟨fr, B, ρ, E, p⟩ => ⟨fr, B, ρ, E, p.bind fun d ρ1 B1 H1 v _ s1 E1 r1 p1 => by
    split at p1
    · rename_i xs e1
      obtain ⟨a, tup, vs, rfl, sq, r⟩ := Rep.src E1.bh r1 e1
      exact ⟨a, tup, vs, rfl, sq _ E1.bh, p1.done E1 (walkEn sq r)⟩
    · exact p1.elim⟩
end
end VL
end

section
set_option maxRecDepth 100000
set_option maxHeartbeats 1000000
namespace VL
open PySem L2 PyProof.Rows
open Sem (wp)
section
variable {P : Program} {w : World} {A : Around} {I S : Addr} {fp wr : List Addr} {G : Array GenState → Array GenState → Prop} {n : Nat} {Y : Nat → Value → Prop} {St : Nat → Shared → Prop}
end
section
variable {X : Cx} {T : TabC} {W : WX}
def tLsRev (K : PySem.W.Frag) (te : TE) : TE := fun σ H Q => te σ H fun v H1 => ∃ (a : Addr) (xs : List V), v = .ref a ∧ SqL K H1 a xs ∧ ∀ q, H1 q = none → Q (.ref q) (upd H1 q (.lst xs.reverse))
def dnV (i j : Int) : List V := (List.range (i - j).toNat).map fun k => V.int (i - (k : Nat))
def tLsDn (ta : TA) : TE := fun σ H Q => ta σ H fun vs H1 => ∃ i j : Int, vs = [.int i, .int j, .int (-1)] ∧ -(2 ^ 62) ≤ i ∧ i < 2 ^ 62 ∧ -(2 ^ 62) ≤ j ∧ j < 2 ^ 62 ∧ (i - j).toNat ≤ 2 ^ 24 ∧ ∀ q, H1 q = none → Q (.ref q) (upd H1 q (.lst (dnV i j)))
end
end VL
end

section
set_option maxRecDepth 100000
set_option maxHeartbeats 3300000
namespace VL
open PySem L2 PyProof.Rows
section
variable {P : Program} {w : World} {A : Around} {E Q : Value → Shared → Prop} {s : Shared}
end
section
variable {X : Cx} {T : TabC} {W : WX}
def tSortedSet (K : PySem.W.Frag) (w : World) (te : TE) : TE := fun σ H Q => te σ H fun v H1 => ∃ a ns, v = .ref a ∧ SqL K H1 a (ns.map V.int) ∧ ns.length + 1 < 4096 ∧ (srtU ns).length < 64 ∧ ∀ p q o, H1 p = none → upd H1 p o q = none → Q (.ref q) (upd (upd H1 p o) q (.lst ((srtU ns).map V.int)))
end
end VL
end

section
set_option maxRecDepth 100000
set_option maxHeartbeats 2000000
namespace VL
open PySem L2 PyProof.Rows
abbrev NoE : Value → Shared → Prop := fun _ _ => False
abbrev testsOf (ifs : List Expr) (env : Env) : Sem Bool := forIn ifs true fun c r => if r = true then do let ok ← isTrue c env (eval c env); pure (ForInStep.yield ok) else pure (ForInStep.yield r)
abbrev turnForm (C : Expr) (j : Nat) (it acc : Value) (env : Env) (tg : Expr) (ifs : List Expr) (p0 : Pos) (act : Sem Fin → Sem Fin) : Sem Fin :=
  standAt p0 >>= fun _ => pyNext it >>= fun r => match r with
    | none => pure (.done .next)
    | some v => letOwnedTupleGo tg it v >>= fun _ => assign tg env v >>= fun _ => testsOf ifs env >>= fun ok => if ok = true then act (again (.compLoop C j it acc env)) else again (.compLoop C j it acc env)
section
variable {P : Program} {w : World} {A : Around} {C tg : Expr} {j : Nat} {it acc : Value} {env : Env} {ifs : List Expr} {p0 : Pos} {act : Sem Fin → Sem Fin}
abbrev LoopIs (P : Program) (w : World) (A : Around) (C : Expr) (j : Nat) (it acc : Value) (env : Env) : Prop :=
  A.under (.compLoop C j it acc env) = A ∧ (model P w).den (.compLoop C j it acc env) = ((compTurn C j it acc env).onRaise fun x => do noteFrame x env; theTreesLotGoes x)
end
def Tells (τ σ : L2.St) : Prop := σ.length = τ.length ∧ ∀ (j : Nat) v, τ[j]? = some (some v) → σ[j]? = some (some v)
def ActOk (Z : Cx) (τ : L2.St) (act : Sem Fin → Sem Fin) (ta : L2.St → Hp → (Hp → Prop) → Prop) : Prop := ∀ (pins : List (Addr × Obj)) (s : Shared) (σ : L2.St) (H : Hp) (Nx : Hp → Prop), L2.Inv Z pins σ H s → Tells τ σ → ta σ H Nx →
  ∀ (k : Sem Fin) (Q : Fin → Shared → Prop) (E : Value → Shared → Prop), (∀ s' σ' H', L2.Inv Z pins σ' H' s' → Tells τ σ' → Nx H' → wpAny (model Z.prog Z.w) Z.A k Q E s') → wpAny (model Z.prog Z.w) Z.A (act k) Q E s
def Clause (J : It) (τ : L2.St) (g : TG) (tt : TT) (ta : L2.St → Hp → (Hp → Prop) → Prop) (Fin' : Hp → Prop) (Wi : Nat → Nat → Hp → Prop) : Prop := ∀ i m H, Wi i m H → (J.stop i H ∧ Fin' H) ∨
  (J.go i H ∧ ∃ Nx : Hp → Prop, (∀ H', Nx H' → ∃ m', m' < m ∧ Wi (i + 1) m' H') ∧ ∀ x H', J.yld i H x H' → g x τ H' fun σ2 H2 => Tells τ σ2 ∧ tt σ2 H2 fun b H3 => if b = true then ta σ2 H3 Nx else Nx H3)
abbrev dc2 (kx vx t0 i0 t1 i1 : Expr) (ifs0 ifs1 : List Expr) (scope : Scope) (pos : Pos) : Expr := .DictComp kx vx [⟨t0, i0, ifs0, 0⟩, ⟨t1, i1, ifs1, 0⟩] scope pos
abbrev actOut (C i1 : Expr) (acc : Value) (env : Env) (k : Sem Fin) : Sem Fin := eval i1 env >>= fun x => standAt i1.pos >>= fun _ => foldedSetIterable i1 env x >>= fun x => holding [x] (pyIter x) >>= fun it1 => runOwn (.compStart C 1 it1 acc env) env >>= fun _ => k
abbrev actIn (kx vx : Expr) (D : Addr) (env : Env) (k : Sem Fin) : Sem Fin := (eval kx env >>= fun kv => holding [kv] (eval vx env) >>= fun vv => standAt { kx.pos with endLine := vx.pos.endLine, endCol := vx.pos.endCol } >>= fun _ => holding [kv, vv] (dictSet D kv vv)) >>= fun _ => k
section
variable {kx vx t0 i0 t1 i1 : Expr} {ifs0 ifs1 : List Expr} {scope : Scope} {pos : Pos} {it : Value} {D : Addr} {env : Env} {P : Program} {w : World} {A : Around}
end
section
variable {Z : Cx} {kx vx t0 i0 t1 i1 : Expr} {ifs0 ifs1 : List Expr} {scope : Scope} {pos : Pos} {D : Addr}
theorem Tells.refl (τ : L2.St) : Tells τ τ := ⟨rfl, fun _ _ z => z⟩
def taIn (tk tv : TE) (D : Addr) : L2.St → Hp → (Hp → Prop) → Prop := fun σ H Nx => tk σ H fun y H1 => tv σ H1 fun z H2 => ∃ kvs k, y = kV k ∧ H2 D = some (.dK kvs) ∧ kvs.length < sizeLine ∧ Nx (upd H2 D (.dK (putK kvs k z)))
def taOut (wi1 : TI) (g1 : TG) (tt1 : TT) (ta : L2.St → Hp → (Hp → Prop) → Prop) (vs1 : List Nat) : L2.St → Hp → (Hp → Prop) → Prop := fun σ H Nx => wi1 σ H fun J1 H1 => ∃ W1, (∃ m, W1 0 m H1) ∧ Clause J1 (wipe σ vs1) g1 tt1 ta Nx W1
end
section
variable {X : Cx}
def tDc2 (wi : TI) (g : TG) (tt : TT) (wi1 : TI) (g1 : TG) (tt1 : TT) (tk tv : TE) (vs vs1 : List Nat) : TE := fun σ H Q => wi σ H fun J H1 => ∀ D, H1 D = none → ∃ Wi, (∃ m, Wi 0 m (upd H1 D (.dK []))) ∧ Clause J (wipe σ vs) g tt (taOut wi1 g1 tt1 (taIn tk tv D) vs1) (fun H2 => Q (.ref D) H2) Wi
end
end VL
end

section
set_option maxRecDepth 100000
set_option maxHeartbeats 2000000
namespace VL
open PySem L2 PyProof.Rows
section
variable {K : PySem.W.Frag} {T : TabC} {fr : Frm} {B1 H1 : Hp} {ρ1 ρF : SEnv} {τ : L2.St} {vs is : List Nat} {g : SG} {t : ST}
structure Held (K : PySem.W.Frag) (T : TabC) (fr : Frm) (B H : Hp) (ρ : SEnv) (σ : L2.St) (Dd : Addr) (d : D) : Prop where
  env : EnvOk K T fr B H ρ σ
  own : OwnAt K T fr B H Dd d
  ap : Apart ρ σ Dd
theorem Held.wipeAll {B H : Hp} {ρ : SEnv} {σ : L2.St} {Dd : Addr} {d : D} (h : Held K T fr B H ρ σ Dd d) (vs : List Nat) : Held K T fr B H (wipeE ρ vs) (wipe σ vs) Dd d := ⟨h.env.wipeAll vs, h.own, h.ap.wipeAll⟩
theorem Held.mask {B H : Hp} {ρ : SEnv} {σ : L2.St} {Dd : Addr} {d : D} (h : Held K T fr B H ρ σ Dd d) (hb : fr.B0 Dd = none) : ∃ o, EnvOk K T (fr.mask Dd o) B H ρ σ ∧ ∀ B' H' ρ' σ', Same B B' → EnvOk K T (fr.mask Dd o) B' H' ρ' σ' → Held K T fr B' H' ρ' σ' Dd d := by
  obtain ⟨o, ho⟩ := h.own.o.there
  refine ⟨o, h.env.mask h.own h.ap ho, fun B' H' ρ' σ' s E => ?_⟩
  obtain ⟨E2, h2, b2, ap2⟩ := E.unmask h.own.f hb
  exact ⟨E2, ⟨b2, h.own.f, h.own.i, h.own.o.mono s (by rw [h2, ho])⟩, ap2⟩
def keyOfD : D → Option Key
  | .int i => some (.inl i)
  | .str s => some (.inr s)
  | _ => none
theorem rep_key {B : Hp} {d : D} {v : V} {k : Key} (e : keyOfD d = some k) (r : Rep K T B d v) : v = kV k := by
  cases r <;> first | (cases e; rfl) | cases e
theorem eq_key {d d' : D} {k k' : Key} (e : keyOfD d = some k) (e' : keyOfD d' = some k') : eqD d d' = decide (k = k') := by
  cases d <;> cases e <;> cases d' <;> cases e' <;> simp [eqD] <;> (rw [Bool.eq_iff_iff]; simp)
theorem RepK.keys {B : Hp} : ∀ {kvs : List (D × D)} {us : List (Key × V)}, RepK K T B kvs us → ∀ {d : D} {k : Key}, keyOfD d = some k → (kvs.any fun kv => eqD kv.1 d) = us.any fun kv => decide (kv.1 = k)
  | _, _, .nil, _, _, _ => rfl
  | _, _, .int h r, d, k, e => by
    rw [List.any_cons, List.any_cons, r.keys e, eq_key (d := .int _) rfl e]
  | _, _, .str h r, d, k, e => by
    rw [List.any_cons, List.any_cons, r.keys e, eq_key (d := .str _) rfl e]
theorem RepK.swap {B : Hp} {vd : D} {z : V} (rv : Rep K T B vd z) : ∀ {kvs : List (D × D)} {us : List (Key × V)}, RepK K T B kvs us → ∀ {d : D} {k : Key}, keyOfD d = some k →
    RepK K T B (kvs.map fun kv => if eqD kv.1 d = true then (kv.1, vd) else kv) (us.map fun kv => if kv.1 = k then (kv.1, z) else kv)
  | _, _, .nil, _, _, _ => .nil
  | _, _, .int (i := i) h r, d, k, e => by
    rw [List.map_cons, List.map_cons]
    have q := eq_key (d := .int i) rfl e
    by_cases c : (.inl i : Key) = k
    · rw [if_pos (by rw [q]; exact decide_eq_true c), if_pos c]; exact .int rv (r.swap rv e)
    · rw [if_neg (by rw [q]; simpa using c), if_neg c]; exact .int h (r.swap rv e)
  | _, _, .str (s := i) h r, d, k, e => by
    rw [List.map_cons, List.map_cons]
    have q := eq_key (d := .str i) rfl e
    by_cases c : (.inr i : Key) = k
    · rw [if_pos (by rw [q]; exact decide_eq_true c), if_pos c]; exact .str rv (r.swap rv e)
    · rw [if_neg (by rw [q]; simpa using c), if_neg c]; exact .str h (r.swap rv e)
theorem RepK.snoc {B : Hp} {vd : D} {z : V} (rv : Rep K T B vd z) : ∀ {kvs : List (D × D)} {us : List (Key × V)}, RepK K T B kvs us → ∀ {d : D} {k : Key}, keyOfD d = some k → RepK K T B (kvs ++ [(d, vd)]) (us ++ [(k, z)])
  | _, _, .nil, d, k, e => by cases d <;> cases e <;> first | exact .int rv .nil | exact .str rv .nil
  | _, _, .int h r, _, _, e => .int h (r.snoc rv e)
  | _, _, .str h r, _, _, e => .str h (r.snoc rv e)
theorem RepK.put {B : Hp} {kvs : List (D × D)} {us : List (Key × V)} {d vd : D} {k : Key} {z : V} (r : RepK K T B kvs us) (e : keyOfD d = some k) (rv : Rep K T B vd z) : RepK K T B (putD kvs d vd) (putK us k z) := by
  unfold putD putK
  rw [r.keys e]
  split
  · exact r.swap rv e
  · exact r.snoc rv e
theorem RepK.length {B : Hp} : ∀ {kvs : List (D × D)} {us : List (Key × V)}, RepK K T B kvs us → kvs.length = us.length
  | _, _, .nil => rfl
  | _, _, .int h r => by rw [List.length_cons, List.length_cons, r.length]
  | _, _, .str h r => by rw [List.length_cons, List.length_cons, r.length]
theorem RepK.look {B : Hp} : ∀ {kvs : List (D × D)} {us : List (Key × V)}, RepK K T B kvs us → ∀ {d : D} {k : Key}, keyOfD d = some k → (lookD kvs d = none ∧ valV us k = none) ∨ ∃ x v, lookD kvs d = some x ∧ valV us k = some v ∧ Rep K T B x v
  | _, _, .nil, _, _, _ => .inl ⟨rfl, rfl⟩
  | _, _, .int (i := i) (d := x) (v := v) h r, d, k, e => by
    have q := eq_key (d := .int i) rfl e
    by_cases c : (.inl i : Key) = k
    · exact .inr ⟨x, v, by unfold lookD; rw [List.find?_cons_of_pos (by rw [q]; exact decide_eq_true c)]; rfl, valV_pos c, h⟩
    · have z := r.look e
      unfold lookD at z ⊢
      rw [List.find?_cons_of_neg (by rw [q]; simpa using c), valV_neg c]
      exact z
  | _, _, .str (s := i) (d := x) (v := v) h r, d, k, e => by
    have q := eq_key (d := .str i) rfl e
    by_cases c : (.inr i : Key) = k
    · exact .inr ⟨x, v, by unfold lookD; rw [List.find?_cons_of_pos (by rw [q]; exact decide_eq_true c)]; rfl, valV_pos c, h⟩
    · have z := r.look e
      unfold lookD at z ⊢
      rw [List.find?_cons_of_neg (by rw [q]; simpa using c), valV_neg c]
      exact z
end
section
variable {X : Cx} {T : TabC} {W : WX}
theorem Tp.dict {K : PySem.W.Frag} {B H : Hp} {kvs : List (D × D)} {v : V} (s : Same B H) (h : Tp K T B H (.dic kvs) v) : ∃ a us, v = .ref a ∧ Rd H a (.dK us) ∧ RepK K T B kvs us := by
  rcases h with h | ⟨a, rfl, us, h1, h2⟩
  · cases h with
    | dic h1 h2 => exact ⟨_, _, rfl, rdSame s h1, h2⟩
  · exact ⟨a, us, rfl, .inl h1, h2⟩
theorem Tp.key {K : PySem.W.Frag} {B H : Hp} {d : D} {v : V} {k : Key} (e : keyOfD d = some k) (h : Tp K T B H d v) : v = kV k := by
  rcases h with h | ⟨a, rfl, h⟩
  · exact rep_key e h
  · cases d <;> first | exact h.elim | cases e
end
end VL
end

section
set_option maxRecDepth 100000
set_option maxHeartbeats 2000000
namespace VL
open PySem L2
section
variable {X : Cx} {T : TabC} {W : WX}
instance {i : Nat} : PureE (eLk i) := ⟨fun ρ d ρ' h => by
  unfold eLk at h
  split at h <;> cases h <;> rfl⟩
theorem ok_lk {i : Nat} {x : Str} {pos : Pos} (hN : X.N[i]? = some x := by rfl) (hv : Vis X.env.scope x := by first | exact Or.inl rfl | exact Or.inr (Or.inl rfl) | exact Or.inr (Or.inr rfl)) (hd : (x == ("__debug__" : Str)) = false := by decide)
    (hcd : (x == ("__classdict__" : Str)) = false := by decide) : OKT X T W (.Name x pos) (eLk i) := by
  constructor
  rintro pins s σ H Q I ⟨fr, B, ρ, E, p⟩
  cases q : ρ[i]? with
  | none => unfold eLk at p; rw [q] at p; exact p.elim
  | some z =>
    cases z with
    | no => unfold eLk at p; rw [q] at p; exact p.elim
    | sh d => exact (ok_var (W := W) hN hv hd hcd).top.run pins s σ H Q I ⟨fr, B, ρ, E, by unfold eLk at p; unfold eVar; rw [q] at p ⊢; exact p⟩
    | own d => exact (ok_bw (W := W) hN hv hd hcd).run pins s σ H Q I ⟨fr, B, ρ, E, by unfold eLk at p; unfold eBw; rw [q] at p ⊢; exact p⟩
    | io d => exact (ok_bw (W := W) hN hv hd hcd).run pins s σ H Q I ⟨fr, B, ρ, E, by unfold eLk at p; unfold eBw; rw [q] at p ⊢; exact p⟩
theorem OpTV.toV {f : Value → Value → Sem Value} {op : D → D → Option D} (h : OpTV X T f op) : OpV X T f op := OpR.wk h fun x y H Q ⟨B, d1, d2, d, s, r1, r2, e, q⟩ => ⟨B, d1, d2, d, s, .inl r1, .inl r2, e, q⟩
theorem hu65 {A : Around} {k : Nat} (hr : Room k A) : A.units + 65 < cLine := by have := hr.un; omega
theorem spec_nil {k : Nat} {m : Str} : ∀ (c : Nat) (fn : FnS), tabOf (α := FnS) [] c = some fn → SpecAt X T k m c fn := fun c fn h => by cases h
theorem spec_cons {k : Nat} {m : Str} {c0 : Nat} {fn0 : FnS} {l : List (Nat × FnS)} (h0 : SpecAt X T k m c0 fn0) (h : ∀ (c : Nat) (fn : FnS), tabOf l c = some fn → SpecAt X T k m c fn) : ∀ (c : Nat) (fn : FnS), tabOf ((c0, fn0) :: l) c = some fn → SpecAt X T k m c fn := fun c fn e => by
  unfold tabOf at e
  rw [List.lookup_cons] at e
  split at e
  · rename_i hb
    have z : c = c0 := by simpa using hb
    subst z
    cases e
    exact h0
  · exact h c fn e
theorem okS_bad {st : Stmt} : OKS X T W st sBad := ⟨fun pins s σ H D' I ⟨_, _, _, _, p⟩ => p.elim⟩
theorem okSs_bad {sts : List Stmt} : OKSs X T W sts sBad := ⟨fun pins s σ H D' I ⟨_, _, _, _, p⟩ => p.elim⟩
end
def spLaw (K : PySem.W.Frag) : Sp := fun vs H Q _ => ∃ (a : Addr) (ns : List Int), vs = [.ref a] ∧ SqL K H a (ns.map V.int) ∧ ns.length ≤ 63 ∧ (∀ z ∈ ns, Builtin.Int.intBits z ≤ 1048576) ∧ ∀ H', Q (.bl true) H'
theorem law_sp {K : PySem.W.Frag} {T : TabC} {fn : FnS} (hl : ∀ ns : List Int, ns.length ≤ 63 → (∀ z ∈ ns, Builtin.Int.intBits z ≤ 1048576) → ∃ r, fn [.scr ns] = some (.val (.bl true) r)) {vs : List V} {H : Hp} {Q : VK} {E : XK} (q : spLaw K vs H Q E) : spV K T false fn vs H Q E := by
  obtain ⟨a, ns, rfl, hs, h1, h2, q⟩ := q
  obtain ⟨r, e⟩ := hl ns h1 h2
  refine ⟨H, [.scr ns], _, Same.refl _, .cons (.scr hs) .nil, e, fun B' H' v _ _ rr => ?_⟩
  have z : Rep K T B' (.bl true) v := rr
  cases z
  exact q H'
theorem kit_of {K : PySem.W.Frag} {a C : Addr} {b : Bool} (mo : PySem.W.mroIn K C (.type "object") = some true) (ty : PySem.W.typeIn K (.ref C) = some (.type "type")) (ss : PySem.W.subIn K (.ref C) (.ref C) = some true) (sb : PySem.W.subIn K (.ref a) (.ref C) = some b) : PySem.W.kitOne K (.ref a) (.ref C) = some b := by
  unfold PySem.W.kitOne
  split
  · rename_i e
    have z : (Value.ref a) = .ref C := eq_of_beq e
    rw [z, ss] at sb
    exact sb
  · have cls : (PySem.W.clsIn K C).isSome = true := by
      unfold PySem.W.mroIn at mo
      cases q : PySem.W.clsIn K C with
      | none => rw [q] at mo; cases mo
      | some cd => rfl
    unfold PySem.W.kitCls
    simp only [cls, ty, Bool.true_and, beq_self_eq_true, if_true]
    exact sb
theorem noCX {P : Program} {w : World} {H : Hp} {s : Shared} {e : Value} {s' : Shared} (x : L2.CX P w [] H s (fun _ _ _ => False) e s') : False := by
  obtain ⟨_, _, _, _, _, _, _, _, _, _, _, _, _, _, _, _, z⟩ := x
end VL
end

section
set_option maxRecDepth 100000
set_option maxHeartbeats 1000000
namespace VL
open PySem L2 PyProof.Rows
section
variable {X : Cx} {T : TabC} {W : WX}
def rEqO (X : Cx) (T : TabC) (op : D → D → Option D) : R2 := fun x y H Q => ∃ (σ : L2.St) (fr : Frm) (B : Hp) (ρ : SEnv) (d1 d2 d : D), EnvOk X.K T fr B H ρ σ ∧ Rep X.K T B d1 x ∧ Rep X.K T B d2 y ∧ op d1 d2 = some d ∧ ∀ B' H' v, Same B B' → EnvOk X.K T fr B' H' ρ σ → Rep X.K T B' d v → Q v H'
theorem readO {f g : SE} {op : D → D → Option D} {σ : L2.St} {H : Hp} {Q : VK} (h : rdE X.K T W (eOp op f g) σ H Q) : tOp (rEqO X T op) (rdE X.K T W f) (rdE X.K T W g) σ H Q := by
  obtain ⟨fr, B, ρ, E, p⟩ := h
  exact ⟨fr, B, ρ, E, p.bind fun d ρ1 B1 H1 v _ s1 E1 r1 p1 => ⟨fr, B1, ρ1, E1, p1.bind fun d2 ρ2 B2 H2 v2 _ s2 E2 r2 p2 => by
    obtain ⟨d3, e3, p3⟩ := p2.opt
    exact ⟨σ, fr, B2, ρ2, d, d2, d3, E2, Rep.mono s2 r1, r2, e3, fun B' H' w s E' r3 => p3 _ _ _ s E' r3⟩⟩⟩
theorem op_eqO {k : Nat} {tab : Nat → Option FnS} (hc : ∀ c fn, tab c = some fn → SpecAt X T k "__eq__" c fn) (hn : ∀ c fn c2 fn2, tab c = some fn → tab c2 = some fn2 → PySem.W.notFirst X.K (T c) (.ref (T c2)) = true) (hu : X.A.units + 64 < cLine) (hr : Room k X.A) : OpR X (compareOp .Eq) (rEqO X T (oEqO tab)) := by
  intro pins s σ H x y v u Q I rx ry ⟨σ', fr, B, ρ, d1, d2, d, E, r1, r2, e, q⟩
  cases d1 with
  | ins c fs =>
    cases d2 with
    | ins c2 fs2 =>
      unfold oEqO at e
      simp only at e
      cases et : tab c with
      | none => rw [et] at e; cases e
      | some fn =>
        cases et2 : tab c2 with
        | none => rw [et, et2] at e; cases e
        | some fn2 =>
          rw [et, et2] at e
          simp only at e
          have hN := hn _ _ _ _ et et2
          obtain ⟨f0, ps, hs, hf, F⟩ := hc c fn et
          have R1 := r1
          have R2 := r2
          cases r1 with
          | ins h1 h2 =>
            cases r2 with
            | ins g1 g2 =>
              cases rx
              cases ry
              obtain ⟨od, J⟩ := Inv.instAt I (E.bh _ _ h1)
              obtain ⟨od2, J2⟩ := Inv.instAt I (E.bh _ _ g1)
              obtain ⟨m, hF⟩ := I.fr
              split at e
              · rename_i b o ev
                cases e
                show wpAny _ _ (richCompare .Eq _ _) _ _ _
                refine PySem.W.cmp_K (op := .Eq) (by omega) hF I.ok.mod.kin J J2.type hN hs hf ?_
                refine wpAny_mono (run_tru (us := [.ref _, .ref _]) (vs := [V.ref _, V.ref _]) (m := "__eq__") (c := c) F hr I.env0 I E (.cons rfl (.cons rfl .nil)) (.cons R1 (.cons R2 .nil)) ev (Q := fun H' => Q (.bl b) H') (fun B' H' s E' => q B' H' _ s E' (.bl b))) (fun w s' z => ?_) fun _ _ x => x
                obtain ⟨rfl, H', I', qz⟩ := z
                exact ⟨.bl b, H', I', rfl, qz⟩
              · cases e
    | _ => cases e
  | _ => cases e
theorem ok_eqO {k : Nat} {tab : Nat → Option FnS} {a b : Expr} {f g : SE} {pos : Pos} (hc : ∀ c fn, tab c = some fn → SpecAt X T k "__eq__" c fn) (hn : ∀ c fn c2 fn2, tab c = some fn → tab c2 = some fn2 → PySem.W.notFirst X.K (T c) (.ref (T c2)) = true) (hu : X.A.units + 64 < cLine) (hr : Room k X.A) (ha : OKE X T W a f) (hb : OKE X T W b g) (hm : behindInMarks .Eq b = false := by first | exact nomark _ | rfl) : OKE X T W (.Compare a [.Eq] [b] pos) (eOp (oEqO tab) f g) :=
  pe_imp (pe_cmpR (op_eqO hc hn hu hr) ha hb hm) fun σ H Q h => readO h
end
theorem nf_self (K : PySem.W.Frag) (C : Addr) : PySem.W.notFirst K C (.ref C) = true := by
  unfold PySem.W.notFirst
  rw [beq_iff_eq.mpr rfl]
  rfl
theorem nf_nil {P : Nat → Prop} : ∀ (c : Nat) (fn : FnS), tabOf (α := FnS) [] c = some fn → P c := fun c fn h => by cases h
theorem nf_cons {P : Nat → Prop} {c0 : Nat} {fn0 : FnS} {l : List (Nat × FnS)} (h0 : P c0) (h : ∀ (c : Nat) (fn : FnS), tabOf l c = some fn → P c) : ∀ (c : Nat) (fn : FnS), tabOf ((c0, fn0) :: l) c = some fn → P c := fun c fn e => by
  unfold tabOf at e
  rw [List.lookup_cons] at e
  split at e
  · rename_i hb
    have z : c = c0 := by simpa using hb
    subst z
    exact h0
  · exact h c fn e
theorem nf2 {l : List (Nat × FnS)} {P : Nat → Nat → Prop} (h : ∀ (c : Nat) (fn : FnS), tabOf l c = some fn → ∀ (c2 : Nat) (fn2 : FnS), tabOf l c2 = some fn2 → P c c2) : ∀ (c : Nat) (fn : FnS) (c2 : Nat) (fn2 : FnS), tabOf l c = some fn → tabOf l c2 = some fn2 → P c c2 := fun c fn c2 fn2 a b => h c fn a c2 fn2 b
end VL
end

section
set_option maxRecDepth 100000
set_option maxHeartbeats 1000000
namespace VL
open PySem L2 PyProof.Rows
section
variable {prog : Program} {w : World} {A : Around} {E : Value → Shared → Prop} {s : Shared} {K : PySem.W.Frag} {x C L f : Addr} {h₀ : Heap} {m : Str → Option Value} {ox : Obj} {od : Option Obj} {b tb : Value}
def NotBack (Q : Value → Shared → Prop) (v : Value) (s' : Shared) : Prop := ∃ t, v = .bool t ∧ Q (.bool (!t)) s'
end
section
variable {X : Cx} {T : TabC} {W : WX}
end
end VL
end

section
namespace VL
open PySem (Str)
def appStep (e : SE) (ds : List D) : SEnv → Out (List D) := fun ρ => match e ρ with
  | .ok d ρ1 => if ds.length < SZ then .ok (ds ++ [d]) ρ1 else .bad
  | _ => .bad
def eLc2 (it : SI) (vs : List Nat) (g : SG) (t : ST) (it1 : SI) (vs1 : List Nat) (g1 : SG) (t1 : ST) (e : SE) : SE := fun ρ => (it ρ).bind fun xs ρ1 =>
  if shOnly ρ1 vs then (match clL vs g t (inStep it1 vs1 g1 t1 (appStep e)) xs [] ρ1 with
    | .ok ds ρ2 => .ok (.lst ds) (backE ρ1 (wipeE ρ2 vs) vs)
    | _ => .bad) else .bad
def eDic0 : SE := fun ρ => .ok (.dic []) ρ
def setK : D → D → D → Option D
  | .dic kvs, k, v => if keyD k = true ∧ kvs.length < SZ then some (.dic (putD kvs k v)) else none
  | _, _, _ => none
def sSetK (i : Nat) (ix v : SE) : SS := fun ρ => (v ρ).bind fun y ρ => if aloneAt ρ i then (ix ρ).bind fun k ρ => reSlot i (fun d => setK d k y) ρ else .bad
def clsIn (cs : List Nat) : D → Bool
  | .ins c _ => cs.contains c
  | _ => false
def fldC (cs : List Nat) (f : Str) (d : D) : Option D := if clsIn cs d = true then fldD f d else none
def putC (cs : List Nat) (f : Str) (v d : D) : Option D := if clsIn cs d = true then fldPut f v d else none
def sFldC (cs : List Nat) (i : Nat) (f : Str) (e : SE) : SS := fun ρ => (e ρ).bind fun v ρ => reSlot i (putC cs f v) ρ
abbrev Clz := (Nat → Option Bool) × Option Nat × (List (Str × D) → SS)
def offR (k : Option Nat) (ρ : SEnv) : SEnv := match k with
  | none => ρ
  | some i => ρ.set i .no
def inR (k : Option Nat) (ρ : SEnv) : Bool := match k with
  | none => true
  | some i => decide (i < ρ.length)
def tryCl : List Clz → Nat → List (Str × D) → SEnv → Out Fl
  | [], c, fs, ρ => .exc c fs ρ
  | (m, k, s) :: r, c, fs, ρ => match m c with
    | some true => if inR k ρ = true then (match s fs (offR k ρ) with
      | .ok fl ρ1 => .ok fl (offR k ρ1)
      | _ => .bad) else .bad
    | some false => tryCl r c fs ρ
    | none => .bad
def sTry (body : SS) (cl : List Clz) : SS := fun ρ => match body ρ with
  | .exc c fs ρ1 => tryCl cl c fs ρ1
  | o => o
abbrev clP (m : Nat → Option Bool) (s : SS) : Clz := (m, none, fun _ => s)
abbrev clN (m : Nat → Option Bool) (i : Nat) (s : List (Str × D) → SS) : Clz := (m, some i, s)
def isClG (ans : Nat → Option Bool) : D → Option D
  | .ins c _ => (ans c).map .bl
  | d => (tyName d).map fun _ => .bl false
def oAddO (c : Nat) (fn : FnS) : D → D → Option D
  | .ins c1 f1, .ins c2 f2 => if c1 = c ∧ c2 = c then (match fn [.ins c1 f1, .ins c2 f2] with
    | some (.val (.ins c3 f3) _) => some (.ins c3 f3)
    | _ => none) else none
  | _, _ => none
def oIsB : D → D → Option D
  | .bl a, .bl b => some (.bl (a == b))
  | _, _ => none
def oIsNB : D → D → Option D
  | .bl a, .bl b => some (.bl (!(a == b)))
  | _, _ => none
def eXf (fs : List (Str × D)) (f : Str) : SE := fun ρ => .opt (fs.lookup f) ρ
end VL
end

section
set_option maxRecDepth 100000
set_option maxHeartbeats 1000000
namespace VL
open PySem L2 PyProof.Rows
abbrev lc2 (x t0 i0 t1 i1 : Expr) (ifs0 ifs1 : List Expr) (scope : Scope) (pos : Pos) : Expr := .ListComp x [⟨t0, i0, ifs0, 0⟩, ⟨t1, i1, ifs1, 0⟩] scope pos
abbrev actApp (x : Expr) (D : Addr) (env : Env) (k : Sem Fin) : Sem Fin := (eval x env >>= fun v => call (.builtin "list.append") [.ref D, v] >>= fun _ => pure ()) >>= fun _ => k
section
variable {x t0 i0 t1 i1 : Expr} {ifs0 ifs1 : List Expr} {scope : Scope} {pos : Pos} {it : Value} {D : Addr} {env : Env} {P : Program} {w : World} {A : Around}
end
section
variable {Z : Cx} {x t0 i0 t1 i1 : Expr} {ifs0 ifs1 : List Expr} {scope : Scope} {pos : Pos} {D : Addr}
def taApp (te : TE) (D : Addr) : L2.St → Hp → (Hp → Prop) → Prop := fun σ H Nx => te σ H fun y H1 => ∃ xs, H1 D = some (.lst xs) ∧ xs.length < sizeLine ∧ Nx (upd H1 D (.lst (xs ++ [y])))
end
section
variable {X : Cx}
def tLc2 (wi : TI) (g : TG) (tt : TT) (wi1 : TI) (g1 : TG) (tt1 : TT) (te : TE) (vs vs1 : List Nat) : TE := fun σ H Q => wi σ H fun J H1 => ∀ D, H1 D = none → ∃ Wi, (∃ m, Wi 0 m (upd H1 D (.lst []))) ∧ Clause J (wipe σ vs) g tt (taOut wi1 g1 tt1 (taApp te D) vs1) (fun H2 => Q (.ref D) H2) Wi
end
end VL
end

section
set_option maxRecDepth 100000
set_option maxHeartbeats 1000000
namespace VL
open PySem L2 PyProof.Rows
section
variable {K : PySem.W.Frag} {T : TabC} {fr : Frm}
end
section
variable {X : Cx} {T : TabC} {W : WX}
end
end VL
end

section
set_option maxRecDepth 100000
set_option maxHeartbeats 1000000
namespace VL
open PySem L2 PyProof.Rows
section
variable {X : Cx} {T : TabC} {W : WX}
theorem okB_eqO {k : Nat} {tab : Nat → Option FnS} {a b : Expr} {f g : SE} {pos : Pos} (hc : ∀ c fn, tab c = some fn → SpecAt X T k "__eq__" c fn) (hn : ∀ c fn c2 fn2, tab c = some fn → tab c2 = some fn2 → PySem.W.notFirst X.K (T c) (.ref (T c2)) = true) (hu : X.A.units + 64 < cLine) (hr : Room k X.A) (ha : OKE X T W a f) (hb : OKE X T W b g) (hm : behindInMarks .Eq b = false := by first | exact nomark _ | rfl) : OKB X T W (.Compare a [.Eq] [b] pos) (tE (eOp (oEqO tab) f g)) :=
  okB_of (ok_eqO hc hn hu hr ha hb hm) (pt_imp2 (pt_cmpR (op_eqO hc hn hu hr) ha hb hm) fun σ H Q h => readO h)
end
end VL
end

section
set_option maxRecDepth 100000
set_option maxHeartbeats 1000000
namespace VL
open PySem L2 PyProof.Rows
section
variable {X : Cx} {T : TabC} {W : WX}
end
end VL
end

section
set_option maxRecDepth 100000
set_option maxHeartbeats 1000000
namespace VL
open PySem L2 PyProof.Rows
section
variable {X : Cx} {T : TabC} {W : WX}
end
end VL
end

section
set_option maxRecDepth 100000
set_option maxHeartbeats 1000000
namespace VL
open PySem L2 PyProof.Rows
section
variable {X : Cx} {T : TabC} {W : WX}
structure ExCls (X : Cx) (T : TabC) (c : Nat) (x : Str) (B newId initId : String) (bm : List Value) : Prop where
  base : ExcBaseFacts B newId initId bm
  made : PySem.W.excIn X.K (T.ex c) bm newId = true
  kept : PySem.W.keepIn X.K (.ref (T.ex c)) = true
  name : X.mg x = some (.ref (T.ex c))
  sub : PySem.W.subIn X.K (.ref (T.ex c)) (.type "BaseException") = some true
  typ : PySem.W.typeIn X.K (.ref (T.ex c)) = some (.type "type")
theorem okS_raise0 {c : Nat} {x m : Str} {B newId initId : String} {bm : List Value} {j : Nat} {p p2 pos pos' : Pos} (hc : X.calm = true) (tk : Takes X W) (F : ExCls X T c x B newId initId bm) (hg : Gl X x) (hd : (x == ("__debug__" : Str)) = false := by decide) :
    OKS X T W (.Raise (some (.Call (.Name x p) [.Constant (.str m) j p2] [] pos)) none pos') (sRaise c none aNil) :=
  ps_imp (ps_raise hc tk (pmk_own F.base F.made F.name F.kept (raises_own F.sub F.typ) hg hd)) fun D σ H ⟨fr, B, ρ, E, p⟩ => p B H σ (.ref (T.ex c)) none (Same.refl _) E ⟨rfl, .inl rfl⟩
end
end VL
end

section
set_option maxRecDepth 100000
set_option maxHeartbeats 2000000
namespace VL
open PySem L2 PyProof.Rows
abbrev Cl3 := Value × Option Nat × (Addr → Value → Option Addr → TS)
def offE (k : Option Nat) (D : Ends) : Ends := match k with
  | none => D
  | some i => { nx := fun τ G => D.nx (τ.set i none) G, rt := D.rt, bk := fun τ G => D.bk (τ.set i none) G, ct := fun τ G => D.ct (τ.set i none) G }
def onS (k : Option Nat) (a : Addr) (τ : L2.St) : L2.St := match k with
  | none => τ
  | some i => τ.set i (some (.ref a))
def wMix (K : PySem.W.Frag) (Wo : WX) (D : Ends) : List Cl3 → WX
  | [] => Wo
  | (c, k, ts) :: r => fun cl d τ G => ∃ t, PySem.W.exmOne K cl c = some t ∧ (t = true → ∀ a, G a = none → ts a cl d (offE k D) (onS k a τ) G) ∧ (t = false → wMix K Wo D r cl d τ G)
inductive ClsOk (X : Cx) : List ExceptHandler → List Cl3 → Prop
  | nil : ClsOk X [] []
  | plain {x : Str} {c : Value} {ts : Addr → Value → Option Addr → TS} {b : Stmt} {bs : List Stmt} {p p' : Pos} {hs : List ExceptHandler} {l : List Cl3} (nm : Names X x c)
      (su : ∀ (a : Addr) (oe : Obj) (cl : Value) (d : Option Addr) (pn : List (Addr × Obj)), Zc cl d oe → (∃ vs, oe.data = .fields vs) → PSs (X.suite a ((a, oe) :: pn)) (b :: bs) (ts a cl d))
      (r : ClsOk X hs l) : ClsOk X (.ExceptHandler (some (.Name x p)) none (b :: bs) p' :: hs) ((c, none, ts) :: l)
  | named {x n : Str} {c : Value} {i : Nat} {ts : Addr → Value → Option Addr → TS} {b : Stmt} {bs : List Stmt} {p p' : Pos} {hs : List ExceptHandler} {l : List Cl3} (nm : Names X x c) (hi : X.N[i]? = some n) (hl : X.env.kindOf n = some .local)
      (su : ∀ (a : Addr) (oe : Obj) (cl : Value) (d : Option Addr) (pn : List (Addr × Obj)), Zc cl d oe → (∃ vs, oe.data = .fields vs) → PSs (X.suite a ((a, oe) :: pn)) (b :: bs) (ts a cl d))
      (r : ClsOk X hs l) : ClsOk X (.ExceptHandler (some (.Name x p)) (some n) (b :: bs) p' :: hs) ((c, some i, ts) :: l)
section
variable {X : Cx} {body : List Stmt} {h0 : ExceptHandler} {hs : List ExceptHandler} {l : List Cl3} {pos : Pos} {tb : WX → TS} {Wo : WX}
theorem flow_out {Y : Cx} {ps qs : List (Addr × Obj)} {D : Ends} {f : Flow} {s : Shared} (back : ∀ τ G, Inv Y ps τ G s → Inv X qs τ G s) (z : L2.SP Y ps D f s) : L2.SP X qs D f s := by
  cases f with
  | next => exact let ⟨τ, G, J, q⟩ := z; ⟨τ, G, back τ G J, q⟩
  | brk => exact let ⟨τ, G, J, q⟩ := z; ⟨τ, G, back τ G J, q⟩
  | cont => exact let ⟨τ, G, J, q⟩ := z; ⟨τ, G, back τ G J, q⟩
  | ret u => exact let ⟨v, τ, G, J, rv, q⟩ := z; ⟨v, τ, G, back τ G J, rv, q⟩
theorem ps_try_mix (nN : X.N.Nodup) (st : X.stack = X.env :: X.outer) (fr : X.env.frame = some X.env.locals) (tk : Takes X Wo)
    (hb : ∀ (W : WX) (pn : List (Addr × Obj)) (xe : Value → Shared → Prop), Takes (X.tr pn xe) W → PassesOwn (model X.prog X.w) X.A X.env xe → PSs (X.tr pn xe) body (tb W)) (ok : ClsOk X (h0 :: hs) l) :
    PS X (.Try body (h0 :: hs) [] [] pos) (fun D τ G => tb (wMix X.K Wo D l) D τ G) := by
  constructor
  intro ps s τ G D I hz
  have o := I.ok
  have fs : X.A.frames = some (X.env :: X.outer) := o.frames.trans (by rw [st])
  apply wpAny_Try_except
  let xe : Value → Shared → Prop := fun e s1 => wpAny (model X.prog X.w) X.A (noteFrame e X.env)
    (fun _ s2 => wpAny (model X.prog X.w) X.A (setFlight e none)
      (fun _ s3 => wpAny (model X.prog X.w) X.A (handleBy e X.env (h0 :: hs)) (L2.SP X ps D) X.xe s3) X.xe s2) X.xe s1
  have catch_ : Takes (X.tr (X.pn ++ ps) xe) (wMix X.K Wo D l) := by
    rintro u s1 ⟨a, B, s0, qs, σ1, H1, cl, d, rfl, J0, nb, up, sk, na, os, ag, w⟩
    have J1 : Inv X ps σ1 H1 s0 := J0.ofTry o
    have sk1 : Sky B (X.env :: X.outer) a (Zc cl d) X.env.locals s1.heap := st ▸ sk
    apply Sky.land Zc.steady fs fr sk1
    intro g fg ug
    have Jg : Inv X ps σ1 H1 { s1 with heap := g } := J1.landed nb fg.1 (up.trans ug) os ag
    have off : ∀ {h : Heap} {oe : Obj} {vs : Array Value}, h.FunFrames B (X.env :: X.outer) → h.get? a = some oe →
        oe.data = .fields vs → a ∉ frs (X.env :: X.outer) := by
      intro h oe vs ff eo dd mem
      obtain ⟨_, o2, e2, no⟩ := ff.mem mem
      cases eo.symm.trans e2
      exact no _ dd
    obtain ⟨og, vg, eg, zg, dg⟩ := fg.there
    have out := off fg.2.2.1 eg dg
    have ne1 : a ≠ X.env.locals := by
      intro z
      exact out (List.mem_filterMap.mpr ⟨X.env, List.mem_cons_self, fr.trans (by rw [z])⟩)
    have ne2 : a ∉ X.fs := by
      intro mem
      obtain ⟨y, hy, q⟩ := List.mem_filterMap.mp mem
      exact out (List.mem_filterMap.mpr ⟨y, List.mem_cons_of_mem _ hy, q⟩)
    have Sg := Jg.suite eg dg na ne1 ne2
    have typ : PySem.W.Looks (model X.prog X.w) g (typeOf (.ref a)) cl := by
      intro A Q E s k q
      exact wpAny_typeOf_ref (k _ _ eg) (zg.1.symm ▸ q)
    -- the class of a clause, read
    have cls_ : ∀ {x : Str} {c : Value} {p : Pos} {Q E : Value → Shared → Prop}, Names X x c → Q c { s1 with heap := g } →
        wpAny (model X.prog X.w) (X.A.mark (some (.ref a))) (eval (.Name x p) X.env) Q E { s1 with heap := g } := by
      rintro x c p Q E ⟨g1, g2, m | ⟨m, v, n⟩⟩ q
      · exact ld_glob (X := X.suite a ((a, og) :: (X.pn ++ ps))) Sg g1 m q g2
      · exact ld_blt (X := X.suite a ((a, og) :: (X.pn ++ ps))) Sg g1 m v q n g2
    have all_ : ∀ {hs1 : List ExceptHandler} {l1 : List Cl3}, ClsOk X hs1 l1 → wMix X.K Wo D l1 cl d σ1 H1 →
        wpAny (model X.prog X.w) X.A (handleBy (.ref a) X.env hs1) (L2.SP X ps D) X.xe { s1 with heap := g } := by
      intro hs1 l1 k
      induction k with
      | nil =>
        intro w1
        apply wpAny_handleBy_nil
        have ⟨_, _, _, oe, vs, Tb, _, _, he, _, hd, h1, _⟩ := fg
        unfold PySem.passOn
        apply wpAny_bind
        apply wpAny_field he hd h1
        rw [if_neg (show ¬ ((Value.ref Tb == Value.none) = true) by simp)]
        have fly : wpAny (model X.prog X.w) X.A (setFlight (.ref a) X.env.frame)
            (fun _ s4 => wpAny (model X.prog X.w) X.A (throw (.ref a) : Sem Flow) (L2.SP X ps D) X.xe s4) X.xe { s1 with heap := g } := by
          rw [fr]
          apply HandSPX.setFlight_upZ fg
          intro h4 k4 u4
          apply wpAny_throw
          exact tk _ _ ⟨a, B, s0, ps, σ1, H1, cl, d, rfl, J1, nb, (up.trans ug).trans u4, .inr (.inr (st.symm ▸ k4)), na, os, ag, w1⟩
        first
          | exact wpAny_bind fly
          | exact wpAny_bind (wpAny_pure (wpAny_bind fly))
      | @plain x c ts b bs p p' hs2 l2 nm su r ih =>
        rintro ⟨t, ht, yes, no⟩
        refine wpAny_handleBy_cons (codeAny_handlers_test (cls_ nm ((PySem.W.exm_one Jg.kIn typ ht).here ?_))) (by intro q; cases q)
        cases t with
        | false => exact ih (no rfl)
        | true =>
          apply codeAny_handlers_suite
          apply HandSPX.lands_againZ fg
          intro h4 f4 u4
          have J4 : Inv X ps σ1 H1 { s1 with heap := h4 } := J1.landed nb f4.1 ((up.trans ug).trans u4) os ag
          obtain ⟨o4, v4, e4, z4, d4⟩ := f4.there
          have run := (su a o4 cl d (X.pn ++ ps) z4 ⟨_, d4⟩).run [] _ _ H1 _ (J4.suite e4 d4 na ne1 ne2) (yes rfl a na)
          exact wpAny_mono run (fun f s6 z => flow_out (fun _ _ S => S.unsuite o) z) fun _ _ z => False.elim z
      | @named x n c i ts b bs p p' hs2 l2 nm hi hl su r ih =>
        rintro ⟨t, ht, yes, no⟩
        refine wpAny_handleBy_cons (codeAny_handlers_test (cls_ nm ((PySem.W.exm_one Jg.kIn typ ht).here ?_))) (by intro q; cases q)
        cases t with
        | false => exact ih (no rfl)
        | true =>
          apply codeAny_handlers_suite_as
          apply HandSPX.lands_againZ fg
          intro h4 f4 u4
          have J4 : Inv X ps σ1 H1 { s1 with heap := h4 } := J1.landed nb f4.1 ((up.trans ug).trans u4) os ag
          obtain ⟨o4, v4, e4, z4, d4⟩ := f4.there
          have S4 := J4.suite e4 d4 na ne1 ne2
          refine store_ok (X := X.suite a ((a, o4) :: (X.pn ++ ps))) (v := .ref a) S4 nN hi (.inl hl) rfl (fun s5 S5 => ?_) (.inr hl)
          have run := (su a o4 cl d (X.pn ++ ps) z4 ⟨_, d4⟩).run [] s5 _ H1 _ S5 (yes rfl a na)
          refine wpAny_mono run (fun f s6 z => ?_) fun _ _ z => False.elim z
          have gone : ∀ {σ6 : L2.St} {H6 : Hp} {Q : Shared → Prop}, Inv (X.suite a ((a, o4) :: (X.pn ++ ps))) [] σ6 H6 s6 → (∀ s7, Inv X ps (σ6.set i none) H6 s7 → Q s7) →
              wpAny (model X.prog X.w) X.A (do
                bindName X.env n .none
                unbindBehindTheSuite X.env n p') (fun _ s7 => Q s7) X.xe s6 := by
            intro σ6 H6 Q S hq
            exact gone_ok (S.unsuite o) nN hi hl hq
          cases f with
          | next => exact let ⟨_, _, S, q⟩ := z; gone S fun s7 J => ⟨_, _, J, q⟩
          | brk => exact let ⟨_, _, S, q⟩ := z; gone S fun s7 J => ⟨_, _, J, q⟩
          | cont => exact let ⟨_, _, S, q⟩ := z; gone S fun s7 J => ⟨_, _, J, q⟩
          | ret u => exact let ⟨_, _, _, S, rv, q⟩ := z; gone S fun s7 J => ⟨_, _, _, J, rv, q⟩
    exact all_ ok w
  have run := (hb (wMix X.K Wo D l) (X.pn ++ ps) xe catch_ PassesOwn.looking).run [] s τ G D (I.toTry _) hz
  refine wpAny_mono run (fun f s1 z => ?_) fun _ _ z => z
  cases f with
  | next => exact let ⟨σ1, H1, J, q⟩ := z; wpAny_execs_nil ⟨σ1, H1, J.ofTry o, q⟩
  | brk => exact let ⟨σ1, H1, J, q⟩ := z; ⟨σ1, H1, J.ofTry o, q⟩
  | cont => exact let ⟨σ1, H1, J, q⟩ := z; ⟨σ1, H1, J.ofTry o, q⟩
  | ret u => exact let ⟨v, σ1, H1, J, rv, q⟩ := z; ⟨v, σ1, H1, J.ofTry o, rv, q⟩
end
end VL
end

section
set_option maxRecDepth 100000
set_option maxHeartbeats 1000000
namespace VL
open PySem L2 PyProof.Rows
def Wn : WX := fun _ _ _ _ => False
def Kx (K : PySem.W.Frag) (T : TabC) (a : Addr) (d : Option Addr) (i : Nat) (fs : List (Str × D)) (fr : Frm) (B : Hp) (σ : L2.St) : Prop :=
  σ[i]? = some (some (.ref a)) ∧ (fs = [] ∨ ∃ dd vfs, d = some dd ∧ (fr.F dd = some (.xd vfs) ∨ B dd = some (.xd vfs)) ∧ RepF K T B fs vfs)
theorem Kx.mono {K : PySem.W.Frag} {T : TabC} {a : Addr} {d : Option Addr} {i : Nat} {fs : List (Str × D)} {fr : Frm} {B B' : Hp} {σ : L2.St} (s : Same B B') (k : Kx K T a d i fs fr B σ) : Kx K T a d i fs fr B' σ := by
  refine ⟨k.1, ?_⟩
  rcases k.2 with h | ⟨dd, vfs, h1, h2, h3⟩
  · exact .inl h
  · exact .inr ⟨dd, vfs, h1, h2.imp id (s _ _), h3.mono s⟩
def rdX (K : PySem.W.Frag) (T : TabC) (W : WX) (a : Addr) (d : Option Addr) (i : Nat) (fs : List (Str × D)) (f : SS) : TS := fun D' σ H => ∃ fr B ρ, Kx K T a d i fs fr B σ ∧ EnvOk K T fr B H ρ σ ∧ PostS K T fr W B D' (f ρ)
section
variable {K : PySem.W.Frag} {T : TabC} {fr : Frm} {B H : Hp} {ρ : SEnv} {σ : L2.St}
theorem EnvOk.maskX {dd : Addr} {vfs : List (Str × V)} (E : EnvOk K T fr B H ρ σ) (h : H dd = some (.xd vfs)) (hb : B dd = none) : EnvOk K T (fr.mask dd (.xd vfs)) B H ρ σ := by
  have ne_ : ∀ {a : Addr} {d : D}, ObjAt K T B H a d → a ≠ dd := by
    rintro a d o rfl
    cases d with
    | lst xs => obtain ⟨vs, e, _⟩ := o; rw [h] at e; cases e
    | ins c fs => obtain ⟨dx, vs, e, _⟩ := o; rw [h] at e; cases e
    | dic kvs => obtain ⟨vs, e, _⟩ := o; rw [h] at e; cases e
    | dct kvs => obtain ⟨vs, e, _⟩ := o; rw [h] at e; cases e
    | _ => exact o.elim
  have fm : ∀ {a : Addr}, a ≠ dd → fr.F a = none → (fr.mask dd (.xd vfs)).F a = none := fun {a} z e => by
    show upd fr.F dd _ a = none
    rw [upd_ne z]; exact e
  refine ⟨E.bh, E.b0, fun b u e => ?_, E.ih, fun a ha => ?_, E.len, fun i s q => ?_, E.dis⟩
  · by_cases z : b = dd
    · subst z
      have e' : upd fr.F b (.xd vfs) b = some u := e
      rw [upd_same] at e'
      rw [← e']; exact h
    · have e' : upd fr.F dd (.xd vfs) b = some u := e
      rw [upd_ne z] at e'; exact E.fh _ _ e'
  · rcases E.bf a ha with z | ⟨h1, h2⟩
    · exact .inl z
    · exact .inr ⟨fm (fun z => by subst z; exact ha hb) h1, h2⟩
  · have z := E.slot i s q
    cases s with
    | no => trivial
    | sh d => exact z
    | own d =>
      obtain ⟨a, h1, ⟨h2, h3, h4, h5⟩⟩ := z
      exact ⟨a, h1, ⟨h2, fm (ne_ h5) h3, h4, h5⟩⟩
    | io d =>
      obtain ⟨a, h1, h2, h3, h4, h5⟩ := z
      exact ⟨a, h1, h2, h3, fm (ne_ h5) h4, h5⟩
theorem EnvOk.unmaskX {dd : Addr} {o : HO} {B' H' : Hp} {ρ' : SEnv} {σ' : L2.St} (E : EnvOk K T (fr.mask dd o) B' H' ρ' σ') (hf : fr.F dd = none ∨ fr.F dd = some o) : EnvOk K T fr B' H' ρ' σ' ∧ ∀ a, (fr.mask dd o).F a = none → fr.F a = none := by
  have fu : ∀ {a : Addr}, (fr.mask dd o).F a = none → fr.F a = none := fun {a} h => by
    have h' : upd fr.F dd o a = none := h
    by_cases z : a = dd
    · subst z; rw [upd_same] at h'; cases h'
    · rw [upd_ne z] at h'; exact h'
  refine ⟨⟨E.bh, E.b0, fun b u e => E.fh b u ?_, E.ih, fun a ha => ?_, E.len, fun i s q => ?_, E.dis⟩, fun a => fu⟩
  · show upd fr.F dd o b = some u
    by_cases z : b = dd
    · subst z
      rw [upd_same]
      rcases hf with hf | hf
      · rw [hf] at e; cases e
      · rw [hf] at e; exact e
    · rw [upd_ne z]; exact e
  · rcases E.bf a ha with h | ⟨h1, h2⟩
    · exact .inl h
    · exact .inr ⟨fu h1, h2⟩
  · have z := E.slot i s q
    cases s with
    | no => trivial
    | sh d => exact z
    | own d =>
      obtain ⟨a, h1, ⟨h2, h3, h4, h5⟩⟩ := z
      exact ⟨a, h1, ⟨h2, fu h3, h4, h5⟩⟩
    | io d =>
      obtain ⟨a, h1, h2, h3, h4, h5⟩ := z
      exact ⟨a, h1, h2, h3, fu h4, h5⟩
theorem Apart.setNo {i : Nat} {v : Option V} {a : Addr} (ap : Apart ρ σ a) : Apart (ρ.set i .no) (σ.set i v) a := fun j s q al e => by
  rcases get_set_cases q with ⟨rfl, rfl⟩ | ⟨hne, q⟩
  · cases al
  · rw [List.getElem?_set_ne (fun z => hne z.symm)] at e
    exact ap j s q al e
end
section
variable {X : Cx} {T : TabC} {W : WX}
inductive ClzOk (X : Cx) (T : TabC) : List ExceptHandler → List Clz → List Cl3 → Prop
  | nil : ClzOk X T [] [] []
  | cons {x : Str} {c : Value} {m : Nat → Option Bool} {f : SS} {b : Stmt} {bs : List Stmt} {p p' : Pos} {hs : List ExceptHandler} {cl : List Clz} {l : List Cl3} (nm : Names X x c)
      (hm : ∀ n t, m n = some t → PySem.W.exmOne X.K (.ref (T.ex n)) c = some t)
      (su : ∀ (a : Addr) (oe : Obj) (pn : List (Addr × Obj)), OKSs (X.suite a ((a, oe) :: pn)) T Wn (b :: bs) f) (r : ClzOk X T hs cl l) :
      ClzOk X T (.ExceptHandler (some (.Name x p)) none (b :: bs) p' :: hs) ((m, none, fun _ => f) :: cl) ((c, none, fun _ _ _ => rdS X.K T Wn f) :: l)
  | named {x n : Str} {c : Value} {i c0 : Nat} {m : Nat → Option Bool} {f : List (Str × D) → SS} {b : Stmt} {bs : List Stmt} {p p' : Pos} {hs : List ExceptHandler} {cl : List Clz} {l : List Cl3} (nm : Names X x c)
      (hi : X.N[i]? = some n) (hl : X.env.kindOf n = some .local)
      (hm : ∀ n t, m n = some t → PySem.W.exmOne X.K (.ref (T.ex n)) c = some t) (h1 : ∀ n, m n = some true → n = c0)
      (su : ∀ (a : Addr) (oe : Obj) (d : Option Addr) (pn : List (Addr × Obj)) (fs : List (Str × D)), Zc (.ref (T.ex c0)) d oe → (∃ vs, oe.data = .fields vs) → PSs (X.suite a ((a, oe) :: pn)) (b :: bs) (rdX X.K T Wn a d i fs (f fs))) (r : ClzOk X T hs cl l) :
      ClzOk X T (.ExceptHandler (some (.Name x p)) (some n) (b :: bs) p' :: hs) ((m, some i, f) :: cl) ((c, some i, fun a cv d D' σ H => cv = .ref (T.ex c0) ∧ ∃ fs, rdX X.K T Wn a d i fs (f fs) D' σ H) :: l)
theorem ClzOk.cls {hs : List ExceptHandler} {cl : List Clz} {l : List Cl3} (k : ClzOk X T hs cl l) : ClsOk X hs l := by
  induction k with
  | nil => exact .nil
  | cons nm hm su r ih => exact .plain nm (fun a oe _ _ pn _ _ => su a oe pn) ih
  | named nm hi hl hm h1 su r ih => exact .named nm hi hl (fun a oe cv d pn z hf => ⟨fun pins s σ H D I ⟨e, fs, q⟩ => by
      subst e
      exact (su a oe d pn fs z hf).run pins s σ H D I q⟩) ih
theorem tryCl_post {fr : Frm} {B1 H1 : Hp} {ρ1 : SEnv} {σ1 : L2.St} {D' : Ends} {c : Nat} {fs : List (Str × D)} {od : Option Addr} (E : EnvOk X.K T fr B1 H1 ρ1 σ1) (ea : ExcAt X.K T B1 H1 c fs (.ref (T.ex c)) od) :
    ∀ {hs : List ExceptHandler} {cl : List Clz} {l : List Cl3}, ClzOk X T hs cl l → (∀ o, tryCl cl c fs ρ1 = o → PostS X.K T fr W B1 D' o) → wMix X.K W D' l (.ref (T.ex c)) od σ1 H1
  | _, _, _, .nil, p => p _ rfl B1 H1 σ1 _ _ (Same.refl _) E ea
  | _, _, _, .cons (m := m) (f := f) (cl := cl) nm hm su r, p => by
    have q := p _ rfl
    unfold tryCl at q
    cases e : m c with
    | none => rw [e] at q; exact q.elim
    | some t =>
      refine ⟨t, hm c t e, fun z a _ => ?_, fun z => ?_⟩
      · subst z
        rw [e] at q
        refine ⟨fr, B1, ρ1, E, ?_⟩
        show PostS X.K T fr Wn B1 D' (f ρ1)
        have q : PostS X.K T fr W B1 D' (match f ρ1 with | .ok fl ρ1 => .ok fl ρ1 | _ => .bad) := q
        cases e2 : f ρ1 with
        | ok fl ρ2 => simp only [e2] at q; exact q
        | exc c2 fs2 ρ2 => simp only [e2] at q; exact q.elim
        | bad => simp only [e2] at q; exact q.elim
      · subst z
        rw [e] at q
        exact tryCl_post E ea r fun o ho => by rw [← ho]; exact q
  | _, _, _, .named (i := i) (c0 := c0) (m := m) (f := f) (cl := cl) nm hi hl hm h1 su r, p => by
    have q := p _ rfl
    unfold tryCl at q
    cases e : m c with
    | none => rw [e] at q; exact q.elim
    | some t =>
      refine ⟨t, hm c t e, fun z a _ => ?_, fun z => ?_⟩
      · subst z
        rw [e] at q
        obtain rfl := h1 c e
        have q : PostS X.K T fr W B1 D' (if inR (some i) ρ1 = true then (match f fs (ρ1.set i .no) with | .ok fl ρ2 => .ok fl (ρ2.set i .no) | _ => .bad) else .bad) := q
        by_cases hin : inR (some i) ρ1 = true
        · rw [if_pos hin] at q
          have hlt : i < σ1.length := by
            rw [← E.len]
            exact of_decide_eq_true hin
          have sl : (σ1.set i (some (V.ref a)))[i]? = some (some (.ref a)) := List.getElem?_set_self hlt
          -- the frame of the suite
          have key : ∀ fr' : Frm, EnvOk X.K T fr' B1 H1 ρ1 σ1 → Kx X.K T a od i fs fr' B1 (σ1.set i (some (.ref a))) →
              (∀ {B2 H2 ρ2 σ2}, EnvOk X.K T fr' B2 H2 ρ2 σ2 → EnvOk X.K T fr B2 H2 ρ2 σ2) → (∀ a, fr'.F a = none → fr.F a = none) → (∀ k, fr'.ia k = fr.ia k) →
              ∃ fs, rdX X.K T Wn a od i fs (f fs) (offE (some i) D') (onS (some i) a σ1) H1 := fun fr' E' kx back fb ib => by
            refine ⟨fs, fr', B1, ρ1.set i .no, kx, E'.setNo, ?_⟩
            cases e2 : f fs (ρ1.set i .no) with
            | exc c2 fs2 ρ2 => simp only [e2] at q; exact q.elim
            | bad => simp only [e2] at q; exact q.elim
            | ok fl ρ2 =>
              simp only [e2] at q
              intro B2 H2 σ2 s2 E2
              have z := q B2 H2 (σ2.set i none) s2 (back E2).setNo
              cases fl with
              | nx => exact z
              | bk => exact z
              | ct => exact z
              | rt d => exact z
              | ro d => exact fun b ow ap => z b ⟨ow.b, fb _ ow.f, fun k y => ow.i k ((ib k).trans y), ow.o⟩ ap.setNo
          refine ⟨rfl, ?_⟩
          rcases ea.2 with h0 | ⟨dd, vfs, e1, e2, e3⟩
          · exact key fr E ⟨sl, .inl h0⟩ (fun E => E) (fun _ h => h) fun _ => rfl
          · cases hb : B1 dd with
            | some o =>
              have ho : o = .xd vfs := by
                have := E.bh _ _ hb
                rw [e2] at this
                exact (Option.some.inj this).symm
              subst ho
              exact key fr E ⟨sl, .inr ⟨dd, vfs, e1, .inr hb, e3⟩⟩ (fun E => E) (fun _ h => h) fun _ => rfl
            | none =>
              have hF : fr.F dd = none ∨ fr.F dd = some (.xd vfs) := by
                cases z : fr.F dd with
                | none => exact .inl rfl
                | some o =>
                  have := E.fh _ _ z
                  rw [e2] at this
                  exact .inr this.symm
              exact key (fr.mask dd (.xd vfs)) (E.maskX e2 hb) ⟨sl, .inr ⟨dd, vfs, e1, .inl upd_same, e3⟩⟩ (fun E2 => (E2.unmaskX hF).1) (E.maskX e2 hb |>.unmaskX hF).2 fun _ => rfl
        · rw [if_neg hin] at q
          exact q.elim
      · subst z
        rw [e] at q
        exact tryCl_post E ea r fun o ho => by rw [← ho]; exact q
theorem okS_try {body : List Stmt} {h0 : ExceptHandler} {hs : List ExceptHandler} {cl : List Clz} {l : List Cl3} {fb : SS} {pos : Pos} (nN : X.N.Nodup) (tk : Takes X W)
    (hb : ∀ (W : WX) (pn : List (Addr × Obj)) (xe : Value → Shared → Prop), Takes (X.tr pn xe) W → PassesOwn (model X.prog X.w) X.A X.env xe → OKSs (X.tr pn xe) T W body fb) (hc : ClzOk X T (h0 :: hs) cl l)
    (st : X.stack = X.env :: X.outer := by rfl) (fr : X.env.frame = some X.env.locals := by rfl) : OKS X T W (.Try body (h0 :: hs) [] [] pos) (sTry fb cl) :=
  ps_imp (ps_try_mix (tb := fun W => rdS X.K T W fb) (Wo := W) nN st fr tk hb hc.cls) fun D' σ H ⟨fr, B, ρ, E, p⟩ => ⟨fr, B, ρ, E, by
    unfold sTry at p
    cases e : fb ρ with
    | ok fl ρ1 => simp only [e] at p; exact p
    | bad => simp only [e] at p; exact p.elim
    | exc c fs ρ1 =>
      simp only [e] at p
      intro B1 H1 σ1 cv od s1 E1 ea
      obtain rfl : cv = .ref (T.ex c) := ea.1
      exact tryCl_post E1 ea hc fun o ho => by rw [ho] at p; exact PostS.mono s1 p⟩
end
end VL
end

section
set_option maxRecDepth 100000
set_option maxHeartbeats 2000000
namespace VL
open PySem L2 PyProof.Rows
def spSup (C : Addr) (f : Str) : Sp := fun vs H Q E => ∃ (a : Addr) (y : V), vs = [.ref a, y] ∧ H a = some (exo a C none) ∧ ∀ dx, H dx = none → dx ≠ a → Q .non (upd (upd H dx (exd dx [(f, y)])) a (exo a C (some dx)))
structure SupC (P : Program) (K : PySem.W.Frag) (mg : Str → Option Value) (C : Addr) (f : Str) : Prop where
  oc : OexC K C
  no : PySem.W.findIn K (.ref C) f = some none
  up : PySem.W.ks_superIn K C C "__init__" = some (some (.builtin "ValueError.__init__"))
  tp : PySem.W.nsIn K PySem.cStatics "thirdparty.any" = some none
  ve : PySem.W.subIn K (.ref C) (.type "ValueError") = some true
  ms : PySem.W.mroIn K C (.ref C) = some true
  mg : mg "super" = none
  top : (P.main.scope.names.lookup ("super" : Str)).isSome = false
section
variable {P : Program} {w : World} {K : PySem.W.Frag} {mg : Str → Option Value} {base : Heap} {CX : CXT}
theorem fn_super {k : Nat} {fI C cc cda : Addr} {qual sf n f m file : Str} {tf : Tok} {params : Arguments} {scope : Scope} {dV kV doc pm ct oc ccl cl : Value} {an od cdd cld : Option Addr} {osl ccs csl : Array (Option Value)} {vs : Array Value}
    {j : Nat} {p0 p1 p2 p3 p4 p5 p6 p7 p8 p9 : Pos} {ar : Arg}
    (S : SupC P K mg C f)
    (lk : K.lookup fI = some ⟨oc, od, .func (PySem.W.ksFn "__init__" qual params [.Expr (.Call (.Attribute (.Call (.Name "super" p0) [] [] p1) "__init__" p2) [.Constant (.str m) j p3] [] p4) p5, .Assign [.Attribute (.Name sf p6) f p7] (.Name n p8) p9] scope dV kV doc pm an (.ref cda) ct cc), osl⟩)
    (hcd : PySem.W.codeIn K (.ref cda) qual = true) (hcode : K.lookup cda = some ⟨ccl, cdd, .fields vs, ccs⟩) (hvs : vs[2]? = some (.str file tf)) (hfile : ((P.main.file : Str) == file) = true)
    (hcell : K.lookup cc = some ⟨cl, cld, .cell (some (.ref C)), csl⟩)
    (hp : (params.posonlyargs ++ params.args).head? = some ar) (har : ar.arg = sf)
    (hks : scope.names.lookup ("super" : Str) = some .globalImplicit) (hkc : scope.names.lookup ("__class__" : Str) = some .free) (hk1 : scope.names.lookup sf = some .local) (hk2 : scope.names.lookup n = some .local)
    (hne : (sf == n) = false) (d1 : (sf == ("__debug__" : Str)) = false) (d2 : (n == ("__debug__" : Str)) = false)
    {pl : Sem Bool}
    (he : ∀ env : Env, eval (.Call (.Attribute (.Call (.Name "super" p0) [] [] p1) "__init__" p2) [.Constant (.str m) j p3] [] p4) env = (do
      let ov ← attributeBase (.Call (.Name "super" p0) [] [] p1) "__init__" env (eval (.Call (.Name "super" p0) [] [] p1) env)
      standAt p2.atName
      let (f, first) ← holding [ov] (getMethod ov "__init__" pl)
      callWith p4 f first (backTo p4 (starEach [.Constant (.str m) j p3] env)) []))
    (hnc : ∀ x ∈ scope.names, x.2 ≠ .cell) (hco : scope.isCoroutine = false) (hgen : scope.isGenerator = false) (hk : scope.kind = .function) :
    FnOk P w K mg base CX (k + 1) fI (PySem.W.ksFn "__init__" qual params [.Expr (.Call (.Attribute (.Call (.Name "super" p0) [] [] p1) "__init__" p2) [.Constant (.str m) j p3] [] p4) p5, .Assign [.Attribute (.Name sf p6) f p7] (.Name n p8) p9] scope dV kV doc pm an (.ref cda) ct cc) [sf, n] (spSup C f) := by
  refine ⟨fun vs H Q E ⟨a, y, e, _⟩ => by subst e; rfl, fun A outer s H args us vs2 Q E hr e0 hb r hsp => ?_⟩
  obtain ⟨a, y, rfl, ea, hq⟩ := hsp
  obtain ⟨u, rfl, ry⟩ : ∃ u, us = [.ref a, u] ∧ RelV y u := by
    cases r with
    | cons h1 r =>
      cases r with
      | cons h2 r =>
        cases r
        cases h1
        exact ⟨_, rfl, h2⟩
  have KX : K.In s.heap := e0.mod.kin.keeps fun b o e => (e0.bs b o e).1
  have lim : s.heap.NoLimit := e0.mod.nolimit.keeps fun b o e => (e0.bs b o e).1
  obtain ⟨mb, hmb, hbt⟩ := e0.mod.blt
  obtain ⟨nm, q, N, bs, bm, sn, sub, ab, col, dd, k0, k1, k2, k3, k5, hC, hbm⟩ := S.oc.cls
  obtain ⟨t1, hx⟩ := exo_at e0.hok ea
  obtain ⟨hh, g, d, t, os⟩ := s
  have hcl : PySem.W.clsIn K C = some { name := nm, bases := bs, mro := .ref C :: bm, ns := N, qualname := q, hasDict := true, slotNames := sn, subclasses := sub, abstract := ab, collection := col, hasDel := false } := by unfold PySem.W.clsIn; rw [hC] <;> rfl
  refine ks_codeAny_call_defAt hr.depth (KX _ _ lk) rfl lim (PySem.W.codeRec_of KX hcd) rfl hb hnc ?_ (fun h₀ hns keep => ?_) hco hgen hk
  · intro x hx
    rcases List.mem_cons.mp hx with rfl | hx
    · exact hk1
    · rcases List.mem_cons.mp hx with rfl | hx
      · exact hk2
      · cases hx
  · have K0 : K.In h₀ := KX.keeps keep
    have bk : ∀ b o, base.get? b = some o → h₀.get? b = some o := fun b o e => keep b o (e0.bs b o e).1
    have lv1 : ([(sf, Value.ref a), (n, u)] : List (Str × Value)).reverse.lookup sf = some (.ref a) := by
      simp [List.lookup, hne]
    have lv2 : ([(sf, Value.ref a), (n, u)] : List (Str × Value)).reverse.lookup n = some u := by
      simp [List.lookup]
    have lk0 := K0 _ _ lk
    have hx0 := keep _ _ hx
    have hC0 := K0 _ _ hC
    have hI : ∀ {h' : Heap}, K.In h' → (∃ ox, h'.get? a = some ox ∧ ox.cls = .ref C) → PySem.W.Looks (model P w) h' (isInstance (.ref a) (.type "ValueError")) true := fun {h'} X ⟨ox, e1, e2⟩ =>
      PySem.W.Looks.andThen (fun A Q E s k q => wpAny_typeOf_ref (k _ _ e1) (by rw [e2]; exact q)) (PySem.W.looks_subIn X S.ve)
    have aC : a ≠ C := by
      rintro rfl
      rw [hC0] at hx0
      cases hx0
    show _root_.PySem.wpAt _ _ _ (execs _ _) _ _ _
    refine ks_wpAt_execs_cons (ks_wpAt_Expr_any (ks_wpAt_MethodCall ?_ (he _)) (by show interactive _ = false; unfold interactive; simp [callEnv, newEnv, hk]))
    refine ks_wpAt_super_base hks hkc (by decide) rfl lk0 rfl hp rfl (K0 _ _ hcode) rfl hvs hfile S.top ?_
    refine PySem.W.ks_loadName_global hk hks (Calls.loadGlobal_builtin (e0.mod.glob.keeps bk) S.mg (hmb.keeps bk) ((hbt _ (by decide)).trans PyProof.Rows.Boot.«super») ⟨rfl, ?_⟩)
    refine wpAny_loadName_free hk hkc rfl ⟨_, K0 _ _ hcell, rfl⟩ ?_
    rw [har]
    refine wpAny_loadName_local hk hk1 hns lv1 ?_
    refine ks_wpAny_isType_cls hC0 rfl ⟨rfl, ?_⟩
    refine ks_wpAny_call_super hC0 rfl hx0 rfl (fun c e => by cases e) (PySem.W.looks_mroIn K0 S.ms) (fun h1 e1 q1 => ?_)
    have K1 := K0.keeps q1
    have up := S.up
    unfold PySem.W.ks_superIn at up
    rw [hcl] at up
    refine PySem.W.kxs_getMethod PySem.W.kxs_ValueError e1 (PySem.W.looks_opaque K1 S.tp) (l₀ := .ref C :: bm) (fun A Q E s k q => wpAny_bind ((PySem.W.looks_clsIn K1 hcl) A _ E s k (wpAny_pure q))) rfl K1 up (hI K1 ⟨_, q1 _ _ hx0, rfl⟩) aC (by decide) ?_
    have q2 : ∀ b o, h1.get? b = some o → (h1.push (PySem.W.kxs_mw "ValueError.__init__" a)).get? b = some o := fun b o e => Heap.get?_push_of_some _ e
    refine PySem.W.kxs_callWith (i := "ValueError.__init__") (x := a) rfl ?_
    refine Calls.evalArgs_plain ?_
    refine Calls.spliced_cons ?_
    refine Calls.Constant_str (k := j) (pos := p3) ?_
    refine Calls.spliced_nil ?_
    refine ⟨Heap.get?_push_at rfl rfl, ?_⟩
    have K2 : K.In (h1.push (PySem.W.kxs_mw "ValueError.__init__" a)) := K1.keeps q2
    have hx2 := q2 _ _ (q1 _ _ hx0)
    have hu2 : (h1.push (PySem.W.kxs_mw "ValueError.__init__" a)).get? h1.objs.size = some (PySem.W.kxs_mw "ValueError.__init__" a) := Heap.get?_push_at rfl rfl
    -- the call of the wrapper
    -- the call of the wrapper
    refine wpAny_call (codeAny_of_tree ?_)
    show wpAny _ _ (callAny (.ref h1.objs.size) _) _ _ _
    simp only [callAny]
    refine wpAny_bind (wpAny_load hu2 ?_)
    simp only [PySem.W.kxs_mw, show (Value.type "method-wrapper" == Value.type "method" || Value.type "method-wrapper" == Value.type "builtin_function_or_method" || Value.type "method-wrapper" == Value.type "method-wrapper") = true by decide, if_true]
    refine PySem.W.KFB.if_so (by decide) ?_
    refine wpAny_bind (PySem.W.check_bound_init F.excBase_ValueError.toExcCallFacts (K2 _ _ hC) hx2 rfl ?_)
    refine wpAny_bind (wpAny_pure (wpAny_pure ?_))
    refine ⟨plainId_quiet F.excBase_ValueError.init.plain _, codeAny_builtin F.excBase_ValueError.initEntry ?_⟩
    refine PySem.W.exc_init_tree hx2 (by show (1 : Nat) ≤ sizeLine; decide) fun h3 q3 e3 _ => ?_
    show _root_.PySem.wpAt _ _ _ (execs _ _) _ _ _
    have K3 : K.In h3 := fun b o e => q3 b o (fun z => by
      have z2 := (e0.bs b o (e0.mod.kin b o e)).2
      rw [z, ea] at z2
      cases z2) (K2 _ _ e)
    have nL : hh.objs.size ≠ a := Nat.ne_of_gt (Heap.lt_size hx)
    have ns3 : h3.Ns hh.objs.size (fun x => ([sf, n].zip [Value.ref a, u]).reverse.lookup x) := by
      obtain ⟨o, es, ep, ho, hr⟩ := hns
      exact ⟨o, es, ep, q3 _ _ nL (q2 _ _ (q1 _ _ ho)), hr⟩
    refine ks_wpAt_execs_cons (ks_wpAt_Assign_Attr ?_)
    refine wpAt_of_wpAny ?_
    refine wpAny_Name ?_ d2
    refine wpAny_loadName_local hk hk2 ns3 lv2 ?_
    refine wpAny_Name ?_ d1
    refine wpAny_loadName_local hk hk1 ns3 lv1 ?_
    refine PySem.W.set_plain K3 (ox := { cls := .ref C, dict := none, data := .fields #[.ref _, .none, .none, .none, .bool false, .none] }) (od := none) ⟨e3, rfl, rfl, trivial⟩ S.oc.sa ?_
    refine PySem.HandSPX.exc_osa K3 e3 hcl (show PySem.HandSPX.refsVE (.ref C :: bm) = true from hbm) rfl S.no (fun h4 tk4 dx k4 dn dne hx4 hn4 => ?_)
    show _root_.PySem.wpAt _ _ _ (execs _ _) _ _ _
    refine wpAt_of_wpAny (wpAny_execs_nil ?_)
    show CE _ _ _ _ _ _ _ _
    have q4 : ∀ b o, b ≠ a → hh.get? b = some o → h4.get? b = some o := fun b o hb e => k4 b o hb (q3 b o hb (q2 b o (q1 b o (keep b o e))))
    have le3 : hh.objs.size ≤ h3.objs.size := by
      obtain ⟨o, es, ep, ho, hr⟩ := ns3
      exact Nat.le_of_lt (Heap.lt_size ho)
    have hnd : H dx = none := e0.hok.fresh (Nat.le_trans le3 dn)
    have na : ∀ {b : Addr}, H b = none → b ≠ a := fun {b} n z => by
      rw [z, ea] at n
      cases n
    have nd : ∀ {b : Addr} {o : Obj}, hh.get? b = some o → b ≠ dx := fun {b o} q => Nat.ne_of_lt (Nat.lt_of_lt_of_le (Heap.lt_size q) (Nat.le_trans le3 dn))
    refine ⟨.non, _, rfl, e0.bare, ?_, fun b o q => ?_, rfl, hq dx hnd dne⟩
    · exact {
        keep := fun b o q n _ _ => q4 b o (na n) q
        slot := fun b o q n _ _ => ⟨o.slots, q4 b o (na n) q⟩
        free := fun b o q n _ => by rw [upd_ne (na n), upd_ne (nd q)]; exact n
        there := fun b o q _ => by
          by_cases hb : b = a
          · exact ⟨_, by rw [hb]; exact hx4⟩
          · exact ⟨o, q4 b o hb q⟩
        tups := fun b xs q => by rw [upd_ne (at_ne ea q exo_tup), upd_ne (ne_of_none q hnd)]; exact q
        frzs := fun b o v q => by rw [upd_ne (at_ne ea q exo_frz), upd_ne (ne_of_none q hnd)]; exact q
        tbls := fun b ps q => ⟨#[], by rw [upd_ne (at_ne ea q exo_tbl), upd_ne (ne_of_none q hnd), q]; simp⟩ }
    · by_cases hb : b = a
      · subst hb
        rw [upd_same] at q
        cases q
        exact exo_ok hx4
      · rw [upd_ne hb] at q
        by_cases hd : b = dx
        · subst hd
          rw [upd_same] at q
          cases q
          exact exd_ok hn4 (relO_put (fs := []) ry fun g => True.intro)
        · rw [upd_ne hd] at q
          exact (e0.hok b o q).stay (fun c v hc z => q4 c v (by
              rcases hc with hc | hc
              · rw [hc]
                exact hb
              · exact at_ne ea hc exo_own) z)
            (fun c hc => by rw [upd_ne (at_ne ea hc exo_own), upd_ne (ne_of_none hc hnd)]; exact hc) (fun c xs hc => by rw [upd_ne (at_ne ea hc exo_tup), upd_ne (ne_of_none hc hnd)]; exact hc)
end
end VL
end

section
set_option maxRecDepth 100000
set_option maxHeartbeats 1000000
namespace VL
open PySem L2 PyProof.Rows
structure SupAt (P : Program) (w : World) (K : PySem.W.Frag) (mg : Str → Option Value) (base : Heap) (T : TabC) (c : Nat) (x f : Str) (k : Nat) : Prop where
  ex : ∃ (fI : Addr) (fd : FuncData) (sf n : Str), FnOk P w K mg base (L2.CX P w) k fI fd [sf, n] (spSup (T.ex c) f) ∧ PySem.W.findIn K (.ref (T.ex c)) "__init__" = some (some (.ref fI)) ∧ PySem.W.typeIn K (.ref fI) = some (.type "function") ∧ Binds K fd [sf, n] []
  oc : OexC K (T.ex c)
  mg : mg x = some (.ref (T.ex c))
section
variable {X : Cx} {T : TabC} {W : WX}
theorem sup_mk {C : Addr} {f : Str} {y : V} {H1 : Hp} {ws : List V} {Q : XK} (q : ∀ dx, H1 dx = none → Q (.ref C) (some dx) (upd H1 dx (.xd [(f, y)]))) {a : Addr} (ha : H1 a = none) (hw : ws = [y]) :
    spSup C f (.ref a :: (ws ++ [])) (upd H1 a (exo a C none)) (fun v H2 => v = .non ∧ ∃ (d : Addr) (fs : List (Str × V)), H2 a = some (exo a C (some d)) ∧ H2 d = some (exd d fs) ∧ H1 d = none ∧ Q (.ref C) (some d) (upd (del H2 a) d (.xd fs))) (fun _ _ _ => False) := by
  subst hw
  refine ⟨a, y, rfl, upd_same, fun dx hn hne => ⟨rfl, dx, [(f, y)], upd_same, ?_, ?_, ?_⟩⟩
  · rw [upd_ne hne, upd_same]
  · rw [upd_ne hne] at hn; exact hn
  · have e : upd (del (upd (upd (upd H1 a (exo a C none)) dx (exd dx [(f, y)])) a (exo a C (some dx))) a) dx (.xd [(f, y)]) = upd H1 dx (.xd [(f, y)]) := by
      funext b
      by_cases h1 : b = dx
      · subst h1; rw [upd_same, upd_same]
      · rw [upd_ne h1, upd_ne h1]
        by_cases h2 : b = a
        · subst h2; rw [del_same, ha]
        · rw [del_ne h2, upd_ne h2, upd_ne h1, upd_ne h2]
    rw [e]
    rw [upd_ne hne] at hn
    exact q dx hn
theorem okS_raise1 {k c : Nat} {x f : Str} {e : Expr} {g : SE} {p pos pos' : Pos} (hc : X.calm = true) (tk : Takes X W) (S : SupAt X.prog X.w X.K X.mg X.base T c x f k) (hr : Room (k + 1) X.A) (ha : OKE X T W e g) (hg : Gl X x := by rfl) (hd : (x == ("__debug__" : Str)) = false := by decide)
    (he : starEach [e] X.env = (false, eval e X.env) :: starEach [] X.env := by rfl) : OKS X T W (.Raise (some (.Call (.Name x p) [e] [] pos)) none pos') (sRaise c (some f) (aCons g aNil)) := by
  obtain ⟨fI, fd, sf, n, F, iC, tI, hb⟩ := S.ex
  refine ps_imp (ps_raise hc tk (pmk_oex (dvs := []) S.oc iC tI F hr hb .nil passL hg S.mg (okA_cons ha okA_nil he) hd he rfl)) fun D σ H ⟨fr, B, ρ, E, p⟩ => ⟨fr, B, ρ, E, ?_⟩
  refine PostS.bind (o := aCons g aNil ρ) (k := fun ds ρ => match some f, ds with
    | none, _ => .exc c [] ρ
    | some f, [d] => .exc c [(f, d)] ρ
    | _, _ => .bad) p fun ds ρ1 B1 H1 vs eo s1 E1 r1 p1 => ?_
  cases r1 with
  | nil => exact p1.elim
  | @cons d v ds vs r1 r2 =>
    cases r2 with
    | cons r2 r3 => exact p1.elim
    | nil =>
      refine ⟨by show (1 : Nat) ≤ 1000; decide, fun a hn => sup_mk (y := v) (Q := fun cls d H' => W cls d σ H') (fun dx hd => ?_) hn rfl⟩
      exact p1 B1 (upd H1 dx (.xd [(f, v)])) σ _ _ (Same.refl _) (E1.allocOwn hd) ⟨rfl, .inr ⟨dx, [(f, v)], rfl, upd_same, .cons r1 .nil⟩⟩
section
variable {a : Addr} {d : Option Addr} {i : Nat} {fs : List (Str × D)} {e : Expr} {f : SE}
def rdEx (K : PySem.W.Frag) (T : TabC) (W : WX) (a : Addr) (d : Option Addr) (i : Nat) (fs : List (Str × D)) (f : SE) : TE := fun σ H Q => ∃ fr B ρ, Kx K T a d i fs fr B σ ∧ EnvOk K T fr B H ρ σ ∧ Post K T (RV K T) fr W B σ Q (f ρ)
def rdBx (K : PySem.W.Frag) (T : TabC) (W : WX) (a : Addr) (d : Option Addr) (i : Nat) (fs : List (Str × D)) (f : ST) : TT := fun σ H Q => ∃ fr B ρ, Kx K T a d i fs fr B σ ∧ EnvOk K T fr B H ρ σ ∧ Post K T RB fr W B σ Q (f ρ)
theorem okX_fld {Y : Cx} {c0 : Nat} {oe : Obj} {pn : List (Addr × Obj)} {x n : Str} {p0 pos : Pos} (XF : XfC Y.K (T.ex c0)) (hno : PySem.W.findIn Y.K (.ref (T.ex c0)) n = some none) (hz : Zc (.ref (T.ex c0)) d oe) (hf : ∃ vs, oe.data = .fields vs)
    (hN : Y.N[i]? = some x := by rfl) (hv : Vis Y.env.scope x := by first | exact Or.inl rfl | exact Or.inr (Or.inl rfl) | exact Or.inr (Or.inr rfl)) (hd : (x == ("__debug__" : Str)) = false := by decide) (hcd : (x == ("__classdict__" : Str)) = false := by decide)
    (hb : attributeBase (.Name x p0) n Y.env (eval (.Name x p0) Y.env) = eval (.Name x p0) Y.env := by rfl) :
    PE (Y.suite a ((a, oe) :: pn)) (.Attribute (.Name x p0) n pos) (rdEx Y.K T W a d i fs (eXf fs n)) :=
  pe_imp (pe_xf XF hno hz hf (pe_var (X := Y.suite a ((a, oe) :: pn)) (i := i) hN hv hd hcd) hb) fun σ H Q ⟨fr, B, ρ, kx, E, p⟩ => by
    obtain ⟨v0, e0, p0⟩ := Post.opt p
    refine ⟨.ref a, kx.1, rfl, rfl, ?_⟩
    rcases kx.2 with h | ⟨dd, vfs, h1, h2, h3⟩
    · rw [h] at e0; cases e0
    · obtain ⟨v, l1, r1⟩ := RepF.look h3 e0
      refine ⟨dd, vfs, v, h1, ?_, l1, p0.done E r1⟩
      rcases h2 with h2 | h2
      · exact E.fh _ _ h2
      · exact E.bh _ _ h2
theorem okX_cmp {b : Expr} {g : SE} {o : CmpOp} {op : D → D → Option D} {pos : Pos} (ho : OpV X T (compareOp o) op) (ha : PE X e (rdEx X.K T W a d i fs f)) (hb : OKE X T W b g) (hm : behindInMarks o b = false := by first | exact nomark _ | rfl) :
    PT X (.Compare e [o] [b] pos) (rdBx X.K T W a d i fs (tE (eOp op f g))) := pt_imp (pt_cmpR ho ha hb hm) fun σ H Q ⟨fr, B, ρ, kx, E, p⟩ => by
  have p2 : Post X.K T RB fr W B σ Q ((f ρ).bind fun x ρ => ((g ρ).bind fun y ρ => Out.opt (op x y) ρ).bind fun x ρ => match x with
      | .bl b => .ok b ρ
      | _ => .bad) := by
    have e1 : tE (eOp op f g) ρ = ((f ρ).bind fun x ρ => ((g ρ).bind fun y ρ => Out.opt (op x y) ρ).bind fun x ρ => match x with
      | .bl b => .ok b ρ
      | _ => .bad) := by
      unfold tE eOp
      cases f ρ <;> rfl
    rw [← e1]; exact p
  refine ⟨fr, B, ρ, kx, E, p2.bind fun d1 ρ1 B1 H1 v _ s1 E1 r1 p1 => ⟨fr, B1, ρ1, E1, ?_⟩⟩
  have p3 : Post X.K T RB fr W B1 σ Q ((g ρ1).bind fun y ρ => (Out.opt (op d1 y) ρ).bind fun x ρ => match x with
      | .bl b => .ok b ρ
      | _ => .bad) := by
    have e1 : (((g ρ1).bind fun y ρ => Out.opt (op d1 y) ρ).bind fun x ρ => match x with
      | .bl b => Out.ok b ρ
      | _ => .bad) = ((g ρ1).bind fun y ρ => (Out.opt (op d1 y) ρ).bind fun x ρ => match x with
      | .bl b => .ok b ρ
      | _ => .bad) := by cases g ρ1 <;> rfl
    rw [← e1]; exact p1
  refine p3.bind fun d2 ρ2 B2 H2 v2 _ s2 E2 r2 p4 => ?_
  cases e3 : op d1 d2 with
  | none => rw [e3] at p4; exact p4.elim
  | some d3 =>
    rw [e3] at p4
    refine ⟨B2, d1, d2, d3, E2.bh, Rep.mono s2 r1, r2, e3, fun B' H' w g r3 => ?_⟩
    cases r3 with
    | bl t => exact ⟨t, rfl, p4 _ _ t (g.same E2) (g.env E2) rfl⟩
    | _ => exact p4.elim
theorem okX_if {x y : List Stmt} {t : ST} {f g : SS} {pos : Pos} (hc : PT X e (rdBx X.K T W a d i fs t)) (ha : OKSs X T W x f) (hb : OKSs X T W y g) : PSs X [.If e x y pos] (rdX X.K T W a d i fs (sIf t f g)) :=
  pss_one (ps_imp (ps_if hc ha hb) fun D' σ H ⟨fr, B, ρ, kx, E, p⟩ => ⟨fr, B, ρ, kx, E, PostS.bind (R := RB) p fun d1 ρ1 B1 H1 b _ s1 E1 r1 p1 => by
    cases r1
    cases d1 with
    | true => rw [if_pos rfl]; exact ⟨fr, B1, ρ1, E1, p1⟩
    | false => rw [if_neg (by decide)]; exact ⟨fr, B1, ρ1, E1, p1⟩⟩)
end
end
end VL
end

section
set_option maxRecDepth 100000
set_option maxHeartbeats 1000000
namespace VL
open PySem L2 PyProof.Rows
section
variable {X : Cx} {T : TabC} {W : WX}
end
end VL
end

section
set_option maxRecDepth 100000
set_option maxHeartbeats 2000000
namespace VL
open PySem L2 PyProof.Rows
def eRevT (e : SE) : SE := fun ρ => (e ρ).bind fun x ρ => match x with
  | .tup xs => .ok (.tup xs.reverse) ρ
  | _ => .bad
def eRevL (e : SE) : SE := fun ρ => (e ρ).bind fun x ρ => match x with
  | .lst xs => .ok (.lst xs.reverse) ρ
  | .scr ns => .ok (.lst (ns.map D.int).reverse) ρ
  | _ => .bad
section
variable {prog : Program} {w : World} {A : Around} {E : Value → Shared → Prop} {s : Shared}
end
def tRevT (K : PySem.W.Frag) (te : TE) : TE := fun σ H Q => te σ H fun x H1 => ∃ a xs, x = .ref a ∧ SqT K H1 a xs ∧ ∀ p, H1 p = none → Q (.ref p) (upd H1 p (.tup xs.reverse))
end VL
end

section
set_option maxRecDepth 100000
set_option maxHeartbeats 2000000
namespace VL
open PySem L2 PyProof.Rows
theorem RepL.reverse {K : PySem.W.Frag} {T : TabC} {B : Hp} {ds : List D} {vs : List V} (r : RepL K T B ds vs) : RepL K T B ds.reverse vs.reverse := by
  have go : ∀ {ds : List D} {vs : List V}, RepL K T B ds vs → RepL K T B ds.reverse vs.reverse := fun {ds vs} r => by
    induction ds generalizing vs with
    | nil => cases r; exact .nil
    | cons d ds ih =>
      cases r with
      | cons h t => rw [List.reverse_cons, List.reverse_cons]; exact (ih t).append (.cons h .nil)
  exact go r
section
variable {X : Cx} {T : TabC} {W : WX}
end
section
variable {X : Cx} {pins : List (Addr × Obj)} {σ : L2.St} {H : Hp} {s : Shared} {A : Around} {E : Value → Shared → Prop}
end
def tGetD (K : PySem.W.Frag) (w : World) (td ty tx : TE) : TE := fun σ H Q => td σ H fun x H1 => ∃ a xs, x = .ref a ∧ H1 a = some (dctO w a xs) ∧ ty σ H1 fun y H2 => tx σ H2 fun z H3 => ∃ b k, y = .ref b ∧ H3 a = some (dctO w a xs) ∧ SqT K H3 b (k.map kV) ∧ (∀ x ∈ xs, SqT K H3 x.2.1 (x.1.map kV)) ∧
  ((∃ p v, atKey xs k = some p ∧ RelV v p.2 ∧ Q v H3) ∨ (atKey xs k = none ∧ Q z H3))
theorem keyOf1_eq {x y : D} {k j : Key} (h : keyOf1 x = some k) (h' : keyOf1 y = some j) : eqD x y = decide (k = j) := by
  cases x <;> cases h <;> cases y <;> cases h' <;> simp [eqD, Sum.inl.injEq, Sum.inr.injEq] <;> rfl
theorem keysOf_eq : ∀ {xs ys : List D} {ks js : List Key}, keysOf xs = some ks → keysOf ys = some js → eqDs xs ys = decide (ks = js)
  | [], [], ks, js, h, h' => by cases h; cases h'; rfl
  | [], y :: ys, ks, js, h, h' => by
    cases h
    unfold keysOf at h'
    obtain ⟨k, e1, e2⟩ := Option.bind_eq_some_iff.mp h'
    obtain ⟨l, e3, e4⟩ := Option.map_eq_some_iff.mp e2
    subst e4
    rfl
  | x :: xs, [], ks, js, h, h' => by
    cases h'
    unfold keysOf at h
    obtain ⟨k, e1, e2⟩ := Option.bind_eq_some_iff.mp h
    obtain ⟨l, e3, e4⟩ := Option.map_eq_some_iff.mp e2
    subst e4
    rfl
  | x :: xs, y :: ys, ks, js, h, h' => by
    unfold keysOf at h h'
    obtain ⟨k, e1, e2⟩ := Option.bind_eq_some_iff.mp h
    obtain ⟨l, e3, e4⟩ := Option.map_eq_some_iff.mp e2
    obtain ⟨k', e1', e2'⟩ := Option.bind_eq_some_iff.mp h'
    obtain ⟨l', e3', e4'⟩ := Option.map_eq_some_iff.mp e2'
    subst e4 e4'
    unfold eqDs
    rw [keyOf1_eq e1 e1', keysOf_eq e3 e3']
    by_cases a : k = k' <;> by_cases b : l = l' <;> simp [a, b]
theorem RepT.look {K : PySem.W.Frag} {T : TabC} {B : Hp} {ks : List D} {k : List Key} (hk : keysOf ks = some k) : ∀ {kvs : List (List D × D)} {xs : List (List Key × Addr × Value)}, RepT K T B kvs xs →
    (∃ d p v, lookT kvs ks = some d ∧ atKey xs k = some p ∧ RelV v p.2 ∧ Rep K T B d v) ∨ (lookT kvs ks = none ∧ atKey xs k = none)
  | _, _, .nil => .inr ⟨rfl, rfl⟩
  | _, _, .cons (ks := ks0) (d := d0) (k := k0) (q := q0) (u := u0) (v := v0) (ds := ds) (xs := xs) h1 h2 h3 h4 r => by
    have e := keysOf_eq h1 hk
    unfold lookT atKey
    rw [List.find?_cons, List.find?_cons]
    simp only [e]
    cases q : decide (k0 = k) with
    | true => exact .inl ⟨d0, (q0, u0), v0, rfl, rfl, h3, h4⟩
    | false => exact RepT.look hk r
theorem RepT.keys {K : PySem.W.Frag} {T : TabC} {B : Hp} : ∀ {kvs : List (List D × D)} {xs : List (List Key × Addr × Value)}, RepT K T B kvs xs → ∀ x ∈ xs, SqT K B x.2.1 (x.1.map kV)
  | _, _, .nil => fun x hx => nomatch hx
  | _, _, .cons h1 h2 h3 h4 r => fun x hx => (List.mem_cons.mp hx).elim (fun e => by subst e; exact h2) fun hx => RepT.keys r x hx
section
variable {X : Cx} {T : TabC} {W : WX}
end
end VL
end

section
set_option maxRecDepth 100000
set_option maxHeartbeats 2000000
namespace VL
open PySem L2
section
variable {X : Cx} {T : TabC} {W : WX}
end
end VL
end

section
set_option maxRecDepth 100000
set_option maxHeartbeats 1000000
namespace VL
open PySem L2 PyProof.Rows
abbrev FunS (K : PySem.W.Frag) (x qual : Str) (st : Stmt) (dvs : List V) (f : Addr) (fd : FuncData) : Prop := FunD K x qual (defArgs st) (defBody st) (defScope st) dvs [] f fd
section
variable {P : Program} {w : World} {K : PySem.W.Frag} {mg : Str → Option Value} {base : Heap} {T : TabC}
theorem dfl_none {fd : FuncData} {ps : List Str} (h : ∃ ds, Vals [] ds ∧ Binds K fd ps ds) : Binds K fd ps [] := by
  obtain ⟨ds, h1, h2⟩ := h
  cases h1
  exact h2
theorem fn_valD {x qual : Str} {st : Stmt} {dvs : List V} {f : Addr} {fd : FuncData} {N ps : List Str} {k : Nat} {fresh : Bool} {b : SS} (F : FunS K x qual st dvs f fd) (S : FnScope N ps (defScope st))
    (hb : ∀ (cdv : Value) (A : Around) (outer : List Env) (s : Shared) (H : Hp) (E : XK), Room k (A.deeper (envOfC qual (defScope st) s.heap.objs.size f cdv)) → OKSs (defCx P w K mg base N qual st f cdv A outer s H E) T (defW E) (defBody st) b) :
    FnOk P w K mg base (L2.CX P w) (k + 1) f fd ps (spV K T fresh (fnOf N.length ps.length false fresh b)) := by
  refine F.ok S (fun vs H Q E h => ?_) (fun cdv A outer s H vs Q E hr h => ⟨_, hb cdv A outer s H E hr, ?_⟩)
  · obtain ⟨B, ds, r, s1, rl, e, _⟩ := h
    unfold fnOf at e
    split at e
    · rename_i hl; rw [← rl.length]; exact hl
    · cases e
  · obtain ⟨B, ds, r, s1, rl, e, p⟩ := h
    unfold fnOf at e
    split at e
    · refine ⟨⟨B, H, fun _ => none⟩, B, _, EnvOk.start s1 rl, post_end (ia := none) (fun c d σ H z => z) (fun E' => E'.afterV) (fun h _ => h) (fun _ x _ a d1 z => by cases z) e p⟩
    · cases e
abbrev DefAtD (P : Program) (w : World) (K : PySem.W.Frag) (mg : Str → Option Value) (base : Heap) (k : Nat) (f : Addr) (ps : List Str) (dvs : List V) (sp : Sp) : Prop :=
  ∃ ds, Vals dvs ds ∧ DefAt P w K mg base k f ps ds sp
end
section
variable {X : Cx} {T : TabC} {W : WX} {k : Nat} {f : Addr} {ps : List Str} {dvs : List V} {dfl : List D} {x : Str} {p pos : Pos} {e : Expr} {es : List Expr} {g : SA} {fn : FnS}
theorem ok_callD (F : DefAtD X.prog X.w X.K X.mg X.base k f ps dvs (spV X.K T false fn)) (hdr : ∀ B, RepL X.K T B dfl dvs) (hr : Room k X.A) (hm : X.mg x = some (.ref f)) (tk : Takes X W) (ha : OKA X T W (e :: es) g)
    (hg : Gl X x := by rfl) (hdb : (x == ("__debug__" : Str)) = false := by decide)
    (he : starEach (e :: es) X.env = (false, eval e X.env) :: starEach es X.env := by rfl) (hpl : (backTo pos (starEach es X.env)).any (·.1) = false := by rfl) : OKE X T W (.Call (.Name x p) (e :: es) [] pos) (eCall fn (aDef g dfl)) := by
  obtain ⟨ds, hd, F⟩ := F
  exact ok_call F hd hdr hr hm tk ha hg hdb he hpl
end
end VL
end

section
set_option maxRecDepth 100000
set_option maxHeartbeats 1000000
namespace VL
open PySem L2
section
variable {P : Program} {w : World} {K : PySem.W.Frag} {mg : Str → Option Value} {base : Heap} {T : TabC}
theorem rep_new {B H : Hp} {a : Addr} {d : D} {o : HO} (ho : H a = some o) (hb : B a = none) (q : ObjAt K T B H a d) : Rep K T (upd B a o) d (.ref a) := by
  have sB : Same B (upd B a o) := upd_free hb
  cases d with
  | lst xs =>
    obtain ⟨vs, h, rr⟩ := q
    rw [ho] at h; cases h
    exact .lst upd_same (rr.mono sB)
  | ins c fs =>
    obtain ⟨dx, vfs, h, rr⟩ := q
    rw [ho] at h; cases h
    exact .ins upd_same (rr.mono sB)
  | dic kvs =>
    obtain ⟨vkv, h, rr⟩ := q
    rw [ho] at h; cases h
    exact .dic (.inl upd_same) (rr.mono sB)
  | dct kvs =>
    obtain ⟨xs, h, rr⟩ := q
    rw [ho] at h; cases h
    exact .dct upd_same (rr.mono sB)
  | _ => exact q.elim
theorem spV_wk {fn : FnS} {vs : List V} {H : Hp} {Q : VK} {E : XK} (h : spV K T false fn vs H Q E) : spV K T true fn vs H Q E := by
  obtain ⟨B, ds, r, s, rl, e, p⟩ := h
  refine ⟨B, ds, r, s, rl, e, ?_⟩
  cases r with
  | exn c fs => exact p
  | val d o =>
    intro B' H' v A hia hr
    obtain ⟨a, rfl, h1, h2, h3⟩ := hr
    obtain ⟨u, hu⟩ := h3.there
    refine p (upd B' a u) H' (.ref a) ⟨A.b.trans (upd_free h2), fun b x q => ?_, A.f, fun c hc => ?_, A.t⟩ (fun _ _ z => by cases z) (rep_new hu h2 h3)
    · by_cases z : b = a
      · subst z; rw [upd_same] at q; rw [← q]; exact hu
      · rw [upd_ne z] at q; exact A.bh _ _ q
    · by_cases z : c = a
      · subst z; exact .inr h1
      · rw [upd_ne z] at hc; exact A.n c hc
theorem DefAt.wk {k : Nat} {f : Addr} {ps : List Str} {ds : List Value} {fn : FnS} (F : DefAt P w K mg base k f ps ds (spV K T true fn)) : DefAt P w K mg base k f ps ds (spV K T false fn) :=
  let ⟨fd, F1, b⟩ := F.ok; ⟨⟨fd, F1.imp fun vs H Q E q => spV_wk q, b⟩, F.kp⟩
end
end VL
end

section
set_option maxRecDepth 100000
set_option maxHeartbeats 1000000
namespace VL
open PySem L2 PyProof.Rows
section
variable {K : PySem.W.Frag} {T : TabC} {B B' H H' : Hp}
end
section
variable {X : Cx} {T : TabC} {W : WX}
end
end VL
end

section
set_option maxRecDepth 100000
set_option maxHeartbeats 1000000
namespace VL
open PySem L2 PyProof.Rows
abbrev veMro : List Value := [.type "ValueError", .type "Exception", .type "BaseException", .type "object"]
theorem tab_only {l : List (Nat × Bool)} {c0 : Nat} (h : (l.all fun p => !p.2 || p.1 == c0) = true) : ∀ n, tabOf l n = some true → n = c0 := by
  induction l with
  | nil => intro n e; cases e
  | cons p l ih =>
    intro n e
    obtain ⟨k, b⟩ := p
    have h' := h
    rw [List.all_cons, Bool.and_eq_true] at h'
    unfold tabOf at e ih
    rw [List.lookup_cons] at e
    split at e
    · rename_i q
      cases e
      have q2 : n = k := by simpa using q
      have := h'.1
      rw [q2]
      simpa using this
    · exact ih h'.2 n e
theorem tab_all {l : List (Nat × Bool)} {P : Nat → Bool → Prop} (h : ∀ p ∈ l, P p.1 p.2) : ∀ n t, tabOf l n = some t → P n t := by
  induction l with
  | nil => intro n t e; cases e
  | cons p l ih =>
    intro n t e
    obtain ⟨k, b⟩ := p
    unfold tabOf at e ih
    rw [List.lookup_cons] at e
    split at e
    · rename_i q
      cases e
      have q2 : n = k := by simpa using q
      rw [q2]
      exact h _ (List.mem_cons_self ..)
    · exact ih (fun p hp => h p (List.mem_cons_of_mem _ hp)) n t e
theorem exm_of {K : PySem.W.Frag} {a C : Addr} {b : Bool} (h1 : PySem.W.subIn K (.ref C) (.type "BaseException") = some true) (h2 : PySem.W.isClsIn K C = true) (h3 : PySem.W.typeIn K (.ref C) = some (.type "type")) (h4 : PySem.W.subIn K (.ref a) (.ref C) = some b) :
    PySem.W.exmOne K (.ref a) (.ref C) = some b := by
  unfold PySem.W.exmOne
  rw [if_pos (by rw [h1]; rfl)]
  unfold PySem.W.kitCls
  simp only
  rw [if_pos ?_, h4]
  have h2' : (PySem.W.clsIn K C).isSome = true := h2
  rw [h2', h3]
  decide +kernel
section
variable {P : Program} {w : World} {K : PySem.W.Frag} {mg : Str → Option Value} {T : TabC}
def NoInst (K : PySem.W.Frag) (C : Addr) : Prop := ∀ t : String, (t = "NoneType" ∨ t = "bool" ∨ t = "int" ∨ t = "str" ∨ t = "tuple" ∨ t = "list" ∨ t = "dict") → PySem.W.kitOne K (.type t) (.ref C) = some false
theorem noInst_of {C : Addr} (h2 : PySem.W.isClsIn K C = true) (h3 : PySem.W.typeIn K (.ref C) = some (.type "type")) (a1 : PySem.W.subIn K (.type "NoneType") (.ref C) = some false) (a2 : PySem.W.subIn K (.type "bool") (.ref C) = some false) (a3 : PySem.W.subIn K (.type "int") (.ref C) = some false)
    (a4 : PySem.W.subIn K (.type "str") (.ref C) = some false) (a5 : PySem.W.subIn K (.type "tuple") (.ref C) = some false) (a6 : PySem.W.subIn K (.type "list") (.ref C) = some false) (a7 : PySem.W.subIn K (.type "dict") (.ref C) = some false) : NoInst K C := by
  have key : ∀ t : String, PySem.W.subIn K (.type t) (.ref C) = some false → PySem.W.kitOne K (.type t) (.ref C) = some false := fun t h4 => by
    unfold PySem.W.kitOne
    rw [if_neg (show ¬ ((Value.type t == Value.ref C) = true) by simp)]
    unfold PySem.W.kitCls
    simp only
    rw [if_pos ?_, h4]
    have h2' : (PySem.W.clsIn K C).isSome = true := h2
    rw [h2', h3]
    decide +kernel
  intro t ht
  rcases ht with rfl | rfl | rfl | rfl | rfl | rfl | rfl
  · exact key _ a1
  · exact key _ a2
  · exact key _ a3
  · exact key _ a4
  · exact key _ a5
  · exact key _ a6
  · exact key _ a7
end
section
variable {X : Cx} {T : TabC} {W : WX}
theorem ok_isClG {x : Str} {C : Addr} {e : Expr} {f : SE} {ans : Nat → Option Bool} {p p2 pos : Pos} (hm : X.mg "isinstance" = none) (hm2 : X.mg x = some (.ref C)) (ha : OKT X T W e f) (hk : ∀ c b, ans c = some b → ClsI X.K (T c) ∧ PySem.W.kitOne X.K (.ref (T c)) (.ref C) = some b) (hn : NoInst X.K C) (hv0 : bootBuiltins "isinstance" = some (.builtin "isinstance"))
    (hg : Gl X "isinstance" := by rfl) (hg2 : Gl X x := by rfl) (hd : (x == ("__debug__" : Str)) = false := by decide)
    (h1 : starEach [e, .Name x p2] X.env = (false, eval e X.env) :: starEach [.Name x p2] X.env := by rfl) (hpl : (backTo pos (starEach [.Name x p2] X.env)).any (·.1) = false := by rfl) : OKE X T W (.Call (.Name "isinstance" p) [e, .Name x p2] [] pos) (eUn (isClG ans) f) :=
  pe_imp (pe_callB call_isi hg hm hv0 (pa_cons ha (pa_cons (pe_glob (v := .ref C) hg2 hm2 rfl hd) pa_nil) h1) (by decide) (by decide) h1 hpl) fun σ H Q ⟨fr, B, ρ, E, p⟩ => ⟨fr, B, ρ, E, p.bind fun d ρ1 B1 H1 v _ s1 E1 r1 p1 => by
    obtain ⟨d3, e3, p3⟩ := p1.opt
    cases d with
    | ins c fs =>
      obtain ⟨b, e4, rfl⟩ := map_some e3
      obtain ⟨k1, k2⟩ := hk c b e4
      obtain ⟨a, dx, vfs, rfl, h1, _⟩ := (RT.tp E1 r1).ins E1.bh
      exact ⟨_, .ref C, .ref (T c), .ref C, b, rfl, .own C, .base (.ins h1 k1.cl k1.ha k1.hn k1.htk k1.hm), k2, p3.done E1 (.bl b)⟩
    | dct kvs => cases e3
    | sti xs => cases e3
    | _ => cases e3; exact ⟨_, .ref C, .type _, .ref C, false, rfl, .own C, (RT.tp E1 r1).tyx E1.bh rfl, hn _ (by simp), p3.done E1 (.bl false)⟩⟩
end
end VL
end

section
set_option maxRecDepth 100000
set_option maxHeartbeats 1000000
namespace VL
open PySem L2 PyProof.Rows
section
variable {X : Cx} {T : TabC} {W : WX}
theorem ok_dicI1 {k : Int} {v1 : Expr} {g1 : SE} {d1 : D} {j1 : Nat} {p1 pos : Pos} (h1 : OKE X T W v1 g1) (c1 : ∀ ρ, g1 ρ = .ok d1 ρ) :
    OKE X T W (.Dict [some (.Constant (.int k) j1 p1)] [v1] pos) (eC (.dic [(.int k, d1)])) :=
  pe_imp (pe_disp (pps_cons pe_int h1 pps_nil) rfl rfl (by simp) (by show 1 ≤ 15; decide)) fun σ H Q ⟨fr, B, ρ, E, p⟩ => by
    intro q hq
    have hf : fr.F q = none := E.fh.free hq
    have hb0 : fr.B0 q = none := by
      cases z : fr.B0 q with
      | none => rfl
      | some o =>
        have := E.bh _ _ (E.b0 _ _ z)
        rw [hq] at this; cases this
    have E0 := E.allocOwn (o := .dK []) hq
    have ow : OwnAt X.K T fr B (upd H q (.dK [])) q (.dic []) := OwnAt.new E hq ⟨[], upd_same, .nil⟩
    have EM := E0.mask ow (fun i s a b => E.apart_new hq i s a b) upd_same
    refine ⟨fr.mask q (.dK []), B, ρ, EM, ?_⟩
    rw [c1]
    intro B1 H1 w1 s1 E1 r1
    obtain ⟨E3, e3, b3, ap3⟩ := E1.unmask hf hb0
    refine ⟨e3, [(.inl k, w1)], rfl, by show 1 ≤ 15; decide, ?_⟩
    have em : mergeK [] [(Sum.inl k, w1)] = [((Sum.inl k : Key), w1)] := by
      unfold mergeK
      simp [putK]
    rw [em]
    have E4 := E3.poke (p := q) (o := .dK [(.inl k, w1)]) b3 hf ap3
    have ow4 : OwnAt X.K T fr B1 (upd H1 q (.dK [(.inl k, w1)])) q (.dic [(.int k, d1)]) := ⟨b3, hf, ow.i, ⟨_, upd_same, .int r1 .nil⟩⟩
    obtain ⟨o, _, E5, s5, r5⟩ := E4.share ow4 ap3
    exact p _ _ _ (s1.trans s5) E5 r5
end
end VL
end

section
set_option maxRecDepth 100000
set_option maxHeartbeats 1000000
namespace VL
open PySem L2 PyProof.Rows
section
variable {X : Cx} {T : TabC} {W : WX}
end
end VL
end

section
set_option maxRecDepth 100000
set_option maxHeartbeats 1000000
namespace VL
open PySem L2 PyProof.Rows
section
variable {X : Cx} {T : TabC} {W : WX}
theorem op_addO {k c : Nat} {fn : FnS} (hc : SpecAt X T k "__add__" c fn) (hs1 : PySem.W.selfFirst X.K (T c) = true) (hr : Room k X.A) : OpR X (binaryOp .Add) (rEqO X T (oAddO c fn)) := by
  intro pins s σ H x y v u Q I rx ry ⟨σ', fr, B, ρ, d1, d2, d, E, r1, r2, e, q⟩
  unfold oAddO at e
  split at e
  · rename_i c1 fs1 c2 fs2
    split at e
    · rename_i hcc
      obtain ⟨rfl, rfl⟩ := hcc
      split at e
      · rename_i c3 f3 o ev
        cases e
        obtain ⟨f0, ps, hs, hf, F⟩ := hc.ex
        have R1 := r1
        have R2 := r2
        cases r1 with
        | ins h1 h2 =>
          cases r2 with
          | ins g1 g2 =>
            cases rx
            cases ry
            obtain ⟨od, J⟩ := Inv.instAt I (E.bh _ _ h1)
            obtain ⟨od2, J2⟩ := Inv.instAt I (E.bh _ _ g1)
            obtain ⟨m, hF⟩ := I.fr
            refine PySem.W.binop_K (op := .Add) hF I.ok.mod.kin J J2.type hs1 hs hf ?_
            refine wpAny_mono (run_spec (W := W0) (us := [.ref _, .ref _]) (vs := [V.ref _, V.ref _]) F hr I.env0 takesNone I (.cons rfl (.cons rfl .nil)) (spec_val (Q := fun v H' => (∃ a, v = .ref a) ∧ Q v H') E (.cons R1 (.cons R2 .nil)) ev fun B' H' v s E' r' => ?_)) (fun w s' z => ?_) fun _ _ x => x
            · refine ⟨?_, q B' H' v s ?_ r'⟩
              · cases r' with
                | ins z1 z2 => exact ⟨_, rfl⟩
              · exact E'
            · obtain ⟨z', H', I', rz, ⟨a, rfl⟩, qz⟩ := z
              cases rz
              exact ⟨.ref a, H', I', rfl, qz⟩
      · cases e
    · cases e
  · cases e
theorem ok_addO {k c : Nat} {fn : FnS} {a b : Expr} {f g : SE} {pos : Pos} (hc : SpecAt X T k "__add__" c fn) (hs1 : PySem.W.selfFirst X.K (T c) = true) (hr : Room k X.A) (ha : OKE X T W a f) (hb : OKE X T W b g) : OKE X T W (.BinOp a .Add b pos) (eOp (oAddO c fn) f g) :=
  pe_imp (pe_op (op_addO hc hs1 hr) ha hb) fun σ H Q h => readO h
end
end VL
end

section
namespace VL
open PySem (Str)
def compLX (vs : List Nat) (g : SG) (t : ST) (e : SE) : List D → List D → SEnv → Out (List D)
  | [], acc, ρ => .ok acc ρ
  | x :: xs, acc, ρ => match g x (wipeE ρ vs) with
    | none => .bad
    | some ρ1 => match t ρ1 with
      | .ok true ρ2 => (match e ρ2 with
        | .ok d ρ3 => if acc.length < SZ then compLX vs g t e xs (acc ++ [d]) (wipeE ρ3 vs) else .bad
        | .exc c fs ρ3 => .exc c fs ρ3
        | .bad => .bad)
      | .ok false ρ2 => compLX vs g t e xs acc (wipeE ρ2 vs)
      | _ => .bad
def outX (ρ1 : SEnv) (vs : List Nat) : Out (List D) → Out D
  | .ok ds ρ2 => .ok (.lst ds) (backE ρ1 ρ2 vs)
  | .exc c fs ρ2 => .exc c fs (backE ρ1 ρ2 vs)
  | .bad => .bad
def eCompX (it : SI) (vs : List Nat) (g : SG) (t : ST) (e : SE) : SE := fun ρ => (it ρ).bind fun xs ρ1 =>
  if shOnly ρ1 vs then outX ρ1 vs (compLX vs g t e xs [] (wipeE ρ1 vs)) else .bad
end VL
end

section
set_option maxRecDepth 100000
set_option maxHeartbeats 1000000
namespace VL
open PySem L2 PyProof.Rows
section
variable {X : Cx} {pins pins' : List (Addr × Obj)} {σ σ' : L2.St} {H H3 : Hp} {s s3 s' : Shared}
theorem comp_fails {E : XK} {xe : Value → Shared → Prop} {scope : Scope} {ce : Env} {fp : List Addr} {u : Value} (hs : X.stack = X.env :: X.outer) (hf : X.env.frame = some X.env.locals) (tk : Takes X (fun cls d _ H => E cls d H))
    (I3 : Inv X pins σ H3 s3) (hC : ce.locals = s3.heap.objs.size) (hcf : ce.frame = X.env.frame) (f3 : ∀ b ∈ fp, FpOk X pins H3 b) (Iy : Inv ((X.blk s3 H3 scope ce fp).wish xe) pins' σ' H s) (c : L2.CX X.prog X.w X.stack H s E u s') :
    notedBy (model X.prog X.w) X.A ce (CompFails (model X.prog X.w) X.A X.xe ce) u s' := by
  obtain ⟨a, B, H', cls, d, rfl, fl, hok, ub, na, os, ag, hE⟩ := c
  obtain ⟨m, ⟨oC, es, ep, hoC, hdC, r⟩, _⟩ := Iy.loc
  have hoC : s.heap.get? ce.locals = some oC := hoC
  have HsC : H ce.locals = none := Iy.free
  have Cfs : ce.locals ∉ frs X.stack := fun z => by
    obtain ⟨_, o, e, _⟩ := I3.stack.mem z
    have := Heap.lt_size e
    rw [hC] at this
    exact Nat.lt_irrefl _ this
  have BC : B.get? ce.locals = some oC := ub.keep _ _ hoC HsC Cfs
  have nC' : H' ce.locals = none := ub.free _ _ hoC HsC
  have sC : s'.heap.get? ce.locals = some oC := fl.1 _ _ BC
  have hfr : X.A.frames = some (X.env :: X.outer) := by rw [I3.ok.frames, hs]
  show wpAny _ _ (noteFrame (.ref a) ce) _ _ s'
  rw [noteFrame_env _ hcf]
  rw [hs] at fl
  refine HandSPX.looks_onZ Zc.steady hfr hf fl fun h1 hh up1 => ?_
  obtain ⟨slC, h1C⟩ := up1 _ _ sC (fun vs q => by rw [hdC] at q; cases q)
  refine ⟨m, ⟨_, es, ep, h1C, hdC, r⟩, fun h2 m2 hn2 sb => ?_⟩
  obtain ⟨b1, b0, f1, t1⟩ := hh
  have hid : ∀ {b : Addr} {o : Obj}, (PySem.W.hideAll B [ce.locals]).get? b = some o → b ≠ ce.locals ∧ B.get? b = some o := fun {b o} e => by
    refine ⟨fun z => ?_, PySem.W.of_hideAll _ e⟩
    rw [PySem.W.hideAll_none _ (by simp [z])] at e
    cases e
  have toh : ∀ {b : Addr} {o : Obj}, b ≠ ce.locals → B.get? b = some o → (PySem.W.hideAll B [ce.locals]).get? b = some o := fun {b o} hb e => PySem.W.hideAll_get _ e (by simpa using hb)
  have hno : ∀ {b : Addr}, B.get? b = none → (PySem.W.hideAll B [ce.locals]).get? b = none := fun {b} e => by
    cases q : (PySem.W.hideAll B [ce.locals]).get? b with
    | none => rfl
    | some o => rw [(hid q).2] at e; cases e
  have b2 : (PySem.W.hideAll B [ce.locals]).StaysIn h2 := fun b o e => by
    obtain ⟨hb, e⟩ := hid e
    exact (sb.2 b hb).trans (b1 b o e)
  have f2 : h2.FunFrames (PySem.W.hideAll B [ce.locals]) (X.env :: X.outer) := funFrames_none (Heap.FunFrames.sameBut sb hn2 f1) fun L hL => hno (f1.mem hL).1
  have t2 : HandSPX.TracedZ h2 (PySem.W.hideAll B [ce.locals]) a (Zc cls d) (rawInt X.env.locals) := by
    obtain ⟨oe, vs, T, oT, ts, he, hz, hd, x1, hnT, hTe, hT, hdT, x3⟩ := t1
    refine ⟨oe, vs, T, oT, ts, (sb.2 a fun z => ?_).trans he, hz, hd, x1, hno hnT, hTe, (sb.2 T fun z => ?_).trans hT, hdT, x3⟩
    · rw [z, BC] at b0; cases b0
    · rw [z, BC] at hnT; cases hnT
  have hh2 : HandSPX.HeldZ (PySem.W.hideAll B [ce.locals]) (X.env :: X.outer) a (Zc cls d) X.env.locals h2 := ⟨b2, hno b0, f2, t2⟩
  obtain ⟨oe, vs, T, oT, ts, he, hz, hd, x1, hnT, hTe, hT, hdT, x3⟩ := t2
  unfold PySem.passOn
  refine wpAny_bind (wpAny_field he hd x1 ?_)
  rw [if_neg (show ¬ ((Value.ref T == Value.none) = true) from by simp)]
  rw [hcf, hf]
  refine wpAny_bind (HandSPX.setFlight_onZ hh2 fun h3 hh3 up3 => wpAny_throw ?_)
  refine tk _ _ ?_
  obtain ⟨G, g1, g2⟩ := restrict h3 fun b => ((PySem.W.hideAll B [ce.locals]).get? b).isSome || decide (b ∈ frs X.stack)
  have st : (PySem.W.hideAll B [ce.locals]).StaysIn h3 := hh3.1
  have gB : ∀ b o, (PySem.W.hideAll B [ce.locals]).get? b = some o → G.get? b = some o := fun b o e => by
    rw [g1 b (by simp [e])]
    exact st b o e
  have gF : ∀ b, b ∈ frs X.stack → G.get? b = h3.get? b := fun b hb => g1 b (by simp [hb])
  have og : ∀ b o, G.get? b = some o → h3.get? b = some o ∧ (((PySem.W.hideAll B [ce.locals]).get? b).isSome = true ∨ b ∈ frs X.stack) := fun b o e => by
    cases q : (((PySem.W.hideAll B [ce.locals]).get? b).isSome || decide (b ∈ frs X.stack)) with
    | false => rw [g2 b q] at e; cases e
    | true =>
      rw [g1 b q] at e
      exact ⟨e, by simpa [Bool.or_eq_true] using q⟩
  have neC : ∀ {b : Addr} {o : Obj}, s3.heap.get? b = some o → b ≠ ce.locals := fun {b o} e z => by
    have := Heap.lt_size e
    rw [z, hC] at this
    exact Nat.lt_irrefl _ this
  have slotG : ∀ b o, s3.heap.get? b = some o → H3 b = none → b ∈ frs X.stack → b ∉ fp → (∀ vs, o.data ≠ .fields vs) → ∃ sl, G.get? b = some { o with slots := sl } := fun b o e n hb hx hnf => by
    obtain ⟨sl1, q1⟩ := Iy.base.slot b o e n hb hx
    obtain ⟨sl2, q2⟩ := ub.slot b _ q1 hb
    obtain ⟨sl3, q3⟩ := up1 b _ q2 hnf
    have q4 : h2.get? b = _ := (sb.2 b (neC e)).trans q3
    obtain ⟨sl5, q5⟩ := up3 b _ q4 hnf
    exact ⟨sl5, by rw [gF b hb]; exact q5⟩
  have hokB : HOk X.prog X.w H' (PySem.W.hideAll B [ce.locals]) := fun b o q => (hok b o q).stay (fun c v hc e => toh (fun z => by
    rcases hc with hc | hc
    · rw [← hc, z, nC'] at q; cases q
    · rw [z, nC'] at hc; cases hc) e) (fun _ e => e) fun _ _ e => e
  have fpC : FpOk X pins H' ce.locals := I3.fpOk (by rw [hC]; exact Nat.le_refl _) nC'
  have un : Un (frs X.stack) (ce.locals :: fp) H3 H' s3.heap G := by
    have nx : ∀ {b : Addr}, b ∉ ce.locals :: fp → b ≠ ce.locals ∧ b ∉ fp := fun {b} h => by simpa using h
    refine ⟨fun b o e n hb hx => ?_, fun b o e n hb hx => ?_, fun b o e n hx => ?_, fun b o e hx => ?_, fun b xs e => ub.tups b xs (Iy.base.tups b xs e), fun b o v e => ub.frzs b o v (Iy.base.frzs b o v e), fun b ps e => ?_⟩
    · exact gB b o (toh (nx hx).1 (ub.keep b o (Iy.base.keep b o e n hb (nx hx).2) (Iy.base.free b o e n (nx hx).2) hb))
    · obtain ⟨_, o₀, e₀, hnf⟩ := I3.stack.mem hb
      rw [e] at e₀; cases e₀
      exact slotG b o e n hb (nx hx).2 hnf
    · obtain ⟨o', q⟩ := Iy.base.there b o e (nx hx).2
      exact ub.free b o' q (Iy.base.free b o e n (nx hx).2)
    · by_cases hb : b ∈ frs X.stack
      · obtain ⟨_, o₀, e₀, hnf⟩ := I3.stack.mem hb
        rw [e] at e₀; cases e₀
        obtain ⟨sl, q⟩ := slotG b o e (I3.stkFree b hb) hb (nx hx).2 hnf
        exact ⟨_, q⟩
      · obtain ⟨o', q⟩ := Iy.base.there b o e (nx hx).2
        obtain ⟨o2, q2⟩ := ub.there b o' q hb
        exact ⟨o2, gB b o2 (toh (nx hx).1 q2)⟩
    · obtain ⟨m1, q1⟩ := Iy.base.tbls b ps e
      obtain ⟨m2, q2⟩ := ub.tbls b _ q1
      exact ⟨m1 ++ m2, by rw [q2, Array.append_assoc]⟩
  refine ⟨a, PySem.W.hideAll B [ce.locals], { s' with heap := G }, pins, σ, H', cls, d, rfl, ?_, fun b o e hb => ?_, Heap.UpToSlots.of_keeps fun b o e => (og b o e).1, .inr (.inr (by rw [hs]; exact hh3)), na, rfl, ag, hE⟩
  · refine I3.call' (ch := ce.locals :: fp) (os.trans Iy.os) un (hokB.kept gB) ag fun b hb => ?_
    rcases List.mem_cons.mp hb with rfl | hb
    · exact ⟨fpC.2.2.2.1, fpC.2.1, fpC.2.2.2.2.1, fpC.2.2.2.2.2⟩
    · have z := f3 b hb
      exact ⟨z.2.2.2.1, z.2.1, z.2.2.2.2.1, z.2.2.2.2.2⟩
  · obtain ⟨e', h⟩ := og b o e
    rcases h with h | h
    · obtain ⟨o', q⟩ := Option.isSome_iff_exists.mp h
      have z := st b o' q
      rw [e'] at z; cases z
      exact q
    · exact absurd h hb
end
end VL
namespace VL
open PySem L2 PyProof.Rows
section
variable {X : Cx}
def PassC (X : Cx) (E : XK) (xe : Value → Shared → Prop) : Prop := ∀ (pins : List (Addr × Obj)) (σ : L2.St) (H : Hp) (s : Shared) (u : Value) (s' : Shared), Inv (X.wish xe) pins σ H s → L2.CX X.prog X.w X.stack H s E u s' → xe u s'
structure LcB (X : Cx) (pins : List (Addr × Obj)) (σ : L2.St) (H3 : Hp) (s3 : Shared) (ce : Env) (fp : List Addr) : Prop where
  inv : Inv X pins σ H3 s3
  cl : ce.locals = s3.heap.objs.size
  fr : ce.frame = X.env.frame
  its : ∀ b ∈ fp, FpOk X pins H3 b
def LcI (Y : Cx) (τ : L2.St) (tn : Nat → Heap → Prop) (fp : List Addr) (V : Nat → Nat → Hp → Prop) (n : Nat) (s : Shared) : Prop := ∃ i G, (Inv Y [] τ G s ∧ tn i s.heap ∧ ∀ b ∈ fp, G b = none) ∧ V i n G
section
variable {pins : List (Addr × Obj)} {σ τ : L2.St} {H3 G : Hp} {s2 s3 s4 s : Shared} {ce : Env} {fp : List Addr} {scope : Scope} {Q : VK} {D : Addr}
theorem LcB.ends (L : LcB X pins σ H3 s3 ce fp) (J : Inv (X.blk s3 H3 scope ce fp) [] τ G s) (q : Q (.ref D) G) : compEnds (model X.prog X.w) X.A X.xe none (EP X pins σ Q) (.ref D) ce (.ok .next) s := by
  have free : G ce.locals = none := J.free
  have back : Inv X pins σ G s := L.inv.call' J.os J.base J.hok J.bare fun b hb => by
    obtain ⟨_, z1, _, z3, z4, z5⟩ := L.its b hb
    exact ⟨z3, z1, z4, z5⟩
  obtain ⟨z0, z1, _, z3, z4, z5⟩ := L.inv.fpOk (b := ce.locals) (H' := G) (Nat.le_of_eq L.cl.symm) free
  obtain ⟨m, names, _⟩ := J.loc
  exact ⟨m, names, fun h' sb => ⟨.ref D, G, back.turned (t' := s.toks) (fun b o ne e => by rw [sb.2 b ne]; exact e) z0 z1 z3 z4 z5, rfl, q⟩⟩
theorem LcB.seen (J : Inv (X.blk s3 H3 scope ce fp) [] τ G s) (fn : ∀ b ∈ fp, G b = none) (b : Addr) (hb : b ∈ fp) : FpOk (X.blk s3 H3 scope ce fp) [] G b := by
  have x := J.ok.exf b hb
  refine ⟨fn b hb, x.1, J.ok.exfs b hb, Or.inl hb, x.2, fun p hp => ?_⟩
  cases hp
theorem LcB.turns {P : Program} {w : World} {K : PySem.W.Frag} {tg : Expr} {J : It} {it : Addr} {tn : Nat → Heap → Prop} {i : Nat} {vs : List Nat} {s7 : Shared} (T : Turn P w K tg J fp it tn) (st : tn (i + 1) s7.heap) (hw : wipe τ vs = wipe σ vs)
    (I' : Inv (X.blk s3 H3 scope ce fp) ([] ++ pinsAt fp s7.heap) τ G s) : Inv (X.blk s3 H3 scope ce fp) [] (wipe σ vs) G s ∧ tn (i + 1) s.heap ∧ ∀ b ∈ fp, G b = none := by
  have held : ∀ b ∈ fp, ∀ o, s7.heap.get? b = some o → s.heap.get? b = some o ∧ G b = none := by
    intro b hb o e
    have z := I'.pin (b, o) (by simpa using mem_pinsAt hb e)
    exact ⟨z.1, z.2.1⟩
  refine ⟨(I'.unpinned (pins := [])).weak (by rw [← hw]; exact wipe_length τ vs) fun j v e => ?_, T.keep _ _ _ st fun b hb o e => (held b hb o e).1, fun b hb => ?_⟩
  · rw [← hw] at e
    exact (wipe_some e).1
  · have z := T.obj _ _ st b hb
    exact (held b hb z.choose z.choose_spec.1).2
theorem lc_open {R : Value → Env → Result → Shared → Prop} {Ex : Value → Shared → Prop} {e : Expr} {itv : Value} {own : List (Str × Nat)} {tg : Expr} {J : It} {it : Addr} {tn : Nat → Heap → Prop} {H2 : Hp} (I2 : Inv X pins σ H2 s2) (ok : BlkOk X.N X.env.scope scope own) (hN : X.N.Nodup)
    (T : Turn X.prog X.w X.K tg J fp it tn) (st : tn 0 s2.heap) (f2 : ∀ b ∈ fp, FpOk X pins H2 b)
    (k : ∀ (D : Addr) (s3 s4 : Shared) (C : Addr) (cl : List (Str × Addr)), H2 D = none → LcB X pins σ (upd H2 D (.lst [])) s3 (compEnvC scope cl C X.env) fp → Inv (X.blk s3 (upd H2 D (.lst [])) scope (compEnvC scope cl C X.env) fp) [] (wipe σ (own.map (·.2))) (upd H2 D (.lst [])) s4 ∧ tn 0 s4.heap ∧ (∀ b ∈ fp, upd H2 D (.lst []) b = none) →
      codeAny (model X.prog X.w) X.A (.compStart e 0 itv (.ref D) (compEnvC scope cl C X.env)) (R (.ref D) (compEnvC scope cl C X.env)) s4) :
    wpAny (model X.prog X.w) X.A (newList []) (fun acc s => wpAny (model X.prog X.w) X.A (newFunctionEnv scope X.env.globals (cloFrom X.env.cells scope.names []) [] X.env.qual none .none (some X.env)) (fun cenv s' =>
      codeAny (model X.prog X.w) X.A (.compStart e 0 itv acc { cenv with scope := relabel scope X.env }) (R acc { cenv with scope := relabel scope X.env }) s') Ex s) Ex s2 := by
  have hn : H2 s2.heap.objs.size = none := I2.hok.fresh (Nat.le_refl _)
  have low : ∀ b ∈ fp, b < s2.heap.objs.size := fun b hb => (T.obj _ _ st b hb).elim fun o z => Heap.lt_size z.1
  have more : ∀ b o, s2.heap.get? b = some o → (s2.heap.push { cls := .type "list", data := .seq ([] : List Value).toArray }).get? b = some o := fun b o e => Heap.get?_push_of_some _ e
  have J : Inv X pins σ (upd H2 s2.heap.objs.size (.lst [])) { s2 with heap := s2.heap.push { cls := .type "list", data := .seq ([] : List Value).toArray } } :=
    I2.laid (t' := s2.toks) more (Nat.le_refl _) ⟨by decide, [], 0, .nil, Heap.get?_push_size _ rfl⟩
  have its : ∀ b ∈ fp, FpOk X pins (upd H2 s2.heap.objs.size (.lst [])) b := fun b hb => ⟨by rw [upd_ne (Nat.ne_of_lt (low b hb))]; exact (f2 b hb).1, (f2 b hb).2⟩
  refine wpAny_newObj_type (newEnv_comp ?_) (Nat.zero_le sizeLine)
  refine k s2.heap.objs.size _ _ _ _ hn ⟨J, rfl, rfl, its⟩ ⟨block_start J ok hN fun b hb => ⟨its b hb, ?_⟩, T.keep _ _ _ st fun b _ o e => pushCells_keeps _ _ _ _ (Heap.get?_push_of_some _ (more b o e)), fun b hb => (its b hb).1⟩
  show b < (s2.heap.push _).objs.size
  rw [Heap.size_push]
  exact Nat.lt_succ_of_lt (low b hb)
end
theorem pe_lcX {E : XK} {elt tg iter : Expr} {ifs : List Expr} {scope : Scope} {own : List (Str × Nat)} {pos : Pos} {wi : TI} {g : TG} {tt : TT} {te : TE} (hs : X.stack = X.env :: X.outer) (hf : X.env.frame = some X.env.locals) (tk : Takes X (fun cls d _ H => E cls d H))
    (hc : X.calm = true) (hN : X.N.Nodup) (hi : PI X tg iter wi) (ok : BlkOk X.N X.env.scope scope own)
    (hg : ∀ s H C cl fp, PG (X.blk s H scope (compEnvC scope cl C X.env) fp) tg g) (ht : ∀ s H C cl fp, PTs (X.blk s H scope (compEnvC scope cl C X.env) fp) ifs tt)
    (he : ∀ s H C cl fp xe, PassC (X.blk s H scope (compEnvC scope cl C X.env) fp) E xe → PE ((X.blk s H scope (compEnvC scope cl C X.env) fp).wish xe) elt te)
    (hsi : ∀ x, foldedSetIterable iter X.env x = pure x := by intro _; rfl) :
    PE X (.ListComp elt [⟨tg, iter, ifs, 0⟩] scope pos) (tLc wi g tt te (own.map (·.2))) := by
  constructor
  intro pins s σ H Q I h
  rw [eval_ListComp]
  have free : ∀ y ∈ scope.names, y.2 = .free → ∃ c, X.env.cells.lookup y.1 = some c := fun y hy e => by
    cases ok.free y hy e with
    | inl z => exact I.ok.has _ (Or.inl z)
    | inr z => exact I.ok.has _ (Or.inr z)
  refine comprehension_at (use := none) rfl hsi (closure_ok free) ok.kind (fun y hy e => (ok.uniq y hy).trans (by rw [e])) (thn (hi.run pins s σ H _ I h) fun _ _ z => thn z ?_)
  rintro _ s2 ⟨it, fp, tn, J, H2, rfl, I2, T, st2, f2, q⟩
  refine lc_open (R := fun acc ce => compEnds (model X.prog X.w) X.A X.xe none (EP X pins σ Q) acc ce) I2 ok hN T st2 f2 fun D s3 s4 C cl hD L start => ?_
  obtain ⟨V, ⟨m0, v0⟩, turn⟩ := q D hD
  have pe := he s3 (upd H2 D (.lst [])) C cl fp _ fun pins' σ' H' s u s' Iy c => comp_fails hs hf tk L.inv L.cl L.fr L.its Iy c
  have pg := hg s3 (upd H2 D (.lst [])) C cl fp
  have pt := ht s3 (upd H2 D (.lst [])) C cl fp
  generalize hY : (compEnvC scope cl C X.env) = ce at L start pe pg pt ⊢
  have loop : codeAny (model X.prog X.w) X.A (.compLoop (.ListComp elt [⟨tg, iter, ifs, 0⟩] scope pos) 0 (.ref it) (.ref D) ce) (compEnds (model X.prog X.w) X.A X.xe none (EP X pins σ Q) (.ref D) ce) s4 := by
    refine compLoop_any (LcI (X.blk s3 (upd H2 D (.lst [])) scope ce fp) (wipe σ (own.map (·.2))) tn fp V) (fun n s5 => ?_) m0 ⟨0, _, start, v0⟩
    rintro ⟨i, G, ⟨I5, t5, n5⟩, v5⟩
    cases turn i n G v5 with
    | inl z =>
      refine thnF (T.done (X.blk s3 (upd H2 D (.lst [])) scope ce fp) rfl rfl rfl hc i [] s5 _ G (fun _ _ => False) I5 (LcB.seen I5 n5) t5 z.1) ?_
      rintro _ s6 ⟨rfl, I6⟩
      exact L.ends I6 z.2
    | inr z =>
      obtain ⟨go, Nx, next, step⟩ := z
      have on : ∀ {τ : L2.St} {s7 s' : Shared} {G' : Hp}, tn (i + 1) s7.heap → wipe τ (own.map (·.2)) = wipe σ (own.map (·.2)) → Inv (X.blk s3 (upd H2 D (.lst [])) scope ce fp) ([] ++ pinsAt fp s7.heap) τ G' s' → Nx G' → ∃ m, m < n ∧ LcI (X.blk s3 (upd H2 D (.lst [])) scope ce fp) (wipe σ (own.map (·.2))) tn fp V m s' := by
        intro τ s7 s' G' t7 hw I' nx
        obtain ⟨m, lt, v⟩ := next G' nx
        exact ⟨m, lt, i + 1, G', LcB.turns T t7 hw I', v⟩
      refine thnF (T.item (X.blk s3 (upd H2 D (.lst [])) scope ce fp) rfl rfl rfl hc i [] s5 _ G (fun _ _ => False) I5 (LcB.seen I5 n5) t5 go) ?_
      rintro _ s6 ⟨u, rfl, z⟩
      refine thnF z ?_
      rintro _ s7 ⟨x, H7, I7, r7, y7, t7, n7⟩
      refine thnF (pg.run _ s7 _ H7 x u _ (I7.pinned (LcB.seen I7 n7) (T.obj _ _ t7)) r7 (step x H7 y7)) ?_
      rintro _ s8 ⟨τ, H8, I8, hw, q8⟩
      refine thnF (pt.run _ s8 τ H8 _ I8 q8) ?_
      rintro b s9 ⟨H9, I9, q9⟩
      cases b with
      | false => exact on t7 hw I9 q9
      | true =>
        refine wpAny_mono (pe.run _ s9 τ H9 _ (I9.wish _) q9) ?_ fun _ _ z => z
        rintro _ s10 ⟨y, H10, I10, r10, acc, a1, a2, a3⟩
        exact app_ok (X := X.blk s3 (upd H2 D (.lst [])) scope ce fp) I10.unwish a1 a2 r10 fun _ I11 => on t7 hw I11 a3
  exact codeAny_compStart_list loop (T.self X.A 0 _ _ _ start.2.1 loop)
end
end VL
namespace VL
open PySem L2
section
variable {X : Cx} {T : TabC} {W : WX}
theorem backE_at {ρ0 ρ : SEnv} {j : Nat} : ∀ {vs : List Nat}, (backE ρ0 ρ vs)[j]? = if j ∈ vs then ρ[j]?.map (fun _ => ρ0.getD j .no) else ρ[j]?
  | [] => by simp [backE]
  | v :: vs => by
    unfold backE
    have ih := backE_at (ρ0 := ρ0) (ρ := ρ) (j := j) (vs := vs)
    by_cases h : j = v
    · subst h
      rw [List.getElem?_set]
      simp only [List.mem_cons, true_or, if_true]
      rw [backE_len]
      by_cases hl : j < ρ.length
      · rw [if_pos hl, List.getElem?_eq_getElem hl]; rfl
      · rw [if_neg hl, List.getElem?_eq_none (by omega)]; rfl
    · rw [List.getElem?_set_ne (fun z => h z.symm), ih]
      simp [h]
theorem backE_wipe {ρ0 ρ : SEnv} {vs : List Nat} : backE ρ0 (wipeE ρ vs) vs = backE ρ0 ρ vs := by
  apply List.ext_getElem?
  intro j
  rw [backE_at, backE_at, wipeE_get]
  by_cases h : j ∈ vs
  · simp only [if_pos h, Option.map_map]
    cases ρ[j]? <;> rfl
  · simp only [if_neg h]
theorem lc_readX {EX : XK} {xs : List D} {vs is : List Nat} {g : SG} {t : ST} {e : SE} {fr : Frm} {B1 H1 : Hp} {ρ1 : SEnv} {σ : L2.St} {Dd : Addr} {Qd : Hp → Prop} {J : It} {K : PySem.W.Frag} {R : Out (List D) → Prop} (E1 : EnvOk K T fr B1 H1 ρ1 σ) (r1 : VWalk K T B1 xs J) (hd : H1 Dd = none) (hi : ∀ i ∈ is, i ∈ vs)
    (he : R (compLX vs g t e xs [] (wipeE ρ1 vs))) (hs : shOnly ρ1 vs = true) (rb : ¬ R .bad)
    (fin : ∀ ds ρf B2 H2, R (.ok ds ρf) → Same B1 B2 → EnvOk K T fr B2 H2 (backE ρ1 ρf vs) σ → OwnAt K T fr B2 H2 Dd (.lst ds) → Apart (backE ρ1 ρf vs) σ Dd → Qd H2)
    (rx : ∀ c fs ρf B2 H2 cv od, R (.exc c fs ρf) → Same B1 B2 → EnvOk K T fr B2 H2 (backE ρ1 ρf vs) σ → ExcAt K T B2 H2 c fs cv od → EX cv od H2) :
    ∃ W : Nat → Nat → Hp → Prop, (∃ m, W 0 m (upd H1 Dd (.lst []))) ∧ ∀ i m H, W i m H →
      (J.stop i H ∧ Qd H) ∨ (J.go i H ∧ ∃ Nx : Hp → Prop, (∀ H', Nx H' → ∃ m', m' < m ∧ W (i + 1) m' H') ∧ ∀ x H', J.yld i H x H' → rdG K T g is x (wipe σ vs) H' fun σ2 H2 => wipe σ2 vs = wipe σ vs ∧ rdB K T W0 t σ2 H2 fun b H3 =>
        if b = true then rdE K T (defW EX) e σ2 H3 fun y H4 => ∃ acc, H4 Dd = some (.lst acc) ∧ acc.length < sizeLine ∧ Nx (upd H4 Dd (.lst (acc ++ [y]))) else Nx H3) := by
  obtain ⟨G, Y, wk, hG, hY⟩ := r1
  have fd : fr.F Dd = none := E1.fh.free hd
  have bd0 : fr.B0 Dd = none := E1.b0.free (E1.bh.free hd)
  have id : ∀ k, fr.ia k ≠ some Dd := fun k z => E1.ih k Dd z hd
  refine lc_it wk (fun i H => ∃ B2 ρ2 acc vacc, Same B1 B2 ∧ EnvOk K T fr B2 H ρ2 (wipe σ vs) ∧ B2 Dd = none ∧ Apart ρ2 (wipe σ vs) Dd ∧ H Dd = some (.lst vacc) ∧ RepL K T B2 acc vacc ∧ (∀ j ∈ vs, ρ2[j]? = some .no ∨ ρ2[j]? = none) ∧ R (compLX vs g t e (xs.drop i) acc ρ2))
    ⟨B1, wipeE ρ1 vs, [], [], Same.refl _, (E1.allocOwn hd).wipeAll vs, E1.bh.free hd, (E1.apart_new hd).wipeAll, upd_same, .nil, fun j hj => by
      rw [wipeE_get, if_pos hj]
      cases ρ1[j]? <;> simp, he⟩ (fun i H _ ⟨B2, ρ2, acc, vacc, s2, E2, _⟩ => hG B2 H s2 E2.bh) ?_ ?_
  · rintro i v H2 H3 hi2 ⟨B2, ρ2, acc, vacc, s2, E2, b2, ap2, hD, ra, hno, eq⟩ y
    obtain ⟨d, B3, hdx, gr, r3⟩ := hY i H2 v H3 B2 hi2 s2 E2.bh y
    have hdr : xs.drop i = d :: xs.drop (i + 1) := by
      rw [List.drop_eq_getElem_cons hi2]
      rw [List.getElem?_eq_getElem hi2] at hdx
      rw [Option.some.inj hdx]
    rw [hdr] at eq
    unfold compLX at eq
    have hw : wipeE ρ2 vs = ρ2 := by
      apply List.ext_getElem?
      intro j
      rw [wipeE_get]
      by_cases h : j ∈ vs
      · rw [if_pos h]
        rcases hno j h with q | q <;> rw [q] <;> rfl
      · rw [if_neg h]
    rw [hw] at eq
    have E3 := gr.env E2
    have s3 := gr.same E2
    have hD3 : H3 Dd = some (.lst vacc) := by
      cases gr with
      | refl => exact hD
      | new o hp => rw [upd_ne (ne_of_none hD hp)]; exact hD
    have own2 : OwnAt K T fr B3 H3 Dd (.lst acc) := by
      refine ⟨?_, fd, id, vacc, hD3, ra.mono s3⟩
      cases gr with
      | refl => exact b2
      | new o hp => rw [upd_ne (ne_of_none hD hp)]; exact b2
    have E3m := E3.mask own2 ap2 hD3
    cases e1 : g d ρ2 with
    | none => rw [e1] at eq; exact (rb eq).elim
    | some ρ3 =>
      rw [e1] at eq
      simp only at eq
      refine ⟨_, B3, ρ2, d, ρ3, E3m, r3, e1, fun σ3 E4 tch => ⟨wipe_touch hi tch, _, B3, ρ3, E4, ?_⟩⟩
      have hws := wipe_touch hi tch
      cases q : t ρ3 with
      | bad => rw [q] at eq; exact (rb eq).elim
      | exc c fs ρ4 => rw [q] at eq; exact (rb eq).elim
      | ok b ρ4 =>
        rw [q] at eq
        intro B4 H4 b' s4 E5 rb'
        cases rb'
        cases b with
        | false =>
          rw [if_neg (by decide)]
          obtain ⟨E6, hD4, b4, ap4⟩ := E5.unmask fd bd0
          have z1 := E6.wipeAll vs
          rw [hws] at z1
          have z2 := ap4.wipeAll (vs := vs)
          rw [hws] at z2
          exact ⟨B4, wipeE ρ4 vs, acc, vacc, (s2.trans s3).trans s4, z1, b4, z2, hD4, (ra.mono s3).mono s4, fun j hj => by rw [wipeE_get, if_pos hj]; cases ρ4[j]? <;> simp, eq⟩
        | true =>
          rw [if_pos rfl]
          refine ⟨_, B4, ρ4, E5, ?_⟩
          simp only at eq
          cases q2 : e ρ4 with
          | bad => rw [q2] at eq; exact (rb eq).elim
          | exc c fs ρ5 =>
            rw [q2] at eq
            intro B5 H5 cv od s5 E6 rx5
            obtain ⟨E7, hD5, b5, ap5⟩ := E6.unmask fd bd0
            have z1 := E7.wipeAll vs
            rw [hws] at z1
            have hbk : backE ρ1 (wipeE ρ5 vs) vs = backE ρ1 ρ5 vs := backE_wipe
            have z3 := EnvOk.back E1 (((s2.trans s3).trans s4).trans s5) z1 hs
            rw [hbk] at z3
            exact rx c fs ρ5 B5 H5 cv od eq (((s2.trans s3).trans s4).trans s5) z3 rx5
          | ok dd ρ5 =>
            rw [q2] at eq
            simp only at eq
            split at eq
            · rename_i hz
              intro B5 H5 w s5 E6 rw5
              obtain ⟨E7, hD5, b5, ap5⟩ := E6.unmask fd bd0
              have z1 := (E7.poke (o := .lst (vacc ++ [w])) b5 fd ap5).wipeAll vs
              rw [hws] at z1
              have z2 := ap5.wipeAll (vs := vs)
              rw [hws] at z2
              have ra5 := ((ra.mono s3).mono s4).mono s5
              exact ⟨vacc, hD5, by rw [← ra.length, ← sz_eq]; exact hz, B5, wipeE ρ5 vs, acc ++ [dd], vacc ++ [w], ((s2.trans s3).trans s4).trans s5, z1, b5, z2, upd_same, ra5.append (.cons rw5 .nil), fun j hj => by rw [wipeE_get, if_pos hj]; cases ρ5[j]? <;> simp, eq⟩
            · exact (rb eq).elim
  · rintro H2 ⟨B2, ρ2, acc, vacc, s2, E2, b2, ap2, hD, ra, hno, eq⟩
    rw [List.drop_of_length_le (Nat.le_refl _)] at eq
    unfold compLX at eq
    exact fin acc ρ2 B2 H2 eq s2 (EnvOk.back E1 s2 E2 hs) ⟨b2, fd, id, vacc, hD, ra⟩ (ap2.back hs)
theorem ok_compX {EX : XK} {elt tg iter : Expr} {ifs : List Expr} {scope : Scope} {own : List (Str × Nat)} {pos : Pos} {it : SI} {g : SG} {is : List Nat} {t : ST} {e : SE} (hs : X.stack = X.env :: X.outer) (hf : X.env.frame = some X.env.locals) (tk : Takes X (defW EX))
    (hN : X.N.Nodup) (hc : X.calm = true) (hi : OKI X T (defW EX) tg iter it) (ok : BlkOk X.N X.env.scope scope own)
    (hg : ∀ (s : Shared) (H : Hp) (C : Addr) (cl : List (Str × Addr)) (fp : List Addr), OKG (X.blk s H scope (compEnvC scope cl C X.env) fp) T tg g is) (ht : ∀ (s : Shared) (H : Hp) (C : Addr) (cl : List (Str × Addr)) (fp : List Addr), OKPs (X.blk s H scope (compEnvC scope cl C X.env) fp) T W0 ifs t)
    (he : ∀ (s : Shared) (H : Hp) (C : Addr) (cl : List (Str × Addr)) (fp : List Addr) (xe : Value → Shared → Prop), PassC (X.blk s H scope (compEnvC scope cl C X.env) fp) EX xe → OKE ((X.blk s H scope (compEnvC scope cl C X.env) fp).wish xe) T (defW EX) elt e) (his : ∀ i ∈ is, i ∈ own.map (·.2) := by decide) (hsi : ∀ x, foldedSetIterable iter X.env x = pure x := by intro _; rfl) :
    OKO X T (defW EX) (.ListComp elt [⟨tg, iter, ifs, 0⟩] scope pos) (eCompX it (own.map (·.2)) g t e) :=
  pe_imp (pe_lcX (E := EX) (g := rdG X.K T g is) (tt := rdB X.K T W0 t) (te := rdE X.K T (defW EX) e) hs hf tk hc hN hi ok (fun s H C cl fp => (hg s H C cl fp).pg) ht he hsi) fun σ H Q ⟨fr, B, ρ, E, p⟩ => ⟨fr, B, ρ, E, p.bind fun xs ρ1 B1 H1 J _ s1 E1 r1 p1 => by
    intro Dd hd
    by_cases h0 : shOnly ρ1 (own.map (·.2)) = true
    · rw [if_pos h0] at p1
      refine lc_readX (EX := EX) (R := fun o => Post X.K T (RO X.K T fr σ) fr (defW EX) B1 σ Q (outX ρ1 (own.map (·.2)) o)) E1 r1 hd his p1 h0 (fun z => z) (fun ds ρf B2 H2 p2 s2 E2 o2 ap2 => p2 B2 H2 _ s2 E2 ⟨Dd, rfl, o2, ap2⟩) fun c fs ρf B2 H2 cv od p2 s2 E2 x2 => p2 B2 H2 cv od s2 E2 x2
    · rw [if_neg h0] at p1
      exact p1.elim⟩
section
variable {E : XK} {k : Nat} {f : Addr} {ps : List Str} {ds : List Value} {dvs : List V} {dfl : List D} {x : Str} {p pos : Pos} {e : Expr} {es : List Expr} {g : SA} {fn : FnS}
theorem ok_callC {xe : Value → Shared → Prop} (F : DefAt X.prog X.w X.K X.mg X.base k f ps ds (spV X.K T false fn)) (hd : Vals dvs ds) (hdr : ∀ B, RepL X.K T B dfl dvs) (hr : Room k X.A) (hm : X.mg x = some (.ref f)) (hx : PassC X E xe) (ha : OKA (X.wish xe) T (defW E) (e :: es) g)
    (hg : Gl X x := by rfl) (hdb : (x == ("__debug__" : Str)) = false := by decide)
    (he : starEach (e :: es) X.env = (false, eval e X.env) :: starEach es X.env := by rfl) (hpl : (backTo pos (starEach es X.env)).any (·.1) = false := by rfl) : OKE (X.wish xe) T (defW E) (.Call (.Name x p) (e :: es) [] pos) (eCall fn (aDef g dfl)) := by
  obtain ⟨fd, F1, b⟩ := F.ok
  exact pe_imp (pe_call (X := X.wish xe) (E := E) F1 hr hg hm F.kp b hd hx ha hdb he hpl) fun σ H Q ⟨fr, B, ρ, E0, p⟩ => ⟨fr, B, ρ, E0, Post.bind (o := g ρ) (by
    have z := p
    unfold eCall aDef at z
    cases q : g ρ with
    | ok a ρ1 => rw [q] at z; exact z
    | exc c fs ρ1 => rw [q] at z; exact z
    | bad => rw [q] at z; exact z) fun a ρ1 B1 H1 b _ s1 E1 r1 p1 => read_call (X := X.wish xe) (W := defW E) (fn := fn) (ρ := ρ1) E1 (r1.append (hdr B1)) p1⟩
end
end
end VL
end

section
set_option maxRecDepth 100000
namespace K18
open VL
abbrev c_MOST_ROUNDS : SE := eC (.int 12)
abbrev c_RIGHT : SE := eC (.tup [(.str "right")])
abbrev c_LEFT : SE := eC (.tup [(.str "left")])
abbrev c_MOST_EVERY : SE := eC (.int 4)
abbrev c_MOST_LENGTH : SE := eC (.int 400)
abbrev c_MOST_LAPS : SE := eC (.int 200)
abbrev c_STARTS : SE := eC (.tup [(.str "ones"), (.str "first"), (.str "last"), (.str "stairs")])
abbrev c_MOST_KINDS : SE := eC (.int 5)
abbrev c_MOST_LONG : SE := eC (.int 3)
def is_Program : Nat → Option Bool := tabOf [(0, true)]
abbrev ex_BadProgram : Nat → Option Bool := tabOf [(0, true), (1, false), (2, false), (3, false)]
abbrev ex_BadStart : Nat → Option Bool := tabOf [(0, false), (1, true), (2, false), (3, false)]
abbrev ex_Mixed : Nat → Option Bool := tabOf [(0, false), (1, false), (2, false), (3, true)]
def b__law_draw : SS :=
  (sSeq (sAsg 3 (eIf (tE (eOp oNeS (eVar 0) (eLst aNil))) (eSlL (eVar 0) pNo (pAt (eC (.int 60)))) (eLst (aCons (eC (.int 7)) aNil))))
  (sSeq (sPar 4 5 false false (eOp oIdx (eVar 3) (eOp oMod (eVar 1) (eUn oLen (eVar 3)))) (eOp oDiv (eVar 1) (eUn oLen (eVar 3))))
  (sSeq (sIf (tE (eOp oGe (eVar 4) (eOp oPow (eC (.int 10)) (eC (.int 18))))) (sSeq (sAsg 4 (eOp oMod (eUn oInt (eVar 4)) (eOp oPow (eC (.int 97)) (eC (.int 40)))))
  (sSeq (sFor (iRng1 (eOp oMod (eVar 5) (eC (.int 40)))) (gN 6) (sAsg 4 (eOp oDiv (eVar 4) (eC (.int 97)))))
  (sRet (eOp oMod (eOp oMod (eUn oInt (eVar 4)) (eC (.int 97))) (eVar 2))))) sSkip)
  (sSeq (sAsg 7 (eOp oAdd (eOp oMul (eOp oAdd (eOp oAdd (eOp oMod (eUn oInt (eOp oAdd (eVar 4) (eOp oMul (eC (.int 31)) (eVar 5)))) (eC (.int 1000003))) (eOp oMul (eC (.int 977)) (eVar 1))) (eC (.int 13))) (eC (.int 48271))) (eOp oMod (eUn oInt (eOp oDiv (eVar 4) (eC (.int 1000003)))) (eC (.int 999983)))))
  (sRet (eOp oMod (eUn oInt (eOp oMod (eOp oMul (eOp oMod (eVar 7) (eC (.int 2147483647))) (eC (.int 65537))) (eC (.int 4294967291)))) (eVar 2)))))))
def f__law_draw : FnS := fnOf 8 3 false false b__law_draw

def b__law_rounds : SS :=
  (sSeq (sOwn 4 (eLst (aCons (eTup (aCons (eVar 3) aNil)) (aCons (eTup (aCons (eC (.str "every")) (aCons (eC (.int 2)) (aCons (eC (.int 1)) aNil)))) (aCons (eTup (aCons (eC (.str "every")) (aCons (eC (.int 2)) (aCons (eC (.int 0)) aNil)))) (aCons (eTup (aCons (eC (.str "every")) (aCons (eC (.int 2)) (aCons (eC (.int 1)) aNil)))) (aCons (eTup (aCons (eC (.str "every")) (aCons (eC (.int 2)) (aCons (eC (.int 0)) aNil)))) aNil)))))))
  (sSeq (sIf (tE (eOp oEq (eCall f__law_draw (aDef (aCons (eVar 0) (aCons (eVar 1) (aCons (eC (.int 4)) aNil))) [])) (eC (.int 0)))) (sSeq (sAsg 5 (eOp oAdd (eC (.int 3)) (eCall f__law_draw (aDef (aCons (eVar 0) (aCons (eOp oAdd (eVar 1) (eC (.int 1))) (aCons (eC (.int 2)) aNil))) []))))
  (sSeq (sSetI 4 (eC (.int 1)) (eTup (aCons (eC (.str "every")) (aCons (eVar 5) (aCons (eCall f__law_draw (aDef (aCons (eVar 0) (aCons (eOp oAdd (eVar 1) (eC (.int 2))) (aCons (eVar 5) aNil))) [])) aNil)))))
  (sSetI 4 (eC (.int 3)) (eOp oIdx (eLk 4) (eC (.int 1)))))) sSkip)
  (sRetO (eComp (iRng1 (eCall f__law_draw (aDef (aCons (eVar 0) (aCons (eOp oAdd (eVar 1) (eC (.int 3))) (aCons (eOp oAdd (eVar 2) (eC (.int 1))) aNil))) []))) [6] (gN 6) tYesS (eOp oIdx (eLk 4) (eCall f__law_draw (aDef (aCons (eVar 0) (aCons (eOp oAdd (eOp oAdd (eVar 1) (eC (.int 4))) (eVar 6)) (aCons (eC (.int 5)) aNil))) [])))))))
def f__law_rounds : FnS := fnOf 7 4 false true b__law_rounds

def b_is_whole : SS :=
  (sRet (eAnd (eUn (isTy ["int"]) (eVar 0)) (eUn oNot (eUn (isTy ["bool"]) (eVar 0)))))
def f_is_whole : FnS := fnOf 1 1 false false b_is_whole

def b_is_round : SS :=
  (sSeq (sIf (tAnd (tE (eUn (isTy ["tuple"]) (eVar 0))) (tE (eOp oIn (eVar 0) (eTup (aCons c_RIGHT (aCons c_LEFT aNil)))))) (sRet (eC (.bl true))) sSkip)
  (sSeq (sIf (tOr (tNot (tE (eUn (isTy ["tuple"]) (eVar 0)))) (tOr (tE (eOp oNe (eUn oLen (eVar 0)) (eC (.int 3)))) (tE (eOp oNe (eOp oIdx (eVar 0) (eC (.int 0))) (eC (.str "every")))))) (sRet (eC (.bl false))) sSkip)
  (sSeq (sIf (tOr (tNot (tE (eCall f_is_whole (aDef (aCons (eOp oIdx (eVar 0) (eC (.int 1))) aNil) [])))) (tNot (tE (eCall f_is_whole (aDef (aCons (eOp oIdx (eVar 0) (eC (.int 2))) aNil) []))))) (sRet (eC (.bl false))) sSkip)
  (sRet (eAnd (eCh oLe oLe (eC (.int 2)) (eOp oIdx (eVar 0) (eC (.int 1))) c_MOST_EVERY) (eCh oLe oLt (eC (.int 0)) (eOp oIdx (eVar 0) (eC (.int 2))) (eOp oIdx (eVar 0) (eC (.int 1)))))))))
def f_is_round : FnS := fnOf 1 1 false false b_is_round

def b_Program___init__ : SS :=
  (sSeq (sIf (tOr (tNot (tE (eUn (isTy ["list", "tuple"]) (eVar 1)))) (tE (eOp oGt (eUn oLen (eVar 1)) c_MOST_ROUNDS))) (sRaise 0 (some "place") (aCons (eC .non) aNil)) sSkip)
  (sSeq (sFor (iEnum (eVar 1)) (gT [(gN 2), (gN 3)]) (sIf (tNot (tE (eCall f_is_round (aDef (aCons (eVar 3) aNil) [])))) (sRaise 0 (some "place") (aCons (eVar 2) aNil)) sSkip))
  (sFld 0 "rounds" (eUn oTuple (eVar 1)))))
def f_Program___init__ : FnS := fnOf 4 2 true false b_Program___init__

def b_check_program : SS :=
  (sIf (tNot (tE (eUn (isClG is_Program) (eVar 0)))) (sRaise 0 (some "place") (aCons (eC .non) aNil)) sSkip)
def f_check_program : FnS := fnOf 1 1 false false b_check_program

def b_check_length : SS :=
  (sIf (tOr (tNot (tE (eCall f_is_whole (aDef (aCons (eVar 0) aNil) [])))) (tNot (tE (eCh oLe oLe (eC (.int 1)) (eVar 0) c_MOST_LENGTH)))) (sRaise 1 none aNil) sSkip)
def f_check_length : FnS := fnOf 1 1 false false b_check_length

def b_check_basin : SS :=
  (sIf (tOr (tNot (tE (eCall f_is_whole (aDef (aCons (eVar 0) aNil) [])))) (tNot (tE (eCh oLe oLt (eC (.int 0)) (eVar 0) (eVar 1))))) (sRaise 1 none aNil) sSkip)
def f_check_basin : FnS := fnOf 2 2 false false b_check_basin

def b_gives : SS :=
  (sSeq (sExpr (eCall f_check_program (aDef (aCons (eVar 0) aNil) [])))
  (sSeq (sExpr (eCall f_check_length (aDef (aCons (eVar 1) aNil) [])))
  (sSeq (sExpr (eCall f_check_basin (aDef (aCons (eVar 2) (aCons (eVar 1) aNil)) [])))
  sBad)))
def f_gives : FnS := fnOf 3 3 false false b_gives

def b_got : SS :=
  (sSeq (sExpr (eCall f_check_program (aDef (aCons (eVar 0) aNil) [])))
  (sSeq (sExpr (eCall f_check_length (aDef (aCons (eVar 1) aNil) [])))
  (sSeq (sExpr (eCall f_check_basin (aDef (aCons (eVar 2) (aCons (eVar 1) aNil)) [])))
  sBad)))
def f_got : FnS := fnOf 3 3 false false b_got

def b_is_even_handed : SS :=
  (sSeq (sExpr (eCall f_check_program (aDef (aCons (eVar 0) aNil) [])))
  (sSeq (sExpr (eCall f_check_length (aDef (aCons (eVar 1) aNil) [])))
  sBad))
def f_is_even_handed : FnS := fnOf 6 2 false false b_is_even_handed

def b_stretches : SS :=
  (sSeq (sExpr (eCall f_check_program (aDef (aCons (eVar 0) aNil) [])))
  (sSeq (sExpr (eCall f_check_length (aDef (aCons (eVar 1) aNil) [])))
  sBad))
def f_stretches : FnS := fnOf 6 2 false false b_stretches

def b_check_laps : SS :=
  (sIf (tOr (tNot (tE (eCall f_is_whole (aDef (aCons (eVar 0) aNil) [])))) (tNot (tE (eCh oLe oLe (eC (.int 0)) (eVar 0) c_MOST_LAPS)))) (sRaise 1 none aNil) sSkip)
def f_check_laps : FnS := fnOf 1 1 false false b_check_laps

def b_left_behind : SS :=
  (sSeq (sExpr (eCall f_check_program (aDef (aCons (eVar 0) aNil) [])))
  (sSeq (sExpr (eCall f_check_length (aDef (aCons (eVar 1) aNil) [])))
  (sSeq (sExpr (eCall f_check_laps (aDef (aCons (eVar 2) aNil) [])))
  sBad)))
def f_left_behind : FnS := fnOf 10 3 false false b_left_behind

def b_judge_laps : SS :=
  (sSeq (sExpr (eCall f_check_program (aDef (aCons (eVar 0) aNil) [])))
  (sSeq (sExpr (eCall f_check_length (aDef (aCons (eVar 1) aNil) [])))
  sBad))
def f_judge_laps : FnS := fnOf 8 2 false false b_judge_laps

def b_is_part : SS :=
  (sSeq (sIf (tE (eUn (isTy ["tuple"]) (eVar 0))) (sRet (eAnd (eOp oEq (eUn oLen (eVar 0)) (eC (.int 2))) (eAnd (eCall f_is_whole (aDef (aCons (eOp oIdx (eVar 0) (eC (.int 0))) aNil) [])) (eAnd (eCall f_is_whole (aDef (aCons (eOp oIdx (eVar 0) (eC (.int 1))) aNil) [])) (eOp oGe (eOp oIdx (eVar 0) (eC (.int 1))) (eC (.int 1))))))) sSkip)
  (sRet (eCall f_is_whole (aDef (aCons (eVar 0) aNil) []))))
def f_is_part : FnS := fnOf 1 1 false false b_is_part

def b_common : SS :=
  (sSeq (sWhile (tE (eOp oNe (eVar 1) (eC (.int 0)))) (sPar 0 1 false false (eVar 1) (eOp oMod (eVar 0) (eVar 1))) 1000)
  (sRet (eVar 0)))
def f_common : FnS := fnOf 2 2 false false b_common

def b_part : SS :=
  (sSeq (sIf (tE (eOp oLt (eVar 1) (eC (.int 0)))) (sPar 0 1 false false (eUn oNeg (eVar 0)) (eUn oNeg (eVar 1))) sSkip)
  (sSeq (sAsg 2 (eCall f_common (aDef (aCons (eUn oAbs (eVar 0)) (aCons (eVar 1) aNil)) [])))
  (sRet (eTup (aCons (eOp oDiv (eVar 0) (eVar 2)) (aCons (eOp oDiv (eVar 1) (eVar 2)) aNil))))))
def f_part : FnS := fnOf 3 2 false false b_part

def b_as_part : SS :=
  (sSeq (sIf (tNot (tE (eCall f_is_part (aDef (aCons (eVar 0) aNil) [])))) (sRaise 2 none aNil) sSkip)
  (sRet (eIf (tE (eUn (isTy ["tuple"]) (eVar 0))) (eCall f_part (aDef (aCons (eOp oIdx (eVar 0) (eC (.int 0))) (aCons (eOp oIdx (eVar 0) (eC (.int 1))) aNil)) [])) (eCall f_part (aDef (aCons (eVar 0) aNil) [(.int 1)])))))
def f_as_part : FnS := fnOf 1 1 false false b_as_part

def b_check_volumes : SS :=
  (sSeq (sIf (tOr (tNot (tE (eUn (isTy ["list", "tuple"]) (eVar 0)))) (tNot (tE (eUn oAll (eComp (iSeq (eVar 0)) [1] (gN 1) tYesS (eCall f_is_part (aDef (aCons (eVar 1) aNil) []))))))) (sRaise 1 none aNil) sSkip)
  (sSeq (sExpr (eCall f_check_length (aDef (aCons (eUn oLen (eVar 0)) aNil) [])))
  (sRet (eUn oTuple (eComp (iSeq (eVar 0)) [1] (gN 1) tYesS (eCall f_as_part (aDef (aCons (eVar 1) aNil) [])))))))
def f_check_volumes : FnS := fnOf 2 1 false false b_check_volumes

def b_lapped : SS :=
  (sSeq (sExpr (eCall f_check_program (aDef (aCons (eVar 0) aNil) [])))
  (sSeq (sAsg 3 (eCall f_check_volumes (aDef (aCons (eVar 1) aNil) [])))
  (sSeq (sExpr (eCall f_check_laps (aDef (aCons (eVar 2) aNil) [])))
  (sSeq (sFor (iRng1 (eVar 2)) (gN 4) sBad)
  (sRet (eVar 3))))))
def f_lapped : FnS := fnOf 5 3 false false b_lapped

def b_lap_limit : SS :=
  (sSeq (sExpr (eCall f_check_program (aDef (aCons (eVar 0) aNil) [])))
  (sSeq (sPar 2 3 false false (eCall f_check_volumes (aDef (aCons (eVar 1) aNil) [])) (eLst aNil))
  sBad))
def f_lap_limit : FnS := fnOf 7 2 false false b_lap_limit

def b_moved : SS :=
  (sSeq (sExpr (eCall f_check_program (aDef (aCons (eVar 0) aNil) [])))
  (sSeq (sPar 3 4 false false (eCall f_check_volumes (aDef (aCons (eVar 1) aNil) [])) (eLst aNil))
  (sSeq (sExpr (eCall f_check_laps (aDef (aCons (eVar 2) aNil) [])))
  sBad)))
def f_moved : FnS := fnOf 10 3 false false b_moved

def b_lap_recurrence : SS :=
  (sSeq (sExpr (eCall f_check_program (aDef (aCons (eVar 0) aNil) [])))
  (sSeq (sAsg 3 (eCall f_check_volumes (aDef (aCons (eVar 1) aNil) [])))
  (sSeq (sExpr (eCall f_check_basin (aDef (aCons (eVar 2) (aCons (eUn oLen (eVar 3)) aNil)) [])))
  sBad)))
def f_lap_recurrence : FnS := fnOf 6 3 false false b_lap_recurrence

def b__law_asked : SS :=
  (sSeq (sIf (tE (eOp oLt (eVar 0) (eC (.int 4)))) (sSeq (sIf (tE (eOp oLt (eVar 0) (eC (.int 2)))) (sRet (eIf (tE (eOp oEq (eVar 0) (eC (.int 0)))) (eCall f_gives (aDef (aCons (eVar 1) (aCons (eVar 2) (aCons (eVar 3) aNil))) [])) (eCall f_got (aDef (aCons (eVar 1) (aCons (eVar 2) (aCons (eVar 3) aNil))) [])))) sSkip)
  (sRet (eIf (tE (eOp oEq (eVar 0) (eC (.int 2)))) (eCall f_is_even_handed (aDef (aCons (eVar 1) (aCons (eVar 2) aNil)) [])) (eCall f_stretches (aDef (aCons (eVar 1) (aCons (eVar 2) aNil)) []))))) sSkip)
  (sSeq (sIf (tE (eOp oLt (eVar 0) (eC (.int 8)))) (sSeq (sIf (tE (eOp oLt (eVar 0) (eC (.int 6)))) (sRet (eIf (tE (eOp oEq (eVar 0) (eC (.int 4)))) (eCall f_left_behind (aDef (aCons (eVar 1) (aCons (eVar 2) (aCons (eVar 5) aNil))) [])) (eCall f_judge_laps (aDef (aCons (eVar 1) (aCons (eVar 2) aNil)) [])))) sSkip)
  (sRet (eIf (tE (eOp oEq (eVar 0) (eC (.int 6)))) (eCall f_lapped (aDef (aCons (eVar 1) (aCons (eVar 4) (aCons (eVar 5) aNil))) [])) (eCall f_lap_limit (aDef (aCons (eVar 1) (aCons (eVar 4) aNil)) []))))) sSkip)
  (sRet (eIf (tE (eOp oEq (eVar 0) (eC (.int 8)))) (eCall f_moved (aDef (aCons (eVar 1) (aCons (eVar 4) (aCons (eVar 5) aNil))) [])) (eCall f_lap_recurrence (aDef (aCons (eVar 1) (aCons (eVar 4) (aCons (eVar 3) aNil))) []))))))
def f__law_asked : FnS := fnOf 6 6 false false b__law_asked

def b_turned_back : SS :=
  (sSeq (sExpr (eCall f_check_program (aDef (aCons (eVar 0) aNil) [])))
  sBad)
def f_turned_back : FnS := fnOf 3 1 false false b_turned_back

def b_straightened : SS :=
  (sSeq (sAsg 2 (eTup (aStar (eUn (fldD "rounds") (eVar 0)) (aStar (eUn (fldD "rounds") (eVar 1)) aNil))))
  (sSeq (sIf (tAnd (tE (eOp oIn c_RIGHT (eVar 2))) (tE (eOp oIn c_LEFT (eVar 2)))) (sRaise 3 none aNil) sSkip)
  sBad))
def f_straightened : FnS := fnOf 3 2 false false b_straightened

def b_check_programs : SS :=
  (sSeq (sExpr (eCall f_check_program (aDef (aCons (eVar 0) aNil) [])))
  (sSeq (sExpr (eCall f_check_program (aDef (aCons (eVar 1) aNil) [])))
  (sExpr (eCall f_straightened (aDef (aCons (eVar 0) (aCons (eVar 1) aNil)) [])))))
def f_check_programs : FnS := fnOf 2 2 false false b_check_programs

def b_tidy_program : SS :=
  (sSeq (sExpr (eCall f_check_programs (aDef (aCons (eVar 0) (aCons (eVar 0) aNil)) [])))
  sBad)
def f_tidy_program : FnS := fnOf 4 1 false false b_tidy_program

def b_judge_even : SS :=
  (sSeq (sExpr (eCall f_check_program (aDef (aCons (eVar 0) aNil) [])))
  sBad)
def f_judge_even : FnS := fnOf 6 1 false false b_judge_even

def b_check_start : SS :=
  (sSeq (sIf (tOr (tNot (tE (eUn (isTy ["str"]) (eVar 0)))) (tE (eOp oNotIn (eVar 0) c_STARTS))) (sRaise 1 none aNil) sSkip)
  (sIf (tOr (tNot (tE (eCall f_is_whole (aDef (aCons (eVar 1) aNil) [])))) (tNot (tE (eCh oLe oLe (eC (.int 0)) (eVar 1) (eC (.int 5)))))) (sRaise 1 none aNil) sSkip))
def f_check_start : FnS := fnOf 2 2 false false b_check_start

def b_recurrence : SS :=
  (sSeq (sExpr (eCall f_check_program (aDef (aCons (eVar 0) aNil) [])))
  (sSeq (sExpr (eCall f_check_start (aDef (aCons (eVar 1) (aCons (eVar 2) aNil)) [])))
  sBad))
def f_recurrence : FnS := fnOf 5 3 false false b_recurrence

def b_judge_programs : SS :=
  (sSeq (sExpr (eCall f_check_programs (aDef (aCons (eVar 0) (aCons (eVar 1) aNil)) [])))
  sBad)
def f_judge_programs : FnS := fnOf 3 2 false false b_judge_programs

def b_judge_later : SS :=
  (sSeq (sExpr (eCall f_check_programs (aDef (aCons (eVar 0) (aCons (eVar 1) aNil)) [])))
  sBad)
def f_judge_later : FnS := fnOf 2 2 false false b_judge_later

def b_amount : SS :=
  (sSeq (sExpr (eCall f_check_program (aDef (aCons (eVar 0) aNil) [])))
  (sSeq (sExpr (eCall f_check_start (aDef (aCons (eVar 1) (aCons (eVar 2) aNil)) [])))
  sBad))
def f_amount : FnS := fnOf 4 4 false false b_amount

def b_amounts : SS :=
  (sRetO (eCompX (iRng2 (eOp oAdd (eVar 2) (eC (.int 1))) (eOp oAdd (eOp oAdd (eVar 2) (eC (.int 1))) (eVar 3))) [4] (gN 4) tYesS (eCall f_amount (aDef (aCons (eVar 0) (aCons (eVar 1) (aCons (eVar 2) (aCons (eVar 4) aNil)))) []))))
def f_amounts : FnS := fnOf 5 4 false true b_amounts

def b_check_kinds : SS :=
  (sSeq (sIf (tOr (tNot (tE (eUn (isTy ["list", "tuple"]) (eVar 0)))) (tE (eOp oGt (eUn oLen (eVar 0)) c_MOST_KINDS))) (sRaise 0 (some "place") (aCons (eC .non) aNil)) sSkip)
  (sFor (iEnum (eVar 0)) (gT [(gN 1), (gN 2)]) (sIf (tOr (tNot (tE (eCall f_is_round (aDef (aCons (eVar 2) aNil) [])))) (tE (eOp oIn (eVar 2) (eSlL (eVar 0) pNo (pAt (eVar 1)))))) (sRaise 0 (some "place") (aCons (eVar 1) aNil)) sSkip)))
def f_check_kinds : FnS := fnOf 3 1 false false b_check_kinds

def b_check_all : SS :=
  (sExpr (eCall f_check_programs (aDef (aCons (eVar 0) (aCons (eNew 0 f_Program___init__ (aDef (aCons (eVar 1) aNil) [])) aNil)) [])))
def f_check_all : FnS := fnOf 2 2 false false b_check_all

def b_few_rounds : SS :=
  (sSeq (sExpr (eCall f_check_kinds (aDef (aCons (eVar 1) aNil) [])))
  (sSeq (sExpr (eCall f_check_all (aDef (aCons (eVar 0) (aCons (eVar 1) aNil)) [])))
  sBad))
def f_few_rounds : FnS := fnOf 6 2 false false b_few_rounds

def b__law_alone : SS :=
  (sSeq (sIf (tE (eOp oLt (eVar 0) (eC (.int 4)))) (sRet (eIf (tE (eOp oEq (eVar 0) (eC (.int 0)))) (eCall f_turned_back (aDef (aCons (eVar 1) aNil) [])) (eIf (tE (eOp oEq (eVar 0) (eC (.int 1)))) (eCall f_tidy_program (aDef (aCons (eVar 1) aNil) [])) (eIf (tE (eOp oEq (eVar 0) (eC (.int 2)))) (eCall f_judge_even (aDef (aCons (eVar 1) aNil) [])) (eCall f_recurrence (aDef (aCons (eVar 1) (aCons (eC (.str "ones")) (aCons (eC (.int 0)) aNil))) [])))))) sSkip)
  (sSeq (sIf (tE (eOp oLt (eVar 0) (eC (.int 7)))) (sRet (eIf (tE (eOp oEq (eVar 0) (eC (.int 4)))) (eCall f_judge_programs (aDef (aCons (eVar 1) (aCons (eNew 0 f_Program___init__ (aDef (aCons (eLst aNil) aNil) [])) aNil)) [])) (eIf (tE (eOp oEq (eVar 0) (eC (.int 5)))) (eCall f_judge_later (aDef (aCons (eNew 0 f_Program___init__ (aDef (aCons (eLst aNil) aNil) [])) (aCons (eVar 1) aNil)) [])) (eCall f_amount (aDef (aCons (eVar 1) (aCons (eC (.str "ones")) (aCons (eC (.int 0)) (aCons (eC (.int 5)) aNil)))) []))))) sSkip)
  (sRet (eIf (tE (eOp oEq (eVar 0) (eC (.int 7)))) (eCall f_amounts (aDef (aCons (eVar 1) (aCons (eC (.str "last")) (aCons (eC (.int 1)) (aCons (eC (.int 4)) aNil)))) [])) (eCall f_few_rounds (aDef (aCons (eVar 1) (aCons (eLst (aCons (eTup (aCons (eC (.str "every")) (aCons (eC (.int 2)) (aCons (eC (.int 1)) aNil)))) aNil)) aNil)) []))))))
def f__law_alone : FnS := fnOf 2 2 false false b__law_alone

def b_Program___eq__ : SS :=
  (sRet (eAnd (eUn (isCl is_Program) (eVar 1)) (eOp oEq (eUn (fldD "rounds") (eVar 0)) (eUn (fldD "rounds") (eVar 1)))))
def f_Program___eq__ : FnS := fnOf 2 2 false false b_Program___eq__

def b_Program___add__ : SS :=
  (sSeq (sIf (tNot (tE (eUn (isCl is_Program) (eVar 1)))) sBad sSkip)
  (sRet (eNew 0 f_Program___init__ (aDef (aCons (eLst (aStar (eUn (fldD "rounds") (eVar 0)) (aStar (eUn (fldD "rounds") (eVar 1)) aNil))) aNil) []))))
def f_Program___add__ : FnS := fnOf 2 2 false false b_Program___add__

def b_different_programs : SS :=
  (sSeq (sExpr (eCall f_check_kinds (aDef (aCons (eVar 0) aNil) [])))
  (sSeq (sIf (tOr (tNot (tE (eCall f_is_whole (aDef (aCons (eVar 1) aNil) [])))) (tNot (tE (eCh oLe oLe (eC (.int 0)) (eVar 1) c_MOST_LONG)))) (sRaise 1 none aNil) sSkip)
  (sSeq (sExpr (eCall f_check_all (aDef (aCons (eNew 0 f_Program___init__ (aDef (aCons (eLst aNil) aNil) [])) (aCons (eVar 0) aNil)) [])))
  sBad)))
def f_different_programs : FnS := fnOf 7 2 false false b_different_programs

def b__law_mixed : SS :=
  (sSeq (sIf (tE (eOp oLt (eVar 0) (eC (.int 3)))) (sRet (eIf (tE (eOp oEq (eVar 0) (eC (.int 0)))) (eCall f_judge_programs (aDef (aCons (eVar 1) (aCons (eVar 2) aNil)) [])) (eIf (tE (eOp oEq (eVar 0) (eC (.int 1)))) (eCall f_judge_later (aDef (aCons (eVar 1) (aCons (eVar 2) aNil)) [])) (eCall f_tidy_program (aDef (aCons (eOp (oAddO 0 f_Program___add__) (eVar 1) (eVar 2)) aNil) []))))) sSkip)
  (sRet (eIf (tE (eOp oEq (eVar 0) (eC (.int 3)))) (eCall f_few_rounds (aDef (aCons (eVar 1) (aCons (eLst (aCons (eTup (aCons (eC (.str "every")) (aCons (eC (.int 2)) (aCons (eC (.int 0)) aNil)))) (aCons (eTup (aCons (eC (.str "left")) aNil)) aNil))) aNil)) [])) (eCall f_different_programs (aDef (aCons (eLst (aCons (eTup (aCons (eC (.str "left")) aNil)) (aCons (eTup (aCons (eC (.str "right")) aNil)) aNil))) (aCons (eC (.int 1)) aNil)) [])))))
def f__law_mixed : FnS := fnOf 3 3 false false b__law_mixed

def b_law : SS :=
  (sSeq (sAsg 1 (eNew 0 f_Program___init__ (aDef (aCons (eCall f__law_rounds (aDef (aCons (eVar 0) (aCons (eC (.int 10)) (aCons (eC (.int 2)) (aCons (eC (.str "right")) aNil)))) [])) aNil) [])))
  (sSeq (sAsg 2 (eOp oAdd (eC (.int 1)) (eCall f__law_draw (aDef (aCons (eVar 0) (aCons (eC (.int 0)) (aCons (eC (.int 6)) aNil))) []))))
  (sSeq (sAsg 3 (eComp (iRng1 (eVar 2)) [11] (gN 11) tYesS (eCall f__law_draw (aDef (aCons (eVar 0) (aCons (eOp oAdd (eC (.int 30)) (eVar 11)) (aCons (eC (.int 9)) aNil))) []))))
  (sSeq (sFor (iSeq (eTup (aCons (eC .non) (aCons (eC (.int 3)) (aCons (eLst (aCons (eTup (aCons (eC (.str "right")) aNil)) aNil)) (aCons (eTup (aCons (eTup (aCons (eC (.str "right")) aNil)) aNil)) (aCons (eC (.str "right")) aNil))))))) (gN 4) (sSeq (sFor (iSeq (eTup (aCons (eCall f__law_draw (aDef (aCons (eVar 0) (aCons (eC (.int 1)) (aCons (eC (.int 10)) aNil))) [])) (aCons (eCall f__law_draw (aDef (aCons (eVar 0) (aCons (eC (.int 2)) (aCons (eC (.int 10)) aNil))) [])) aNil)))) (gN 5) (sTry (sSeq (sExpr (eCall f__law_asked (aDef (aCons (eVar 5) (aCons (eVar 4) (aCons (eC (.int 0)) (aCons (eC (.int 99)) (aCons (eLst aNil) (aCons (eUn oNeg (eC (.int 1))) aNil)))))) [])))
  (sRet (eC (.bl false)))) [clN ex_BadProgram 6 fun fs => (sIf (tE (eOp oIsNotN (eXf fs "place") (eC .non))) (sRet (eC (.bl false))) sSkip)]))
  (sTry (sSeq (sExpr (eCall f__law_alone (aDef (aCons (eCall f__law_draw (aDef (aCons (eVar 0) (aCons (eC (.int 3)) (aCons (eC (.int 9)) aNil))) [])) (aCons (eVar 4) aNil)) [])))
  (sRet (eC (.bl false)))) [clN ex_BadProgram 6 fun fs => (sIf (tE (eOp oIsNotN (eXf fs "place") (eC .non))) (sRet (eC (.bl false))) sSkip)])))
  (sSeq (sFor (iSeq (eTup (aCons (eC (.int 0)) (aCons (eC (.int 401)) (aCons (eC .non) (aCons (eC (.bl true)) (aCons (eUn oNeg (eC (.int 1))) (aCons (eC (.str "4")) aNil)))))))) (gN 4) (sTry (sSeq (sExpr (eCall f__law_asked (aDef (aCons (eCall f__law_draw (aDef (aCons (eVar 0) (aCons (eC (.int 4)) (aCons (eC (.int 3)) aNil))) [])) (aCons (eVar 1) (aCons (eVar 4) (aCons (eC (.int 0)) (aCons (eVar 3) (aCons (eC (.int 1)) aNil)))))) [])))
  (sRet (eC (.bl false)))) [clP ex_BadStart sSkip]))
  (sSeq (sFor (iSeq (eTup (aCons (eVar 2) (aCons (eUn oNeg (eC (.int 1))) (aCons (eC .non) (aCons (eC (.bl true)) aNil)))))) (gN 4) (sFor (iSeq (eTup (aCons (eC (.int 0)) (aCons (eC (.int 1)) (aCons (eC (.int 9)) aNil))))) (gN 5) (sTry (sSeq (sExpr (eCall f__law_asked (aDef (aCons (eVar 5) (aCons (eVar 1) (aCons (eVar 2) (aCons (eVar 4) (aCons (eVar 3) (aCons (eC (.int 1)) aNil)))))) [])))
  (sRet (eC (.bl false)))) [clP ex_BadStart sSkip])))
  (sSeq (sFor (iSeq (eTup (aCons (eLst aNil) (aCons (eC .non) (aCons (eLst (aCons (eC (.int 1)) (aCons (eC (.str "a")) aNil))) (aCons (eLst (aCons (eTup (aCons (eC (.int 1)) (aCons (eC (.int 0)) aNil))) aNil)) (aCons (eC (.int 3)) (aCons (eC (.dic [(.int 1, (.int 2))])) aNil)))))))) (gN 4) (sTry (sSeq (sExpr (eCall f__law_asked (aDef (aCons (eOp oAdd (eC (.int 6)) (eCall f__law_draw (aDef (aCons (eVar 0) (aCons (eC (.int 5)) (aCons (eC (.int 4)) aNil))) []))) (aCons (eVar 1) (aCons (eVar 2) (aCons (eC (.int 0)) (aCons (eVar 4) (aCons (eC (.int 1)) aNil)))))) [])))
  (sRet (eC (.bl false)))) [clP ex_BadStart sSkip]))
  (sSeq (sFor (iSeq (eTup (aCons (eUn oNeg (eC (.int 1))) (aCons (eC (.int 201)) (aCons (eC .non) (aCons (eC (.bl true)) aNil)))))) (gN 4) (sTry (sSeq (sExpr (eCall f__law_asked (aDef (aCons (eOp oIdx (eTup (aCons (eC (.int 4)) (aCons (eC (.int 6)) (aCons (eC (.int 8)) aNil)))) (eCall f__law_draw (aDef (aCons (eVar 0) (aCons (eC (.int 6)) (aCons (eC (.int 3)) aNil))) []))) (aCons (eVar 1) (aCons (eVar 2) (aCons (eC (.int 0)) (aCons (eVar 3) (aCons (eVar 4) aNil)))))) [])))
  (sRet (eC (.bl false)))) [clP ex_BadStart sSkip]))
  (sSeq (sFor (iSeq (eTup (aCons (eTup (aCons (eC (.str "right")) aNil)) (aCons (eC (.str "Ones")) (aCons (eC .non) (aCons (eC (.int 3)) (aCons (eC (.str "")) (aCons (eLst (aCons (eC (.str "ones")) aNil)) aNil)))))))) (gN 4) (sTry (sSeq (sExpr (eCall f_recurrence (aDef (aCons (eNew 0 f_Program___init__ (aDef (aCons (eSlL (eLst (aCons (eTup (aCons (eC (.str "right")) aNil)) (aCons (eTup (aCons (eC (.str "every")) (aCons (eC (.int 2)) (aCons (eC (.int 1)) aNil)))) aNil))) pNo (pAt (eCall f__law_draw (aDef (aCons (eVar 0) (aCons (eC (.int 9)) (aCons (eC (.int 3)) aNil))) [])))) aNil) [])) (aCons (eVar 4) (aCons (eC (.int 0)) aNil))) [])))
  (sRet (eC (.bl false)))) [clP ex_BadStart sSkip]))
  (sSeq (sPar 7 8 false false (eNew 0 f_Program___init__ (aDef (aCons (eLst (aCons (eTup (aCons (eC (.str "right")) aNil)) (aCons (eTup (aCons (eC (.str "every")) (aCons (eC (.int 2)) (aCons (eC (.int 1)) aNil)))) aNil))) aNil) [])) (eNew 0 f_Program___init__ (aDef (aCons (eLst (aCons (eTup (aCons (eC (.str "left")) aNil)) aNil)) aNil) [])))
  (sSeq (sFor (iSeq (eTup (aCons (eTup (aCons (eVar 7) (aCons (eVar 8) aNil))) (aCons (eTup (aCons (eVar 8) (aCons (eVar 7) aNil))) aNil)))) (gT [(gN 9), (gN 10)]) (sTry (sSeq (sExpr (eCall f__law_mixed (aDef (aCons (eIf (tE (eOp (oEqO (tabOf [(0, f_Program___eq__)])) (eVar 9) (eVar 7))) (eCall f__law_draw (aDef (aCons (eVar 0) (aCons (eC (.int 7)) (aCons (eC (.int 5)) aNil))) [])) (eCall f__law_draw (aDef (aCons (eVar 0) (aCons (eC (.int 8)) (aCons (eC (.int 3)) aNil))) []))) (aCons (eVar 9) (aCons (eVar 10) aNil))) [])))
  (sRet (eC (.bl false)))) [clP ex_Mixed sSkip]))
  (sRet (eOp oEq (eCall f_lapped (aDef (aCons (eOp (oAddO 0 f_Program___add__) (eVar 8) (eVar 7)) (aCons (eVar 3) (aCons (eC (.int 0)) aNil))) [])) (eCall f_lapped (aDef (aCons (eNew 0 f_Program___init__ (aDef (aCons (eLst aNil) aNil) [])) (aCons (eVar 3) (aCons (eC (.int 0)) aNil))) [])))))))))))))))
def f_law : FnS := fnOf 12 1 false false b_law
end K18
end

section
namespace VL
open PySem (Str)

inductive Rs (α : Type) where
  | ok (a : α) | exc (c : Nat) (fs : List (Str × D)) | bad
def Rs.bind {α β : Type} (o : Rs α) (f : α → Rs β) : Rs β := match o with
  | .ok a => f a
  | .exc c fs => .exc c fs
  | .bad => .bad
@[simp] theorem Rs.bind_ok {α β : Type} (a : α) (f : α → Rs β) : (Rs.ok a).bind f = f a := id rfl
@[simp] theorem Rs.bind_exc {α β : Type} (c : Nat) (fs : List (Str × D)) (f : α → Rs β) : (Rs.exc c fs : Rs α).bind f = .exc c fs := id rfl
@[simp] theorem Rs.bind_bad {α β : Type} (f : α → Rs β) : (Rs.bad : Rs α).bind f = .bad := id rfl
def Rs.opt {α : Type} (o : Option α) : Rs α := match o with
  | some a => .ok a
  | none => .bad
@[simp] theorem Rs.opt_some {α : Type} (a : α) : Rs.opt (some a) = .ok a := id rfl
@[simp] theorem Rs.opt_none {α : Type} : Rs.opt (none : Option α) = .bad := id rfl
def Rs.sum {σ τ ε : Type} (p : Rs (σ ⊕ τ)) (inj : τ → ε) (q : σ → Rs ε) : Rs ε := p.bind fun r => match r with
  | .inl s => q s
  | .inr t => .ok (inj t)
@[simp] theorem Rs.sum_inl {σ τ ε : Type} (s : σ) (inj : τ → ε) (q : σ → Rs ε) : (Rs.ok (.inl s)).sum inj q = q s := id rfl
@[simp] theorem Rs.sum_inr {σ τ ε : Type} (t : τ) (inj : τ → ε) (q : σ → Rs ε) : (Rs.ok (.inr t)).sum inj q = .ok (inj t) := id rfl
@[simp] theorem Rs.sum_exc {σ τ ε : Type} (c : Nat) (fs : List (Str × D)) (inj : τ → ε) (q : σ → Rs ε) : (Rs.exc c fs : Rs (σ ⊕ τ)).sum inj q = .exc c fs := id rfl
@[simp] theorem Rs.sum_bad {σ τ ε : Type} (inj : τ → ε) (q : σ → Rs ε) : (Rs.bad : Rs (σ ⊕ τ)).sum inj q = .bad := id rfl
inductive Lc (σ τ : Type) where
  | go (s : σ) | brk (s : σ) | ret (t : τ)
def pFold {σ : Type} (f : σ → D → Rs σ) : List D → σ → Rs σ
  | [], s => .ok s
  | x :: xs, s => (f s x).bind (pFold f xs)
def pLoop {σ τ : Type} (f : σ → D → Rs (Lc σ τ)) : List D → σ → Rs (σ ⊕ τ)
  | [], s => .ok (.inl s)
  | x :: xs, s => (f s x).bind fun r => match r with
    | .go s => pLoop f xs s
    | .brk s => .ok (.inl s)
    | .ret t => .ok (.inr t)
def pWhile {σ : Type} (t : σ → Rs Bool) (f : σ → Rs σ) : Nat → σ → Rs σ
  | 0, _ => .bad
  | n + 1, s => (t s).bind fun c => if c then (f s).bind (pWhile t f n) else .ok s
def pWhileL {σ τ : Type} (t : σ → Rs Bool) (f : σ → Rs (Lc σ τ)) : Nat → σ → Rs (σ ⊕ τ)
  | 0, _ => .bad
  | n + 1, s => (t s).bind fun c => if c then (f s).bind fun r => match r with
      | .go s => pWhileL t f n s
      | .brk s => .ok (.inl s)
      | .ret t => .ok (.inr t)
    else .ok (.inl s)
def pComp (t : D → Rs Bool) (e : D → Rs D) : List D → Rs (List D)
  | [] => .ok []
  | x :: xs => match t x with
    | .ok true => (match e x with
      | .ok d => (pComp t e xs).bind fun ds => .ok (d :: ds)
      | _ => .bad)
    | .ok false => pComp t e xs
    | _ => .bad
def pMap (e : D → Rs D) (xs : List D) : Rs (List D) := pComp (fun _ => .ok true) e xs
def pLst (xs : List D) : Rs D := if xs.length ≤ SZ then .ok (.lst xs) else .bad
def pTup (xs : List D) : Rs D := if xs.length ≤ SZ then .ok (.tup xs) else .bad
def asB : D → Rs Bool
  | .bl b => .ok b
  | _ => .bad
@[simp] theorem asB_bl (b : Bool) : asB (.bl b) = .ok b := id rfl
def asI : D → Rs (Option Int)
  | .int i => .ok (some i)
  | _ => .bad
@[simp] theorem asI_int (i : Int) : asI (.int i) = .ok (some i) := id rfl
def pAndB (z : D) (q : Rs D) : Rs D := match z with
  | .bl true => q
  | .bl false => .ok (.bl false)
  | _ => .bad
def pOrB (z : D) (q : Rs D) : Rs D := match z with
  | .bl true => .ok (.bl true)
  | .bl false => q
  | _ => .bad
@[simp] theorem pAndB_t (q : Rs D) : pAndB (.bl true) q = q := id rfl
@[simp] theorem pAndB_f (q : Rs D) : pAndB (.bl false) q = .ok (.bl false) := id rfl
@[simp] theorem pOrB_t (q : Rs D) : pOrB (.bl true) q = .ok (.bl true) := id rfl
@[simp] theorem pOrB_f (q : Rs D) : pOrB (.bl false) q = q := id rfl
def slL : D → Option Int → Option Int → Option D
  | .lst xs, l, h => some (.lst (cutL xs l h))
  | .scr ns, l, h => some (.lst (cutL (ns.map .int) l h))
  | _, _, _ => none
def slT : D → Option Int → Option Int → Option D
  | .tup xs, l, h => some (.tup (cutL xs l h))
  | _, _, _ => none
def rng1 : D → Option (List D)
  | .int j => if -(2 ^ 62) ≤ j ∧ j < 2 ^ 62 then some (rngD 0 j) else none
  | _ => none
def rng2 : D → D → Option (List D)
  | .int i, .int j => if -(2 ^ 62) ≤ i ∧ i < 2 ^ 62 ∧ -(2 ^ 62) ≤ j ∧ j < 2 ^ 62 then some (rngD i j) else none
  | _, _ => none
def rngN : D → D → D → Option (List D)
  | .int i, .int j, .int k => if k = -1 ∧ -(2 ^ 62) ≤ i ∧ i < 2 ^ 62 ∧ -(2 ^ 62) ≤ j ∧ j < 2 ^ 62 then some (rngDn i j) else none
  | _, _, _ => none
def zip2 (x y : D) : Option (List D) := match itemsD x, itemsD y with
  | some xs, some ys => some (zipD xs ys)
  | _, _ => none
def revs : D → Option (List D)
  | .lst xs => some xs.reverse
  | .scr ns => some (ns.map D.int).reverse
  | _ => none
def un2 : D → Option (D × D)
  | .tup [x, y] => some (x, y)
  | _ => none
def un3 : D → Option (D × D × D)
  | .tup [x, y, z] => some (x, y, z)
  | _ => none
def un4 : D → Option (D × D × D × D)
  | .tup [x, y, z, w] => some (x, y, z, w)
  | _ => none
def un5 : D → Option (D × D × D × D × D)
  | .tup [x, y, z, w, v] => some (x, y, z, w, v)
  | _ => none
@[simp] theorem un5_tup (x y z w v : D) : un5 (.tup [x, y, z, w, v]) = some (x, y, z, w, v) := id rfl
def un2L : D → Option (D × D)
  | .lst [x, y] => some (x, y)
  | _ => none
@[simp] theorem un2L_lst (x y : D) : un2L (.lst [x, y]) = some (x, y) := id rfl
@[simp] theorem un2_tup (x y : D) : un2 (.tup [x, y]) = some (x, y) := id rfl
@[simp] theorem un3_tup (x y z : D) : un3 (.tup [x, y, z]) = some (x, y, z) := id rfl
@[simp] theorem un4_tup (x y z w : D) : un4 (.tup [x, y, z, w]) = some (x, y, z, w) := id rfl
def pIsL {α : Type} (x : D) (q : Rs α) : Rs α := match x with
  | .lst _ => q
  | _ => .bad
@[simp] theorem pIsL_lst {α : Type} (l : List D) (q : Rs α) : pIsL (.lst l) q = q := id rfl
def pAug (f : Int → Int → Int) (x : D) (q : Rs D) : Rs D := match x with
  | .int a => q.bind fun y => match y with
    | .int b => .ok (.int (f a b))
    | _ => .bad
  | _ => .bad
@[simp] theorem pAug_int (f : Int → Int → Int) (a b : Int) : pAug f (.int a) (.ok (.int b)) = .ok (.int (f a b)) := id rfl
def pMeth (m : Str) (tab : List (Nat × (D → Rs D))) (o : D) : Rs D := match o with
  | .ins c fs => (match tab.lookup c with
    | some p => if (fs.lookup m).isNone then p (.ins c fs) else .bad
    | none => .bad)
  | _ => .bad
def pNew (c : Nat) (p : D → Rs (D × D)) : Rs D := (p (.ins c [])).bind fun r => match r with
  | (.non, s) => .ok s
  | _ => .bad
def pSpec (tab : List (Nat × (D → Rs D))) (o : D) : Rs D := match o with
  | .ins c fs => (match tab.lookup c with
    | some p => (match p (.ins c fs) with | .ok d => .ok d | _ => .bad)
    | none => .bad)
  | _ => .bad
def pLenO (tab : List (Nat × (D → Rs D))) (o : D) : Rs D := (pSpec tab o).bind fun d => match d with
  | .int n => if 0 ≤ n ∧ n < 9223372036854775808 then .ok (.int n) else .bad
  | _ => .bad
def pTruO (tab : List (Nat × (D → Rs D))) (o : D) : Rs Bool := (pSpec tab o).bind asB

inductive Kn where
  | any | tmp | is (s : Slot)
def aloneS : Slot → Bool
  | .own _ | .io _ => true
  | _ => false
def KnOk : Kn → Slot → Prop
  | .any, _ => True
  | .tmp, s => (aloneS s) = false
  | .is t, s => s = t
def Ag : List Kn → SEnv → Prop
  | [], [] => True
  | k :: ks, s :: ss => KnOk k s ∧ Ag ks ss
  | _, _ => False
def WkE : Kn → Kn → Prop
  | _, .any => True
  | .is s, .tmp => (aloneS s) = false
  | .tmp, .tmp => True
  | .is s, .is t => s = t
  | _, _ => False
def Wk : List Kn → List Kn → Prop
  | [], [] => True
  | a :: A, b :: B => WkE a b ∧ Wk A B
  | _, _ => False
theorem WkE.ok {a b : Kn} {s : Slot} (w : WkE a b) (h : KnOk a s) : KnOk b s := by
  cases b with
  | any => trivial
  | tmp =>
    cases a with
    | any => exact w.elim
    | tmp => exact h
    | is t => have h' : s = t := h; subst h'; exact w
  | is u =>
    cases a with
    | any => exact w.elim
    | tmp => exact w.elim
    | is t => have h' : s = t := h; subst h'; exact w
theorem Wk.ag : ∀ {A B : List Kn} {ρ : SEnv}, Wk A B → Ag A ρ → Ag B ρ
  | [], [], [], _, _ => trivial
  | a :: A, b :: B, s :: ρ, w, h => ⟨w.1.ok h.1, Wk.ag w.2 h.2⟩
  | [], [], _ :: _, _, h => h.elim
  | [], _ :: _, _, w, _ => w.elim
  | _ :: _, [], _, w, _ => w.elim
  | _ :: _, _ :: _, [], _, h => h.elim
theorem WkE.refl : ∀ a : Kn, WkE a a
  | .any => trivial
  | .tmp => trivial
  | .is _ => rfl
theorem Wk.refl : ∀ A : List Kn, Wk A A
  | [] => trivial
  | a :: A => ⟨WkE.refl a, Wk.refl A⟩
theorem Ag.get : ∀ {A : List Kn} {ρ : SEnv} {i : Nat} {k : Kn}, Ag A ρ → A[i]? = some k → ∃ s, ρ[i]? = some s ∧ KnOk k s
  | [], _, _, _, _, e => by simp at e
  | _ :: _, [], _, _, h, _ => h.elim
  | k :: A, s :: ρ, 0, _, h, e => by cases e; exact ⟨s, rfl, h.1⟩
  | k :: A, s :: ρ, i + 1, _, h, e => Ag.get (i := i) h.2 e
theorem Ag.at {A : List Kn} {ρ : SEnv} {i : Nat} {s : Slot} (h : Ag A ρ) (e : A[i]? = some (.is s)) : ρ[i]? = some s := by
  obtain ⟨t, h1, h2⟩ := h.get e
  rw [h1, show t = s from h2]
theorem kis {s : Slot} : KnOk (.is s) s := rfl
theorem Ag.set {k : Kn} {s : Slot} (hk : KnOk k s) : ∀ {A : List Kn} {ρ : SEnv} (i : Nat), Ag A ρ → Ag (A.set i k) (ρ.set i s)
  | [], [], _, _ => trivial
  | [], _ :: _, _, h => h.elim
  | _ :: _, [], _, h => h.elim
  | _ :: A, _ :: ρ, 0, h => ⟨hk, h.2⟩
  | _ :: A, _ :: ρ, i + 1, h => ⟨h.1, Ag.set hk i h.2⟩
theorem Ag.len : ∀ {A : List Kn} {ρ : SEnv}, Ag A ρ → A.length = ρ.length
  | [], [], _ => rfl
  | [], _ :: _, h => h.elim
  | _ :: _, [], h => h.elim
  | _ :: A, _ :: ρ, h => congrArg (· + 1) (Ag.len h.2)
def knows (ρ : SEnv) : List Kn := ρ.map .is
theorem ag_knows : ∀ ρ : SEnv, Ag (knows ρ) ρ
  | [] => trivial
  | _ :: ρ => ⟨rfl, ag_knows ρ⟩

def Sim {α β : Type} (X A : List Kn) (e : SEnv → Out α) (p : Rs β) (R : β → α → SEnv → Prop) : Prop := ∀ ρ, Ag A ρ → match p with
  | .ok b => ∃ a ρ', e ρ = .ok a ρ' ∧ R b a ρ'
  | .exc c fs => ∃ ρ', e ρ = .exc c fs ρ' ∧ Ag X ρ'
  | .bad => True
def EqAg {α : Type} (A : List Kn) : α → α → SEnv → Prop := fun b a ρ => a = b ∧ Ag A ρ
abbrev SimE {α : Type} (X A : List Kn) (e : SEnv → Out α) (p : Rs α) (A' : List Kn) : Prop := Sim X A e p (EqAg A')
def RBk {σ : Type} (post : σ → List Kn) : σ → Fl → SEnv → Prop := fun s fl ρ => fl = .nx ∧ Ag (post s) ρ
abbrev SimB {σ : Type} (X A : List Kn) (s : SS) (p : Rs σ) (post : σ → List Kn) : Prop := Sim X A s p (RBk post)
section
variable {α β γ δ σ τ ε : Type} {X A A1 A2 A3 A' : List Kn}
theorem Sim.bind {e : SEnv → Out α} {k : α → SEnv → Out γ} {p : Rs β} {q : β → Rs δ} {R : β → α → SEnv → Prop} {R2 : δ → γ → SEnv → Prop} (h : Sim X A e p R)
    (hk : ∀ b a, Sim X A (fun ρ => e ρ) p R → ∀ ρ', R b a ρ' → match q b with | .ok d => ∃ c ρ2, k a ρ' = .ok c ρ2 ∧ R2 d c ρ2 | .exc c fs => ∃ ρ2, k a ρ' = .exc c fs ρ2 ∧ Ag X ρ2 | .bad => True) : Sim X A (fun ρ => (e ρ).bind k) (p.bind q) R2 := fun ρ ha => by
  have h' := h ρ ha
  cases p with
  | ok b =>
    obtain ⟨a, ρ1, e1, r⟩ := h'
    simp only [e1, Out.bind_ok, Rs.bind_ok]
    exact hk b a h ρ1 r
  | exc c fs =>
    obtain ⟨ρ1, e1, r⟩ := h'
    exact ⟨ρ1, by simp only [e1, Out.bind_exc], r⟩
  | bad => trivial
theorem SimE.bind {e : SEnv → Out α} {k : α → SEnv → Out γ} {p : Rs α} {q : α → Rs δ} {R2 : δ → γ → SEnv → Prop} (h : SimE X A e p A1) (hk : ∀ d, Sim X A1 (k d) (q d) R2) : Sim X A (fun ρ => (e ρ).bind k) (p.bind q) R2 :=
  Sim.bind h fun b a _ ρ' r => by
    obtain ⟨rfl, r2⟩ := r
    exact hk a ρ' r2
theorem sim_opt {o : Option α} : SimE X A (fun ρ => Out.opt o ρ) (Rs.opt o) A := fun ρ ha => by
  cases o with
  | none => trivial
  | some a => exact ⟨a, ρ, rfl, rfl, ha⟩
theorem sim_ok {a : α} : SimE X A (fun ρ => .ok a ρ) (.ok a) A := fun ρ ha => ⟨a, ρ, rfl, rfl, ha⟩
theorem Sim.bad {e : SEnv → Out α} {R : β → α → SEnv → Prop} : Sim X A e (.bad : Rs β) R := fun _ _ => trivial
theorem Sim.wk {e : SEnv → Out α} {p : Rs β} {R : β → α → SEnv → Prop} (w : Wk A A1) (h : Sim X A1 e p R) : Sim X A e p R := fun ρ ha => h ρ (w.ag ha)
theorem sE_c {d : D} : SimE X A (eC d) (.ok d) A := sim_ok
theorem sE_var {i : Nat} {d : D} (h : A[i]? = some (.is (.sh d)) := by rfl) : SimE X A (eVar i) (.ok d) A := fun ρ ha => ⟨d, ρ, by unfold eVar; rw [ha.at h], rfl, ha⟩
def lkK : Kn → Option D
  | .is (.sh d) | .is (.own d) | .is (.io d) => some d
  | _ => none
theorem sE_lk {i : Nat} {d : D} (h : A[i]?.bind lkK = some d := by rfl) : SimE X A (eLk i) (.ok d) A := fun ρ ha => by
  obtain ⟨k, h1, h2⟩ := Option.bind_eq_some_iff.mp h
  obtain ⟨s, h3, h4⟩ := ha.get h1
  refine ⟨d, ρ, ?_, rfl, ha⟩
  unfold eLk
  rw [h3]
  cases k with
  | any => cases h2
  | tmp => cases h2
  | is t =>
    have h4' : s = t := h4
    subst h4'
    cases s <;> first | (cases h2; rfl) | cases h2
theorem sA_nil {k : List D → SEnv → Out γ} {P : Rs δ} {R : δ → γ → SEnv → Prop} (h : Sim X A (k []) P R) : Sim X A (fun ρ => (aNil ρ).bind k) P R := h
theorem sA_cons {e : SE} {r : SA} {k : List D → SEnv → Out γ} {p : Rs D} {q : D → Rs δ} {R : δ → γ → SEnv → Prop} (h : SimE X A e p A1) (hk : ∀ x, Sim X A1 (fun ρ => (r ρ).bind fun xs => k (x :: xs)) (q x) R) : Sim X A (fun ρ => (aCons e r ρ).bind k) (p.bind q) R := by
  have e1 : (fun ρ => (aCons e r ρ).bind k) = fun ρ => (e ρ).bind fun x ρ => (r ρ).bind fun xs => k (x :: xs) := by
    funext ρ
    unfold aCons
    cases e ρ with
    | ok x ρ1 => simp only [Out.bind_ok]; cases r ρ1 <;> rfl
    | exc c fs ρ1 => rfl
    | bad => rfl
  rw [e1]
  exact SimE.bind h hk
theorem sA_star {e : SE} {r : SA} {k : List D → SEnv → Out γ} {p : Rs D} {q : List D → Rs δ} {R : δ → γ → SEnv → Prop} (h : SimE X A e p A1) (hk : ∀ x, Sim X A1 (fun ρ => (r ρ).bind fun xs => k (x ++ xs)) (q x) R) : Sim X A (fun ρ => (aStar e r ρ).bind k) (p.bind fun x => (Rs.opt (itemsD x)).bind q) R := by
  have e1 : (fun ρ => (aStar e r ρ).bind k) = fun ρ => (e ρ).bind fun x ρ => (Out.opt (itemsD x) ρ).bind fun x ρ => (r ρ).bind fun xs => k (x ++ xs) := by
    funext ρ
    unfold aStar
    cases e ρ with
    | ok x ρ1 =>
      simp only [Out.bind_ok]
      cases itemsD x with
      | none => rfl
      | some ys => simp only [Out.opt_some, Out.bind_ok]; cases r ρ1 <;> rfl
    | exc c fs ρ1 => rfl
    | bad => rfl
  rw [e1]
  exact SimE.bind h fun x => SimE.bind sim_opt hk
theorem sE_tup {a : SA} {P : Rs D} (h : Sim X A (fun ρ => (a ρ).bind fun xs ρ => if xs.length ≤ SZ then .ok (.tup xs) ρ else .bad) P (EqAg A')) : SimE X A (eTup a) P A' := h
theorem sE_lst {a : SA} {P : Rs D} (h : Sim X A (fun ρ => (a ρ).bind fun xs ρ => if xs.length ≤ SZ then .ok (.lst xs) ρ else .bad) P (EqAg A')) : SimE X A (eLst a) P A' := h
theorem sK_tup {xs : List D} : SimE X A (fun ρ => if xs.length ≤ SZ then .ok (.tup xs) ρ else .bad) (pTup xs) A := fun ρ ha => by
  unfold pTup
  by_cases h : xs.length ≤ SZ
  · simp only [if_pos h]; exact ⟨_, ρ, rfl, rfl, ha⟩
  · simp only [if_neg h]
theorem sK_lst {xs : List D} : SimE X A (fun ρ => if xs.length ≤ SZ then .ok (.lst xs) ρ else .bad) (pLst xs) A := fun ρ ha => by
  unfold pLst
  by_cases h : xs.length ≤ SZ
  · simp only [if_pos h]; exact ⟨_, ρ, rfl, rfl, ha⟩
  · simp only [if_neg h]
theorem sE_op {op : D → D → Option D} {a b : SE} {p q : Rs D} (ha : SimE X A a p A1) (hb : SimE X A1 b q A2) : SimE X A (eOp op a b) (p.bind fun x => q.bind fun y => Rs.opt (op x y)) A2 := SimE.bind ha fun x => SimE.bind hb fun y => sim_opt
theorem sE_un {op : D → Option D} {a : SE} {p : Rs D} (ha : SimE X A a p A1) : SimE X A (eUn op a) (p.bind fun x => Rs.opt (op x)) A1 := SimE.bind ha fun x => sim_opt
theorem sE_ch {op op' : D → D → Option D} {a b c : SE} {p q r : Rs D} (ha : SimE X A a p A1) (hb : SimE X A1 b q A2) (hc : SimE X A2 c r A2) : SimE X A (eCh op op' a b c) (p.bind fun x => q.bind fun y => (Rs.opt (op x y)).bind fun z => pAndB z (r.bind fun w => Rs.opt (op' y w))) A2 :=
  SimE.bind ha fun x => SimE.bind hb fun y => SimE.bind sim_opt fun z => by
    cases z with
    | bl t =>
      cases t with
      | true => exact SimE.bind hc fun w => sim_opt
      | false => exact sim_ok
    | _ => exact Sim.bad
theorem sE_and {a b : SE} {p q : Rs D} (ha : SimE X A a p A1) (hb : SimE X A1 b q A1) : SimE X A (eAnd a b) (p.bind fun x => pAndB x q) A1 := SimE.bind ha fun z => by
  cases z with
  | bl t =>
    cases t with
    | true => exact hb
    | false => exact sim_ok
  | _ => exact Sim.bad
theorem sT_e {e : SE} {p : Rs D} (h : SimE X A e p A1) : SimE X A (tE e) (p.bind asB) A1 := SimE.bind h fun z => by
  cases z with
  | bl t => exact sim_ok
  | _ => exact Sim.bad
theorem sT_not {t : ST} {p : Rs Bool} (h : SimE X A t p A1) : SimE X A (tNot t) (p.bind fun b => .ok (!b)) A1 := SimE.bind h fun z => sim_ok
theorem sim_ite {e f : SEnv → Out α} {p q : Rs β} {R : β → α → SEnv → Prop} {c : Bool} (h1 : Sim X A e p R) (h2 : Sim X A f q R) : Sim X A (fun ρ => if c then e ρ else f ρ) (if c then p else q) R := by
  cases c with
  | true => exact h1
  | false => exact h2
theorem sT_and {t u : ST} {p q : Rs Bool} (h : SimE X A t p A1) (h' : SimE X A1 u q A1) : SimE X A (tAnd t u) (p.bind fun b => if b then q else .ok false) A1 := SimE.bind h fun b => sim_ite h' sim_ok
theorem sT_or {t u : ST} {p q : Rs Bool} (h : SimE X A t p A1) (h' : SimE X A1 u q A1) : SimE X A (tOr t u) (p.bind fun b => if b then .ok true else q) A1 := SimE.bind h fun b => sim_ite sim_ok h'
theorem sE_if {t : ST} {a b : SE} {p : Rs Bool} {q r : Rs D} (h : SimE X A t p A1) (ha : SimE X A1 a q A2) (hb : SimE X A1 b r A2) : SimE X A (eIf t a b) (p.bind fun c => if c then q else r) A2 := SimE.bind h fun c => sim_ite ha hb
theorem sP_no : SimE X A pNo (.ok none) A := sim_ok
theorem sP_at {e : SE} {p : Rs D} (h : SimE X A e p A1) : SimE X A (pAt e) (p.bind asI) A1 := SimE.bind h fun z => by
  cases z with
  | int i => exact sim_ok
  | _ => exact Sim.bad
theorem sE_slL {e : SE} {lo hi : SP} {p : Rs D} {q r : Rs (Option Int)} (h : SimE X A e p A1) (hl : SimE X A1 lo q A2) (hh : SimE X A2 hi r A3) : SimE X A (eSlL e lo hi) (p.bind fun x => q.bind fun l => r.bind fun h => Rs.opt (slL x l h)) A3 :=
  SimE.bind h fun x => SimE.bind hl fun l => SimE.bind hh fun h => by
    cases x with
    | lst xs => exact sim_ok
    | scr xs => exact sim_ok
    | _ => exact Sim.bad
def getKs (x k z : D) : Option D := match x with
  | .dic kvs => if keyD k && kvs.all (fun kv => keyD kv.1) then some ((lookD kvs k).getD z) else none
  | _ => none
def getTs (x k z : D) : Option D := match x with
  | .dct kvs => (match k with
    | .tup ks => if ks.all keyD then some ((lookT kvs ks).getD z) else none
    | _ => none)
  | _ => none
theorem sI_seq {e : SE} {p : Rs D} (h : SimE X A e p A1) : SimE X A (iSeq e) (p.bind fun x => Rs.opt (itemsD x)) A1 := SimE.bind h fun _ => sim_opt
theorem sI_rng1 {e : SE} {p : Rs D} (h : SimE X A e p A1) : SimE X A (iRng1 e) (p.bind fun x => Rs.opt (rng1 x)) A1 := SimE.bind h fun x => by
  cases x with
  | int j =>
    intro ρ hr
    unfold rng1
    by_cases h : -(2 ^ 62) ≤ j ∧ j < 2 ^ 62
    · simp only [if_pos h]; exact ⟨_, ρ, rfl, rfl, hr⟩
    · simp only [if_neg h]; trivial
  | _ => exact Sim.bad
theorem sI_rng2 {a b : SE} {p q : Rs D} (h : SimE X A a p A1) (h' : SimE X A1 b q A2) : SimE X A (iRng2 a b) (p.bind fun x => q.bind fun y => Rs.opt (rng2 x y)) A2 := SimE.bind h fun x => SimE.bind h' fun y => by
  cases x with
  | int i =>
    cases y with
    | int j =>
      intro ρ hr
      unfold rng2
      by_cases h : -(2 ^ 62) ≤ i ∧ i < 2 ^ 62 ∧ -(2 ^ 62) ≤ j ∧ j < 2 ^ 62
      · simp only [if_pos h]; exact ⟨_, ρ, rfl, rfl, hr⟩
      · simp only [if_neg h]; trivial
    | _ => exact Sim.bad
  | _ => exact Sim.bad
theorem sI_enum {e : SE} {p : Rs D} (h : SimE X A e p A1) : SimE X A (iEnum e) (p.bind fun x => Rs.opt ((itemsD x).map enumD)) A1 := SimE.bind h fun x => by
  intro ρ hr
  cases itemsD x with
  | none => trivial
  | some xs => exact ⟨_, ρ, rfl, rfl, hr⟩
end
end VL
end

section
namespace VL
open PySem (Str)
def FnP (r : Option Ret) (p : Rs D) : Prop := match p with
  | .ok d => ∃ o, r = some (.val d o)
  | .exc c fs => r = some (.exn c fs)
  | .bad => True
def FnIo (r : Option Ret) (p : Rs (D × D)) : Prop := match p with
  | .ok (d, s) => r = some (.val d (some s))
  | .exc c fs => r = some (.exn c fs)
  | .bad => True
section
variable {α β γ δ σ τ ε : Type} {X A A1 A2 A3 A' : List Kn}
def kCall (fn : FnS) (dfl : List D) (ds : List D) (ρ : SEnv) : Out D := match fn (ds ++ dfl) with
  | some (.val d _) => .ok d ρ
  | some (.exn c fs) => .exc c fs ρ
  | none => .bad
theorem sE_call {fn : FnS} {a : SA} {dfl : List D} {P : Rs D} (h : Sim X A (fun ρ => (a ρ).bind (kCall fn dfl)) P (EqAg A')) : SimE X A (eCall fn (aDef a dfl)) P A' := by
  have e : eCall fn (aDef a dfl) = fun ρ => (a ρ).bind (kCall fn dfl) := by
    funext ρ
    unfold eCall aDef
    cases a ρ <;> rfl
  rw [e]; exact h
theorem sK_call {fn : FnS} {dfl ds : List D} {p : Rs D} (h : FnP (fn (ds ++ dfl)) p) (w : Wk A X) : SimE X A (kCall fn dfl ds) p A := fun ρ ha => by
  unfold FnP at h
  cases p with
  | ok d => obtain ⟨o, e⟩ := h; exact ⟨d, ρ, by unfold kCall; rw [e], rfl, ha⟩
  | exc c fs => exact ⟨ρ, by unfold kCall; rw [h], w.ag ha⟩
  | bad => trivial
def kNew (c : Nat) (fn : FnS) (dfl : List D) (ds : List D) (ρ : SEnv) : Out D := match fn (.ins c [] :: (ds ++ dfl)) with
  | some (.val .non (some d)) => .ok d ρ
  | some (.exn c fs) => .exc c fs ρ
  | _ => .bad
theorem sE_new {c : Nat} {fn : FnS} {a : SA} {dfl : List D} {P : Rs D} (h : Sim X A (fun ρ => (a ρ).bind (kNew c fn dfl)) P (EqAg A')) : SimE X A (eNew c fn (aDef a dfl)) P A' := by
  have e : eNew c fn (aDef a dfl) = fun ρ => (a ρ).bind (kNew c fn dfl) := by
    funext ρ
    unfold eNew aDef
    cases a ρ <;> rfl
  rw [e]; exact h
theorem sK_new {c : Nat} {fn : FnS} {dfl ds : List D} {p : D → Rs (D × D)} (h : FnIo (fn (.ins c [] :: (ds ++ dfl))) (p (.ins c []))) (w : Wk A X) : SimE X A (kNew c fn dfl ds) (pNew c p) A := fun ρ ha => by
  unfold FnIo at h
  unfold pNew
  cases q : p (.ins c []) with
  | ok r =>
    rw [q] at h
    obtain ⟨d, s⟩ := r
    have h' : fn (.ins c [] :: (ds ++ dfl)) = some (.val d (some s)) := h
    cases d with
    | non => exact ⟨s, ρ, by unfold kNew; rw [h'], rfl, ha⟩
    | _ => trivial
  | exc c fs => rw [q] at h; exact ⟨ρ, by unfold kNew; rw [show fn _ = _ from h], w.ag ha⟩
  | bad => trivial
def TabP (ds : List D) : List (Nat × FnS) → List (Nat × (D → Rs D)) → Prop
  | [], [] => True
  | (c, fn) :: r, (c', p) :: r' => c = c' ∧ (∀ o, FnP (fn (o :: ds)) (p o)) ∧ TabP ds r r'
  | _, _ => False
theorem TabP.look {ds : List D} : ∀ {l : List (Nat × FnS)} {l' : List (Nat × (D → Rs D))} {c : Nat} {p : D → Rs D}, TabP ds l l' → l'.lookup c = some p → ∃ fn, tabOf l c = some fn ∧ ∀ o, FnP (fn (o :: ds)) (p o)
  | [], [], _, _, _, e => by cases e
  | [], _ :: _, _, _, h, _ => h.elim
  | _ :: _, [], _, _, h, _ => h.elim
  | (c0, fn) :: r, (c1, p1) :: r', c, p, h, e => by
    obtain ⟨rfl, h2, h3⟩ := h
    unfold tabOf
    rw [List.lookup_cons] at e ⊢
    by_cases z : (c == c0) = true
    · rw [z] at e ⊢; cases e; exact ⟨fn, rfl, h2⟩
    · have z' : (c == c0) = false := by simpa using z
      rw [z'] at e ⊢
      exact TabP.look h3 e
def kMeth (m : Str) (tab : Nat → Option FnS) (x : D) (ds : List D) (ρ : SEnv) : Out D := match x with
  | .ins c fs => (match tab c with
    | some fn => if (fs.lookup m).isNone then (match fn (.ins c fs :: ds) with
      | some (.val d _) => .ok d ρ
      | some (.exn c fs) => .exc c fs ρ
      | none => .bad) else .bad
    | none => .bad)
  | _ => .bad
def pGuard (m : Str) (cs : List Nat) (x : D) (q : Rs D) : Rs D := match x with
  | .ins c fs => if cs.contains c && (fs.lookup m).isNone then q else .bad
  | _ => .bad
def SimG (A : List Kn) (g : SG) (d : D) (p : Rs β) (post : β → List Kn) : Prop := ∀ ρ, Ag A ρ → match p with
  | .ok b => ∃ ρ', g d ρ = some ρ' ∧ Ag (post b) ρ'
  | _ => True
theorem sG_1 {i : Nat} {d : D} : SimG A (gN i) d (.ok d) (fun d => A.set i (.is (.sh d))) := fun ρ ha => ⟨_, rfl, Ag.set kis i ha⟩
theorem un2_of {d : D} {s : D × D} (h : un2 d = some s) : d = .tup [s.1, s.2] := by
  unfold un2 at h
  split at h
  · cases h; rfl
  · cases h
theorem sG_2 {i j : Nat} {d : D} : SimG A (gT [gN i, gN j]) d (Rs.opt (un2 d)) (fun s => (A.set i (.is (.sh s.1))).set j (.is (.sh s.2))) := fun ρ ha => by
  cases q : un2 d with
  | none => trivial
  | some s => rw [un2_of q]; exact ⟨_, rfl, Ag.set kis j (Ag.set kis i ha)⟩
def setsK (A : List Kn) (k : Kn) : List Nat → List Kn
  | [] => A
  | v :: vs => (setsK A k vs).set v k
def notOwn (A : List Kn) (vs : List Nat) : Prop := ∀ v ∈ vs, ∃ k, A[v]? = some k ∧ WkE k .tmp
theorem Ag.wipe : ∀ (vs : List Nat) {A : List Kn} {ρ : SEnv}, Ag A ρ → Ag (setsK A (.is .no) vs) (wipeE ρ vs)
  | [], _, _, h => h
  | v :: vs, _, _, h => Ag.set kis v (Ag.wipe vs h)
theorem sho_of {vs : List Nat} {ρ : SEnv} (h : notOwn A vs) (ha : Ag A ρ) : shOnly ρ vs = true := by
  unfold shOnly
  rw [List.all_eq_true]
  intro v hv
  obtain ⟨k, h1, h2⟩ := h v hv
  obtain ⟨s, h3, h4⟩ := ha.get h1
  have h5 : (aloneS s) = false := h2.ok h4
  rw [h3]
  cases s with
  | own d => cases h5
  | io d => cases h5
  | _ => rfl
theorem back_get {vs : List Nat} {ρ0 ρ : SEnv} {i : Nat} (h : i ∉ vs) : (backE ρ0 ρ vs)[i]? = ρ[i]? := by
  induction vs with
  | nil => rfl
  | cons v vs ih =>
    simp only [List.mem_cons, not_or] at h
    show ((backE ρ0 ρ vs).set v _)[i]? = _
    rw [List.getElem?_set_ne (fun z => h.1 z.symm), ih h.2]
theorem back_len {vs : List Nat} {ρ0 ρ : SEnv} : (backE ρ0 ρ vs).length = ρ.length := by
  induction vs with
  | nil => rfl
  | cons v vs ih => show ((backE ρ0 ρ vs).set v _).length = _; rw [List.length_set, ih]
theorem back_in {vs : List Nat} {ρ0 ρ : SEnv} {i : Nat} (h : i ∈ vs) (hl : ρ0.length = ρ.length) : (backE ρ0 ρ vs)[i]? = ρ0[i]? := by
  induction vs with
  | nil => cases h
  | cons v vs ih =>
    show ((backE ρ0 ρ vs).set v _)[i]? = _
    by_cases z : v = i
    · subst z
      rw [List.getElem?_set]
      simp only [if_true, back_len]
      by_cases y : v < ρ.length
      · rw [if_pos y, List.getD_eq_getElem?_getD, List.getElem?_eq_getElem (by omega)]; rfl
      · rw [if_neg y, List.getElem?_eq_none (by omega)]
    · rw [List.getElem?_set_ne z]
      rcases List.mem_cons.mp h with e | e
      · exact absurd e.symm z
      · exact ih e
theorem setsK_get {k : Kn} {vs : List Nat} {i : Nat} (h : i ∉ vs) : (setsK A k vs)[i]? = A[i]? := by
  induction vs with
  | nil => rfl
  | cons v vs ih =>
    simp only [List.mem_cons, not_or] at h
    show ((setsK A k vs).set v k)[i]? = _
    rw [List.getElem?_set_ne (fun z => h.1 z.symm), ih h.2]
theorem setsK_len {k : Kn} {vs : List Nat} : (setsK A k vs).length = A.length := by
  induction vs with
  | nil => rfl
  | cons v vs ih => show ((setsK A k vs).set v k).length = _; rw [List.length_set, ih]
theorem ag_ext : ∀ {A : List Kn} {ρ : SEnv}, A.length = ρ.length → (∀ (i : Nat) (k : Kn) (s : Slot), A[i]? = some k → ρ[i]? = some s → KnOk k s) → Ag A ρ
  | [], [], _, _ => trivial
  | [], _ :: _, h, _ => by simp at h
  | _ :: _, [], h, _ => by simp at h
  | k :: A, s :: ρ, h, hk => ⟨hk 0 k s rfl rfl, ag_ext (by simpa using h) fun i k s e1 e2 => hk (i + 1) k s (by simpa using e1) (by simpa using e2)⟩
theorem ag_back {vs : List Nat} {ρ0 ρ : SEnv} (h0 : Ag A ρ0) (h : Ag (setsK A (.is .no) vs) ρ) : Ag A (backE ρ0 ρ vs) := by
  have l1 := h0.len
  have l2 := h.len
  rw [setsK_len] at l2
  refine ag_ext (by rw [back_len]; exact l2) fun i k s e1 e2 => ?_
  by_cases z : i ∈ vs
  · rw [back_in z (by omega)] at e2
    obtain ⟨t, h1, h2⟩ := h0.get e1
    rw [h1] at e2; cases e2; exact h2
  · rw [back_get z] at e2
    obtain ⟨t, h1, h2⟩ := h.get (by rw [setsK_get z]; exact e1)
    rw [h1] at e2; cases e2; exact h2
theorem compL_sim {vs : List Nat} {g : SG} {t : ST} {e : SE} {pt : D → Rs Bool} {pe : D → Rs D} (h : ∀ x ρ, Ag (setsK A (.is .no) vs) ρ → (match pt x with
      | .ok c => ∃ ρ1 ρ2, g x ρ = some ρ1 ∧ t ρ1 = .ok c ρ2 ∧ (c = false → Ag (setsK A (.is .no) vs) (wipeE ρ2 vs)) ∧ (c = true → match pe x with
        | .ok d => ∃ ρ3, e ρ2 = .ok d ρ3 ∧ Ag (setsK A (.is .no) vs) (wipeE ρ3 vs)
        | _ => True)
      | _ => True)) (hw : ∀ ρ, Ag (setsK A (.is .no) vs) ρ → Ag (setsK A (.is .no) vs) (wipeE ρ vs)) : ∀ (xs acc : List D) (ρ : SEnv) (ds : List D), Ag (setsK A (.is .no) vs) ρ → pComp pt pe xs = .ok ds → acc.length + ds.length ≤ SZ → ∃ ρ', compL vs g t e xs acc ρ = .ok (acc ++ ds) ρ' ∧ Ag (setsK A (.is .no) vs) ρ'
  | [], acc, ρ, ds, ha, q, _ => by
    cases q
    exact ⟨ρ, by simp [compL], ha⟩
  | x :: xs, acc, ρ, ds, ha, q, hz => by
    have hx := h x (wipeE ρ vs) (hw ρ ha)
    unfold pComp at q
    cases q1 : pt x with
    | ok c =>
      rw [q1] at q hx
      obtain ⟨ρ1, ρ2, e1, e2, hf, ht⟩ := hx
      cases c with
      | false =>
        obtain ⟨ρ', e3, h3⟩ := compL_sim h hw xs acc (wipeE ρ2 vs) ds (hf rfl) q hz
        refine ⟨ρ', ?_, h3⟩
        unfold compL
        simp only [e1, e2]
        exact e3
      | true =>
        simp only at q
        have ht' := ht rfl
        cases q2 : pe x with
        | ok d =>
          rw [q2] at q ht'
          obtain ⟨ρ3, e3, h3⟩ := ht'
          simp only at q
          cases q3 : pComp pt pe xs with
          | ok ds' =>
            rw [q3] at q
            cases q
            have hz' : acc.length + ds'.length + 1 ≤ SZ := by simpa [Nat.add_assoc] using hz
            obtain ⟨ρ', e4, h4⟩ := compL_sim h hw xs (acc ++ [d]) (wipeE ρ3 vs) ds' h3 q3 (by simp; omega)
            refine ⟨ρ', ?_, h4⟩
            unfold compL
            simp only [e1, e2, e3]
            rw [if_pos (by omega), e4]
            simp
          | exc c fs => rw [q3] at q; cases q
          | bad => rw [q3] at q; cases q
        | exc c fs => rw [q2] at q; cases q
        | bad => rw [q2] at q; cases q
    | exc c fs => rw [q1] at q; cases q
    | bad => rw [q1] at q; cases q
theorem comp_noexc {pt : D → Rs Bool} {pe : D → Rs D} {c : Nat} {fs : List (Str × D)} : ∀ {xs : List D}, pComp pt pe xs = .exc c fs → False
  | [], h => by cases h
  | x :: xs, h => by
    unfold pComp at h
    cases q1 : pt x with
    | ok b =>
      rw [q1] at h
      cases b with
      | false => exact comp_noexc (xs := xs) h
      | true =>
        simp only at h
        cases q2 : pe x with
        | ok d =>
          rw [q2] at h
          cases q3 : pComp pt pe xs with
          | ok ds => simp only [q3] at h; cases h
          | exc c fs => exact comp_noexc (xs := xs) q3
          | bad => simp only [q3] at h; cases h
        | exc c fs => rw [q2] at h; cases h
        | bad => rw [q2] at h; cases h
    | exc c fs => rw [q1] at h; cases h
    | bad => rw [q1] at h; cases h
theorem wipe_self : ∀ (vs ws : List Nat) {A : List Kn} {ρ : SEnv}, (∀ v ∈ ws, v ∈ vs) → Ag (setsK A (.is .no) vs) ρ → Ag (setsK A (.is .no) vs) (wipeE ρ ws)
  | vs, [], _, _, _, h => h
  | vs, w :: ws, A, ρ, hs, h => by
    have h1 := wipe_self vs ws (fun v hv => hs v (List.mem_cons_of_mem _ hv)) h
    show Ag _ ((wipeE ρ ws).set w .no)
    have hw := hs w (List.mem_cons_self ..)
    refine ag_ext (by rw [List.length_set]; exact h1.len) fun i k s e1 e2 => ?_
    rw [List.getElem?_set] at e2
    by_cases z : w = i
    · subst z
      simp only [if_true] at e2
      split at e2
      · cases e2
        have : ∀ (vs : List Nat), w ∈ vs → ∀ k, (setsK A (.is .no) vs)[w]? = some k → k = .is .no := by
          intro vs
          induction vs with
          | nil => intro h; cases h
          | cons v vs ih =>
            intro hv k hk
            have hk' : ((setsK A (.is .no) vs).set v (.is .no))[w]? = some k := hk
            by_cases y : v = w
            · subst y
              rw [List.getElem?_set] at hk'
              simp only [if_true] at hk'
              split at hk'
              · cases hk'; rfl
              · cases hk'
            · rw [List.getElem?_set_ne y] at hk'
              rcases List.mem_cons.mp hv with e | e
              · exact absurd e.symm y
              · exact ih e k hk'
        rw [this vs hw k e1]; rfl
      · cases e2
    · rw [if_neg z] at e2
      obtain ⟨t, h2, h3⟩ := h1.get e1
      rw [h2] at e2; cases e2; exact h3
theorem setsK_no_idem {vs : List Nat} {ρ : SEnv} (h : Ag (setsK A (.is .no) vs) ρ) : Ag (setsK A (.is .no) vs) (wipeE ρ vs) := wipe_self vs vs (fun _ h => h) h
theorem wipe_post {vs : List Nat} {B : List Kn} {ρ : SEnv} (w : Wk (setsK B (.is .no) vs) (setsK A (.is .no) vs)) (h : Ag B ρ) : Ag (setsK A (.is .no) vs) (wipeE ρ vs) := w.ag (Ag.wipe vs h)
theorem sE_comp {it : SI} {vs : List Nat} {g : SG} {t : ST} {e : SE} {p : Rs (List D)} {pg : D → Rs β} {post : β → List Kn} {qt : β → Rs Bool} {qe : β → Rs D} {At Ae : β → List Kn} (hi : SimE X A it p A1) (hn : notOwn A1 vs)
    (hg : ∀ x, SimG (setsK A1 (.is .no) vs) g x (pg x) post) (ht : ∀ b, SimE X (post b) t (qt b) (At b)) (he : ∀ b, SimE X (At b) e (qe b) (Ae b)) (w1 : ∀ b, Wk (setsK (At b) (.is .no) vs) (setsK A1 (.is .no) vs)) (w2 : ∀ b, Wk (setsK (Ae b) (.is .no) vs) (setsK A1 (.is .no) vs)) :
    SimE X A (eComp it vs g t e) (p.bind fun xs => (pComp (fun x => (pg x).bind qt) (fun x => (pg x).bind qe) xs).bind pLst) A1 := SimE.bind hi fun xs => by
  intro ρ ha
  have hsh := sho_of hn ha
  cases q : pComp (fun x => (pg x).bind qt) (fun x => (pg x).bind qe) xs with
  | bad => trivial
  | exc c fs => exact (comp_noexc q).elim
  | ok ds =>
    simp only [Rs.bind_ok]
    unfold pLst
    by_cases z : ds.length ≤ SZ
    · rw [if_pos z]
      obtain ⟨ρ', e1, h1⟩ := compL_sim (vs := vs) (g := g) (t := t) (e := e) (A := A1) (pt := fun x => (pg x).bind qt) (pe := fun x => (pg x).bind qe) (fun x ρ hr => by
        have hg' := hg x ρ hr
        cases q1 : pg x with
        | ok b =>
          rw [q1] at hg'
          obtain ⟨ρ1, g1, g2⟩ := hg'
          simp only [Rs.bind_ok]
          have ht' := ht b ρ1 g2
          cases q2 : qt b with
          | ok c =>
            rw [q2] at ht'
            obtain ⟨c', ρ2, t1, rfl, t2⟩ := ht'
            refine ⟨ρ1, ρ2, g1, t1, fun _ => wipe_post (w1 b) t2, fun _ => ?_⟩
            have he' := he b ρ2 t2
            cases q3 : qe b with
            | ok d =>
              rw [q3] at he'
              obtain ⟨d', ρ3, k1, rfl, k2⟩ := he'
              exact ⟨ρ3, k1, wipe_post (w2 b) k2⟩
            | exc c fs => trivial
            | bad => trivial
          | exc c fs => trivial
          | bad => trivial
        | exc c fs => trivial
        | bad => trivial) (fun ρ hr => setsK_no_idem hr) xs [] (wipeE ρ vs) ds (Ag.wipe vs ha) q (by simpa using z)
      refine ⟨.lst ds, backE ρ ρ' vs, ?_, rfl, ag_back ha h1⟩
      simp only [hsh, if_true, e1, List.nil_append]
    · rw [if_neg z]; trivial
theorem sT_yes : SimE X A tYesS (.ok true) A := sim_ok
end
end VL
end

section
namespace VL
open PySem (Str)
section
variable {α β γ δ σ τ ε : Type} {X A A1 A2 A3 A' : List Kn}
def RTv (fr : Bool) (d : D) (fl : Fl) (ρ : SEnv) : Prop := if fr then fl = .ro d else (fl = .rt d ∨ fl = .ro d)
def RTio (t : D × D) (fl : Fl) (ρ : SEnv) : Prop := fl = .rt t.1 ∧ ρ[0]? = some (.io t.2)
theorem RTv.ne {fr : Bool} {d : D} {fl : Fl} {ρ : SEnv} (h : RTv fr d fl ρ) : fl ≠ .nx := by
  unfold RTv at h
  cases fr with
  | true => rw [if_pos rfl] at h; rw [h]; intro z; cases z
  | false => rw [if_neg (by decide)] at h; rcases h with h | h <;> (rw [h]; intro z; cases z)
theorem RTio.ne {t : D × D} {fl : Fl} {ρ : SEnv} (h : RTio t fl ρ) : fl ≠ .nx := by rw [h.1]; intro z; cases z
def RFv (fr : Bool) (d : D) (fl : Fl) (ρ : SEnv) : Prop := RTv fr d fl ρ ∨ (fr = false ∧ fl = .nx ∧ d = .non)
def RFio (t : D × D) (fl : Fl) (ρ : SEnv) : Prop := RTio t fl ρ ∨ (fl = .nx ∧ t.1 = .non ∧ ρ[0]? = some (.io t.2))
def Rj (R : β → Fl → SEnv → Prop) : β → Fl → SEnv → Prop := fun b fl ρ => fl ≠ .nx ∧ R b fl ρ
def RMx (RT : τ → Fl → SEnv → Prop) (post : σ → List Kn) : σ ⊕ τ → Fl → SEnv → Prop := fun x fl ρ => match x with
  | .inl s => fl = .nx ∧ Ag (post s) ρ
  | .inr t => RT t fl ρ
def RA (post : σ → List Kn) : σ → Fl → SEnv → Prop := fun s fl ρ => (fl = .nx ∨ fl = .ct) ∧ Ag (post s) ρ
def RL (RT : τ → Fl → SEnv → Prop) (post : σ → List Kn) : Lc σ τ → Fl → SEnv → Prop := fun x fl ρ => match x with
  | .go s => (fl = .nx ∨ fl = .ct) ∧ Ag (post s) ρ
  | .brk s => fl = .bk ∧ Ag (post s) ρ
  | .ret t => RT t fl ρ
def CapT (RT : τ → Fl → SEnv → Prop) (R : β → Fl → SEnv → Prop) (inj : τ → β) : Prop := ∀ t fl ρ, fl ≠ .nx → RT t fl ρ → R (inj t) fl ρ
def CapN (R : β → Fl → SEnv → Prop) (inj : σ → β) (post : σ → List Kn) : Prop := ∀ s ρ, Ag (post s) ρ → R (inj s) .nx ρ
def CapC (R : β → Fl → SEnv → Prop) (inj : σ → β) (post : σ → List Kn) : Prop := ∀ s ρ, Ag (post s) ρ → R (inj s) .ct ρ
def CapK (R : β → Fl → SEnv → Prop) (inj : σ → β) (post : σ → List Kn) : Prop := ∀ s ρ, Ag (post s) ρ → R (inj s) .bk ρ
theorem capT_F {fr : Bool} : CapT (RTv fr) (RFv fr) id := fun _ _ _ _ h => .inl h
theorem capT_L {RT : τ → Fl → SEnv → Prop} {post : σ → List Kn} : CapT RT (RL RT post) .ret := fun _ _ _ _ h => h
theorem capT_j {RT : τ → Fl → SEnv → Prop} {R : β → Fl → SEnv → Prop} {inj : τ → β} (h : CapT RT R inj) : CapT RT (Rj R) inj := fun t fl ρ n r => ⟨n, h t fl ρ n r⟩
theorem capN_B {post : σ → List Kn} : CapN (RBk post) id post := fun _ _ h => ⟨rfl, h⟩
theorem capN_A {post : σ → List Kn} : CapN (RA post) id post := fun _ _ h => ⟨.inl rfl, h⟩
theorem capN_L {RT : τ → Fl → SEnv → Prop} {post : σ → List Kn} : CapN (RL RT post) .go post := fun _ _ h => ⟨.inl rfl, h⟩
theorem sS_nx {R : β → Fl → SEnv → Prop} {inj : σ → β} {post : σ → List Kn} (c : CapN R inj post) (s : σ) (w : Wk A (post s)) : Sim X A sSkip (.ok (inj s)) R := fun ρ ha => ⟨.nx, ρ, rfl, c s ρ (w.ag ha)⟩
theorem sS_endN : Sim X A sSkip (.ok D.non) (RFv false) := fun ρ ha => ⟨.nx, ρ, rfl, .inr ⟨rfl, rfl, rfl⟩⟩
theorem sS_endIo {s : D} (h : A[0]? = some (.is (.io s)) := by rfl) : Sim X A sSkip (.ok (D.non, s)) RFio := fun ρ ha => ⟨.nx, ρ, rfl, .inr ⟨rfl, rfl, ha.at h⟩⟩
theorem sS_bad {R : β → Fl → SEnv → Prop} : Sim X A sBad (.bad : Rs β) R := Sim.bad
theorem sS_ret {R : β → Fl → SEnv → Prop} {inj : D → β} {e : SE} {p : Rs D} (c : CapT (RTv false) R inj) (h : SimE X A e p A1) : Sim X A (sRet e) (p.bind fun d => .ok (inj d)) R := SimE.bind h fun d ρ ha => ⟨.rt d, ρ, rfl, c d _ ρ nofun (.inl rfl)⟩
theorem sS_ret1 {R : D → Fl → SEnv → Prop} {e : SE} {p : Rs D} (c : CapT (RTv false) R id) (h : SimE X A e p A1) : Sim X A (sRet e) p R := fun ρ ha => by
  have h' := h ρ ha
  cases p with
  | ok b => obtain ⟨a, ρ1, e1, rfl, r⟩ := h'; exact ⟨.rt a, ρ1, by unfold sRet; rw [e1]; rfl, c a _ ρ1 nofun (.inl rfl)⟩
  | exc c fs => obtain ⟨ρ1, e1, r⟩ := h'; exact ⟨ρ1, by unfold sRet; rw [e1]; rfl, r⟩
  | bad => trivial
theorem sS_retO1 {R : D → Fl → SEnv → Prop} {e : SE} {p : Rs D} {fr : Bool} (c : CapT (RTv fr) R id) (h : SimE X A e p A1) : Sim X A (sRetO e) p R := fun ρ ha => by
  have h' := h ρ ha
  cases p with
  | ok b => obtain ⟨a, ρ1, e1, rfl, r⟩ := h'; exact ⟨.ro a, ρ1, by unfold sRetO; rw [e1]; rfl, c a _ ρ1 nofun (by cases fr; exact .inr rfl; exact rfl)⟩
  | exc c fs => obtain ⟨ρ1, e1, r⟩ := h'; exact ⟨ρ1, by unfold sRetO; rw [e1]; rfl, r⟩
  | bad => trivial
theorem sS_seq {R : β → Fl → SEnv → Prop} {st rest : SS} {p : Rs σ} {post : σ → List Kn} {q : σ → Rs β} (h : SimB X A st p post) (hk : ∀ s, Sim X (post s) rest (q s) R) : Sim X A (sSeq st rest) (p.bind q) R := Sim.bind h fun b a _ ρ' r => by
  obtain ⟨rfl, r2⟩ := r
  exact hk b ρ' r2
theorem sS_last {R : β → Fl → SEnv → Prop} {st : SS} {p : Rs β} (h : Sim X A (sSeq st sSkip) p R) : Sim X A st p R := by
  have e : sSeq st sSkip = st := by
    funext ρ
    unfold sSeq
    cases st ρ with
    | ok f ρ1 => cases f <;> rfl
    | exc c fs ρ1 => rfl
    | bad => rfl
  rwa [e] at h
theorem sS_sum {R : β → Fl → SEnv → Prop} {RT : τ → Fl → SEnv → Prop} {st rest : SS} {p : Rs (σ ⊕ τ)} {post : σ → List Kn} {inj : τ → β} {q : σ → Rs β} (h : Sim X A st p (RMx (fun t fl ρ => fl ≠ .nx ∧ RT t fl ρ) post)) (c : CapT RT R inj) (hk : ∀ s, Sim X (post s) rest (q s) R) : Sim X A (sSeq st rest) (p.sum inj q) R := Sim.bind h fun b a _ ρ' r => by
  cases b with
  | inl s =>
    obtain ⟨rfl, r2⟩ := r
    exact hk s ρ' r2
  | inr t =>
    refine ⟨a, ρ', ?_, c t a ρ' r.1 r.2⟩
    cases a with
    | nx => exact absurd rfl r.1
    | _ => rfl
theorem sS_if {R : β → Fl → SEnv → Prop} {t : ST} {a b : SS} {pt : Rs Bool} {p q : Rs β} (ht : SimE X A t pt A1) (ha : Sim X A1 a p R) (hb : Sim X A1 b q R) : Sim X A (sIf t a b) (pt.bind fun c => if c then p else q) R := SimE.bind ht fun c => sim_ite ha hb
theorem Sim.jump {R : β → Fl → SEnv → Prop} {a rest : SS} {p : Rs β} (h : Sim X A a p (Rj R)) : Sim X A (sSeq a rest) p R := fun ρ ha => by
  have h' := h ρ ha
  cases p with
  | ok b =>
    obtain ⟨f, ρ1, e1, n, r⟩ := h'
    refine ⟨f, ρ1, ?_, r⟩
    unfold sSeq
    rw [e1]
    cases f with
    | nx => exact absurd rfl n
    | _ => rfl
  | exc c fs =>
    obtain ⟨ρ1, e1, r⟩ := h'
    refine ⟨ρ1, ?_, r⟩
    unfold sSeq
    rw [e1]; rfl
  | bad => trivial
theorem seq_if {t : ST} {a b rest : SS} : sSeq (sIf t a b) rest = sIf t (sSeq a rest) (sSeq b rest) := by
  funext ρ
  unfold sSeq sIf
  cases t ρ with
  | ok c ρ1 => cases c <;> rfl
  | exc c fs ρ1 => rfl
  | bad => rfl
theorem sS_if1 {R : β → Fl → SEnv → Prop} {t : ST} {a b rest : SS} {pt : Rs Bool} {p q : Rs β} (ht : SimE X A t pt A1) (ha : Sim X A1 a p (Rj R)) (hb : Sim X A1 (sSeq b rest) q R) : Sim X A (sSeq (sIf t a b) rest) (pt.bind fun c => if c then p else q) R := by
  rw [seq_if]
  exact sS_if ht ha.jump hb
theorem sS_skip {R : β → Fl → SEnv → Prop} {rest : SS} {p : Rs β} (h : Sim X A rest p R) : Sim X A (sSeq sSkip rest) p R := h
theorem sS_asg {i : Nat} {e : SE} {p : Rs D} (h : SimE X A e p A1) : SimB X A (sAsg i e) p (fun d => A1.set i (.is (.sh d))) := fun ρ ha => by
  have h' := h ρ ha
  cases p with
  | ok b => obtain ⟨a, ρ1, e1, rfl, r⟩ := h'; exact ⟨.nx, ρ1.set i (.sh a), by unfold sAsg; rw [e1]; rfl, rfl, Ag.set kis i r⟩
  | exc c fs => obtain ⟨ρ1, e1, r⟩ := h'; exact ⟨ρ1, by unfold sAsg; rw [e1]; rfl, r⟩
  | bad => trivial
theorem sS_own {i : Nat} {e : SE} {p : Rs D} (h : SimE X A e p A1) : SimB X A (sOwn i e) p (fun d => A1.set i (.is (.own d))) := fun ρ ha => by
  have h' := h ρ ha
  cases p with
  | ok b => obtain ⟨a, ρ1, e1, rfl, r⟩ := h'; exact ⟨.nx, ρ1.set i (.own a), by unfold sOwn; rw [e1]; rfl, rfl, Ag.set kis i r⟩
  | exc c fs => obtain ⟨ρ1, e1, r⟩ := h'; exact ⟨ρ1, by unfold sOwn; rw [e1]; rfl, r⟩
  | bad => trivial
theorem sS_expr {e : SE} {p : Rs D} (h : SimE X A e p A1) : SimB X A (sExpr e) p (fun _ => A1) := fun ρ ha => by
  have h' := h ρ ha
  cases p with
  | ok b => obtain ⟨a, ρ1, e1, rfl, r⟩ := h'; exact ⟨.nx, ρ1, by unfold sExpr; rw [e1]; rfl, rfl, r⟩
  | exc c fs => obtain ⟨ρ1, e1, r⟩ := h'; exact ⟨ρ1, by unfold sExpr; rw [e1]; rfl, r⟩
  | bad => trivial
theorem sS_par {i j : Nat} {m n : Bool} {a b : SE} {p q : Rs D} (h : SimE X A a p A1) (h' : SimE X A1 b q A2) : SimB X A (sPar i j m n a b) (p.bind fun x => q.bind fun y => .ok (x, y)) (fun s => (A2.set i (.is (slotOf m s.1))).set j (.is (slotOf n s.2))) :=
  SimE.bind h fun x => SimE.bind h' fun y => fun ρ ha => ⟨.nx, _, rfl, rfl, Ag.set kis j (Ag.set kis i ha)⟩
theorem opt_noexc {o : Option β} : match Rs.opt o with | .exc _ _ => False | _ => True := by cases o <;> trivial
def pLend (d : D) (p : Rs D) : Rs D := match d, p with
  | .lst _, .ok x => if noLst x then .ok x else .bad
  | _, _ => .bad
def knSh : Kn → Bool
  | .tmp | .is (.sh _) | .is .no => true
  | _ => false
inductive Mode where
  | own | io
def Mode.slot : Mode → D → Slot
  | .own, d => .own d
  | .io, d => .io d
theorem alone_mode {ρ : SEnv} {i : Nat} {m : Mode} {x : D} (h : ρ[i]? = some (m.slot x)) : aloneAt ρ i = true := by unfold aloneAt; rw [h]; cases m <;> rfl
theorem reSlot_mode {ρ : SEnv} {i : Nat} {m : Mode} {x y : D} {f : D → Option D} (h : ρ[i]? = some (m.slot x)) (hf : f x = some y) : reSlot i f ρ = .ok .nx (ρ.set i (m.slot y)) := by
  unfold reSlot
  rw [h]
  cases m <;> simp only [Mode.slot, hf]
theorem sS_setI {i : Nat} {m : Mode} {x : D} {ix v : SE} {p q : Rs D} (hv : SimE X A v p A1) (hi : SimE X A1 ix q A2) (h1 : A1[i]? = some (.is (m.slot x)) := by rfl) (h2 : A2[i]? = some (.is (m.slot x)) := by rfl) : SimB X A (sSetI i ix v) (p.bind fun y => q.bind fun k => Rs.opt (setD x k y)) (fun d => A2.set i (.is (m.slot d))) := SimE.bind hv fun y => fun ρ ha => by
  have a1 := alone_mode (ha.at h1)
  have h' := hi ρ ha
  cases q with
  | ok k =>
    obtain ⟨k', ρ1, e1, rfl, r⟩ := h'
    simp only [Rs.bind_ok]
    cases z : setD x k' y with
    | none => trivial
    | some d => exact ⟨.nx, ρ1.set i (m.slot d), by simp only [a1, if_true, e1, Out.bind_ok]; exact reSlot_mode (r.at h2) z, rfl, Ag.set kis i r⟩
  | exc c fs => obtain ⟨ρ1, e1, r⟩ := h'; exact ⟨ρ1, by simp only [a1, if_true, e1, Out.bind_exc], r⟩
  | bad => trivial
theorem sS_fld {i : Nat} {m : Mode} {x : D} {f : Str} {e : SE} {p : Rs D} (he : SimE X A e p A1) (h1 : A1[i]? = some (.is (m.slot x)) := by rfl) : SimB X A (sFld i f e) (p.bind fun v => Rs.opt (fldPut f v x)) (fun d => A1.set i (.is (m.slot d))) := SimE.bind he fun v => fun ρ ha => by
  cases z : fldPut f v x with
  | none => trivial
  | some d => exact ⟨.nx, ρ.set i (m.slot d), reSlot_mode (ha.at h1) z, rfl, Ag.set kis i ha⟩
theorem forL_simA {g : SG} {b : SS} {f : σ → D → Rs σ} {post : σ → List Kn} (h : ∀ s x ρ, Ag (post s) ρ → match f s x with
      | .ok s' => ∃ ρ1 fl ρ2, g x ρ = some ρ1 ∧ b ρ1 = .ok fl ρ2 ∧ RA post s' fl ρ2
      | .exc c fs => ∃ ρ1 ρ2, g x ρ = some ρ1 ∧ b ρ1 = .exc c fs ρ2 ∧ Ag X ρ2
      | .bad => True) : ∀ (xs : List D) (s : σ), Sim X (post s) (forL g b xs) (pFold f xs s) (RBk post)
  | [], s => fun ρ ha => ⟨.nx, ρ, rfl, rfl, ha⟩
  | x :: xs, s => fun ρ ha => by
    have h' := h s x ρ ha
    unfold pFold
    cases q : f s x with
    | ok s' =>
      rw [q] at h'
      obtain ⟨ρ1, fl, ρ2, e1, e2, r1, r2⟩ := h'
      have ih := forL_simA h xs s' ρ2 r2
      have e3 : forL g b (x :: xs) ρ = forL g b xs ρ2 := by
        conv => lhs; unfold forL
        simp only [e1, e2, Out.bind_ok]
        rcases r1 with rfl | rfl <;> rfl
      simp only [Rs.bind_ok, e3]
      exact ih
    | exc c fs =>
      rw [q] at h'
      obtain ⟨ρ1, ρ2, e1, e2, r⟩ := h'
      exact ⟨ρ2, by unfold forL; simp only [e1, e2, Out.bind_exc], r⟩
    | bad => trivial
theorem forL_simL {g : SG} {b : SS} {RT : τ → Fl → SEnv → Prop} {f : σ → D → Rs (Lc σ τ)} {post : σ → List Kn} (h : ∀ s x ρ, Ag (post s) ρ → match f s x with
      | .ok r => ∃ ρ1 fl ρ2, g x ρ = some ρ1 ∧ b ρ1 = .ok fl ρ2 ∧ RL (fun t fl ρ => (∃ d, fl = .rt d ∨ fl = .ro d) ∧ RT t fl ρ) post r fl ρ2
      | .exc c fs => ∃ ρ1 ρ2, g x ρ = some ρ1 ∧ b ρ1 = .exc c fs ρ2 ∧ Ag X ρ2
      | .bad => True) : ∀ (xs : List D) (s : σ), Sim X (post s) (forL g b xs) (pLoop f xs s) (RMx (fun t fl ρ => fl ≠ .nx ∧ RT t fl ρ) post)
  | [], s => fun ρ ha => ⟨.nx, ρ, rfl, rfl, ha⟩
  | x :: xs, s => fun ρ ha => by
    have h' := h s x ρ ha
    unfold pLoop
    cases q : f s x with
    | ok r =>
      rw [q] at h'
      obtain ⟨ρ1, fl, ρ2, e1, e2, r1⟩ := h'
      simp only [Rs.bind_ok]
      cases r with
      | go s' =>
        obtain ⟨r1, r2⟩ := r1
        have ih := forL_simL h xs s' ρ2 r2
        have e3 : forL g b (x :: xs) ρ = forL g b xs ρ2 := by
          conv => lhs; unfold forL
          simp only [e1, e2, Out.bind_ok]
          rcases r1 with rfl | rfl <;> rfl
        simp only [e3]
        exact ih
      | brk s' =>
        obtain ⟨rfl, r2⟩ := r1
        exact ⟨.nx, ρ2, by unfold forL; simp only [e1, e2, Out.bind_ok], rfl, r2⟩
      | ret t =>
        obtain ⟨⟨d, r1⟩, r2⟩ := r1
        refine ⟨fl, ρ2, ?_, ?_, r2⟩
        · unfold forL; simp only [e1, e2, Out.bind_ok]; rcases r1 with rfl | rfl <;> rfl
        · rcases r1 with rfl | rfl <;> (intro z; cases z)
    | exc c fs =>
      rw [q] at h'
      obtain ⟨ρ1, ρ2, e1, e2, r⟩ := h'
      exact ⟨ρ2, by unfold forL; simp only [e1, e2, Out.bind_exc], r⟩
    | bad => trivial
theorem sS_for {s0 : σ} {it : SI} {g : SG} {b : SS} {p : Rs (List D)} {post : σ → List Kn} {pg : D → Rs β} {postg : σ → β → List Kn} {f : σ → β → Rs σ} (hi : SimE X A it p A1) (w : Wk A1 (post s0)) (hg : ∀ s x, SimG (post s) g x (pg x) (postg s)) (ne : ∀ x, match pg x with | .exc _ _ => False | _ => True)
    (hb : ∀ s y, Sim X (postg s y) b (f s y) (RA post)) : SimB X A (sFor it g b) (p.bind fun xs => pFold (fun s x => (pg x).bind (f s)) xs s0) post := SimE.bind hi fun xs => Sim.wk w (forL_simA (fun s x ρ ha => by
  have hg' := hg s x ρ ha
  have ne' := ne x
  cases q : pg x with
  | ok y =>
    rw [q] at hg'
    obtain ⟨ρ1, e1, r1⟩ := hg'
    simp only [Rs.bind_ok]
    have hb' := hb s y ρ1 r1
    cases q2 : f s y with
    | ok s' => rw [q2] at hb'; obtain ⟨fl, ρ2, e2, r2⟩ := hb'; exact ⟨ρ1, fl, ρ2, e1, e2, r2⟩
    | exc c fs => rw [q2] at hb'; obtain ⟨ρ2, e2, r2⟩ := hb'; exact ⟨ρ1, ρ2, e1, e2, r2⟩
    | bad => trivial
  | exc c fs => rw [q] at ne'; exact ne'.elim
  | bad => trivial) xs s0)
theorem RTv.kind {fr : Bool} {d : D} {fl : Fl} {ρ : SEnv} (h : RTv fr d fl ρ) : ∃ d, fl = .rt d ∨ fl = .ro d := by
  unfold RTv at h
  cases fr with
  | true => rw [if_pos rfl] at h; exact ⟨d, .inr h⟩
  | false => rw [if_neg (by decide)] at h; exact ⟨d, h⟩
theorem RTio.kind {t : D × D} {fl : Fl} {ρ : SEnv} (h : RTio t fl ρ) : ∃ d, fl = .rt d ∨ fl = .ro d := ⟨_, .inl h.1⟩
def KindT (RT : τ → Fl → SEnv → Prop) : Prop := ∀ t fl ρ, RT t fl ρ → ∃ d, fl = .rt d ∨ fl = .ro d
theorem kindT_v {fr : Bool} : KindT (RTv fr) := fun _ _ _ h => h.kind
theorem sS_forL {s0 : σ} {it : SI} {g : SG} {b : SS} {RT : τ → Fl → SEnv → Prop} {p : Rs (List D)} {post : σ → List Kn} {pg : D → Rs β} {postg : σ → β → List Kn} {f : σ → β → Rs (Lc σ τ)} (hi : SimE X A it p A1) (w : Wk A1 (post s0)) (hg : ∀ s x, SimG (post s) g x (pg x) (postg s)) (ne : ∀ x, match pg x with | .exc _ _ => False | _ => True) (kd : KindT RT)
    (hb : ∀ s y, Sim X (postg s y) b (f s y) (RL RT post)) : Sim X A (sFor it g b) (p.bind fun xs => pLoop (fun s x => (pg x).bind (f s)) xs s0) (RMx (fun t fl ρ => fl ≠ .nx ∧ RT t fl ρ) post) := SimE.bind hi fun xs => Sim.wk w (forL_simL (fun s x ρ ha => by
  have hg' := hg s x ρ ha
  have ne' := ne x
  cases q : pg x with
  | ok y =>
    rw [q] at hg'
    obtain ⟨ρ1, e1, r1⟩ := hg'
    simp only [Rs.bind_ok]
    have hb' := hb s y ρ1 r1
    cases q2 : f s y with
    | ok r =>
      rw [q2] at hb'
      obtain ⟨fl, ρ2, e2, r2⟩ := hb'
      refine ⟨ρ1, fl, ρ2, e1, e2, ?_⟩
      cases r with
      | ret t => exact ⟨kd t fl ρ2 r2, r2⟩
      | _ => exact r2
    | exc c fs => rw [q2] at hb'; obtain ⟨ρ2, e2, r2⟩ := hb'; exact ⟨ρ1, ρ2, e1, e2, r2⟩
    | bad => trivial
  | exc c fs => rw [q] at ne'; exact ne'.elim
  | bad => trivial) xs s0)
theorem sS_while {s0 : σ} {n : Nat} {t : ST} {b : SS} {post : σ → List Kn} {pt : σ → Rs Bool} {f : σ → Rs σ} (w : Wk A (post s0)) (ht : ∀ s, SimE X (post s) t (pt s) (post s)) (hb : ∀ s, Sim X (post s) b (f s) (RA post)) : SimB X A (sWhile t b n) (pWhile pt f n s0) post := by
  refine Sim.wk w ?_
  induction n generalizing s0 A with
  | zero => exact Sim.bad
  | succ n ih =>
    refine SimE.bind (ht s0) fun c => ?_
    cases c with
    | false => exact fun ρ ha => ⟨.nx, ρ, rfl, rfl, ha⟩
    | true =>
      refine Sim.bind (hb s0) fun s' fl _ ρ' r => ?_
      obtain ⟨r1, r2⟩ := r
      have ih' := ih (A := post s') (s0 := s') (Wk.refl _) ρ' r2
      rcases r1 with rfl | rfl <;> exact ih'
def putP (kvs : List (D × D)) (k v : D) : Rs (List (D × D)) := if keyD k = true ∧ kvs.length < SZ then .ok (putD kvs k v) else .bad
def pCl {ζ : Type} (t : D → Rs Bool) (f : ζ → D → Rs ζ) : List D → ζ → Rs ζ
  | [], a => .ok a
  | x :: xs, a => match t x with
    | .ok true => (match f a x with
      | .ok a' => pCl t f xs a'
      | _ => .bad)
    | .ok false => pCl t f xs a
    | _ => .bad
theorem fn_of {n m : Nat} {fr : Bool} {b : SS} {ds : List D} {p : Rs D} (hl : ds.length = m) (hA : knows (startE n false ds) = A) (hX : X = X) (h : Sim X A b p (RFv fr)) : FnP (fnOf n m false fr b ds) p := by
  subst hA
  have h' := h _ (ag_knows _)
  unfold FnP fnOf
  rw [if_pos hl]
  cases p with
  | ok d =>
    obtain ⟨fl, ρ', e, r⟩ := h'
    simp only [e]
    rcases r with r | ⟨rfl, rfl, rfl⟩
    · unfold RTv at r
      cases fr with
      | true => rw [if_pos rfl] at r; subst r; exact ⟨none, rfl⟩
      | false => rw [if_neg (by decide)] at r; rcases r with rfl | rfl <;> exact ⟨none, rfl⟩
    · exact ⟨none, rfl⟩
  | exc c fs =>
    obtain ⟨ρ', e, r⟩ := h'
    simp only [e]; rfl
  | bad => trivial
theorem fnIo_of {n m : Nat} {b : SS} {ds : List D} {p : Rs (D × D)} (hl : ds.length = m) (hA : knows (startE n true ds) = A) (hX : X = X) (h : Sim X A b p RFio) : FnIo (fnOf n m true false b ds) p := by
  subst hA
  have h' := h _ (ag_knows _)
  unfold FnIo fnOf
  rw [if_pos hl]
  cases p with
  | ok t =>
    obtain ⟨d, s⟩ := t
    obtain ⟨fl, ρ', e, r⟩ := h'
    simp only [e]
    rcases r with ⟨rfl, r⟩ | ⟨rfl, z, r⟩
    · have r' : ρ'[0]? = some (.io s) := r
      simp [endOf, ioOf, ioSlot, r']
    · have z' : d = .non := z
      subst z'
      have r' : ρ'[0]? = some (.io s) := r
      simp [endOf, ioOf, ioSlot, r']
  | exc c fs =>
    obtain ⟨ρ', e, r⟩ := h'
    simp only [e]; rfl
  | bad => trivial
theorem notOwn_nil : notOwn A [] := fun _ h => by cases h
theorem notOwn_cons {v : Nat} {vs : List Nat} (h : ∃ k, A[v]? = some k ∧ WkE k .tmp) (hs : notOwn A vs) : notOwn A (v :: vs) := fun u hu => by
  rcases List.mem_cons.mp hu with rfl | hu
  · exact h
  · exact hs u hu
theorem wk_anyL : ∀ {A : List Kn}, Wk A (List.replicate A.length .any)
  | [] => trivial
  | _ :: A => ⟨trivial, wk_anyL (A := A)⟩
theorem wk_any {n : Nat} (h : A.length = n) : Wk A (List.replicate n .any) := by subst h; exact wk_anyL
theorem wk_nil : Wk [] [] := trivial
theorem wk_cons {a b : Kn} {A B : List Kn} (h : WkE a b) (hs : Wk A B) : Wk (a :: A) (b :: B) := ⟨h, hs⟩
end
end VL
end

section
namespace VL
open PySem (Str)
section
variable {α β γ ζ : Type} {X A A1 A2 A' : List Kn}
def StepOk {ζ : Type} (_X A' : List Kn) (vs : List Nat) (At : List Kn) (step : ζ → SEnv → Out ζ) (q : ζ → Rs ζ) : Prop := ∀ a ρ, Ag At ρ → match q a with
  | .ok a' => ∃ ρ', step a ρ = .ok a' ρ' ∧ Ag A' (wipeE ρ' vs)
  | _ => True
def pApp (ds : List D) (d : D) : Rs (List D) := if ds.length < SZ then .ok (ds ++ [d]) else .bad
end
end VL
end

section
namespace VL
open PySem (Str)
def noX {β : Type} : Rs β → Rs β
  | .ok b => .ok b
  | _ => .bad
@[simp] theorem noX_ok {β : Type} (b : β) : noX (.ok b) = .ok b := id rfl
def pTry {β : Type} (p : Rs β) (h : Nat → List (Str × D) → Rs β) : Rs β := match p with
  | .ok b => .ok b
  | .exc c fs => h c fs
  | .bad => .bad
@[simp] theorem pTry_ok {β : Type} (b : β) (h : Nat → List (Str × D) → Rs β) : pTry (.ok b) h = .ok b := id rfl
@[simp] theorem pTry_exc {β : Type} (c : Nat) (fs : List (Str × D)) (h : Nat → List (Str × D) → Rs β) : pTry (.exc c fs) h = h c fs := id rfl
def pClz {β : Type} (m : Nat → Option Bool) (p q : Rs β) (c : Nat) : Rs β := match m c with
  | some true => noX p
  | some false => q
  | none => .bad
def offK (k : Option Nat) (A : List Kn) : List Kn := match k with
  | none => A
  | some i => A.set i (.is .no)
def inK (k : Option Nat) (A : List Kn) : Bool := match k with
  | none => true
  | some i => decide (i < A.length)
def offOk (i : Nat) (A : List Kn) : Bool := match A[i]? with
  | some .any | some .tmp | some (.is .no) | none => true
  | _ => false
def lkF (fs : List (Str × D)) (f : Str) : Option D := fs.lookup f
@[simp] theorem lkF_one (f : Str) (d : D) : lkF [(f, d)] f = some d := by
  unfold lkF
  simp [List.lookup]
def OffR {β : Type} (k : Option Nat) (R : β → Fl → SEnv → Prop) : Prop := ∀ b fl ρ, R b fl ρ → R b fl (offR k ρ)
def pIsK {α : Type} (x : D) (q : Rs α) : Rs α := match x with
  | .dic _ => q
  | _ => .bad
@[simp] theorem pIsK_dic {α : Type} (l : List (D × D)) (q : Rs α) : pIsK (.dic l) q = q := id rfl
section
variable {β σ τ : Type} {X Xb A : List Kn} {R : β → Fl → SEnv → Prop}
theorem Ag.off : ∀ {A : List Kn} {ρ : SEnv} {i : Nat}, offOk i A = true → Ag A ρ → Ag A (ρ.set i .no)
  | [], [], _, _, _ => trivial
  | [], _ :: _, _, _, h => h.elim
  | _ :: _, [], _, _, h => h.elim
  | k :: A, s :: ρ, 0, o, h => by
    refine ⟨?_, h.2⟩
    cases k with
    | any => trivial
    | tmp => rfl
    | is t =>
      cases t with
      | no => rfl
      | _ => exact nomatch (show false = true from o)
  | k :: A, s :: ρ, i + 1, o, h => ⟨h.1, Ag.off (i := i) (by unfold offOk at o ⊢; exact o) h.2⟩
theorem offR_none : OffR none R := fun _ _ _ h => h
theorem offR_L {fr : Bool} {i : Nat} {post : σ → List Kn} (h : ∀ s, offOk i (post s) = true) : OffR (some i) (RL (RTv fr) post) := fun b fl ρ r => by
  cases b with
  | go s => exact ⟨r.1, Ag.off (h s) r.2⟩
  | brk s => exact ⟨r.1, Ag.off (h s) r.2⟩
  | ret t => exact r
theorem sE_xf {fs : List (Str × D)} {f : Str} : SimE X A (eXf fs f) (Rs.opt (lkF fs f)) A := sim_opt
theorem sS_try {body : SS} {cl : List Clz} {pb : Rs β} {h : Nat → List (Str × D) → Rs β} (hb : Sim Xb A body pb R) (hh : ∀ c fs, Sim X Xb (fun ρ => tryCl cl c fs ρ) (h c fs) R) : Sim X A (sTry body cl) (pTry pb h) R := fun ρ ha => by
  have q := hb ρ ha
  cases pb with
  | ok b =>
    obtain ⟨a, ρ1, e, r⟩ := q
    exact ⟨a, ρ1, by unfold sTry; rw [e], r⟩
  | bad => trivial
  | exc c fs =>
    obtain ⟨ρ1, e, ag⟩ := q
    have z := hh c fs ρ1 ag
    have e2 : sTry body cl ρ = tryCl cl c fs ρ1 := by unfold sTry; rw [e]
    simp only [pTry_exc]
    rw [e2]
    exact z
theorem sC_nil {c : Nat} {fs : List (Str × D)} (w : Wk A X) : Sim X A (fun ρ => tryCl [] c fs ρ) (.exc c fs) R := fun ρ ha => ⟨ρ, rfl, w.ag ha⟩
theorem inK_inR {k : Option Nat} {ρ : SEnv} (h : inK k A = true) (ha : Ag A ρ) : inR k ρ = true := by
  cases k with
  | none => rfl
  | some i =>
    unfold inK at h
    unfold inR
    rw [← ha.len]; exact h
theorem Ag.offK {k : Option Nat} {ρ : SEnv} (ha : Ag A ρ) : Ag (offK k A) (offR k ρ) := by
  cases k with
  | none => exact ha
  | some i => exact Ag.set kis i ha
theorem sC_cons {m : Nat → Option Bool} {k : Option Nat} {s : List (Str × D) → SS} {r : List Clz} {c : Nat} {fs : List (Str × D)} {p q : Rs β} {X1 : List Kn} (hk : inK k A = true) (ho : OffR k R) (hs : Sim X1 (offK k A) (s fs) p R) (hr : Sim X A (fun ρ => tryCl r c fs ρ) q R) :
    Sim X A (fun ρ => tryCl ((m, k, s) :: r) c fs ρ) (pClz m p q c) R := fun ρ ha => by
  show match pClz m p q c with | .ok b => ∃ a ρ', tryCl ((m, k, s) :: r) c fs ρ = .ok a ρ' ∧ R b a ρ' | .exc c2 f2 => ∃ ρ', tryCl ((m, k, s) :: r) c fs ρ = .exc c2 f2 ρ' ∧ Ag X ρ' | .bad => True
  unfold pClz tryCl
  cases m c with
  | none => trivial
  | some t =>
    cases t with
    | false => exact hr ρ ha
    | true =>
      have z := hs (offR k ρ) ha.offK
      simp only [inK_inR hk ha, if_true]
      cases p with
      | ok b =>
        obtain ⟨a, ρ1, e, rr⟩ := z
        exact ⟨a, offR k ρ1, by simp only [e], ho _ _ _ rr⟩
      | exc c2 f2 => trivial
      | bad => trivial
theorem sS_raise0 {c : Nat} (w : Wk A X) : Sim X A (sRaise c none aNil) (.exc c [] : Rs β) R := fun ρ ha => ⟨ρ, rfl, w.ag ha⟩
theorem sS_raise1 {c : Nat} {f : Str} {e : SE} {p : Rs D} {A1 : List Kn} (h : SimE X A e p A1) (w : Wk A1 X) : Sim X A (sRaise c (some f) (aCons e aNil)) (p.bind fun d => (.exc c [(f, d)] : Rs β)) R := fun ρ ha => by
  have q := h ρ ha
  cases p with
  | ok b =>
    obtain ⟨a, ρ1, e1, rfl, ag⟩ := q
    refine ⟨ρ1, ?_, w.ag ag⟩
    unfold sRaise aCons
    simp only [e1, Out.bind_ok]
    rfl
  | exc c2 f2 =>
    obtain ⟨ρ1, e1, ag⟩ := q
    refine ⟨ρ1, ?_, ag⟩
    unfold sRaise aCons
    simp only [e1, Out.bind_exc]
  | bad => trivial
end
end VL
end

section
namespace VL
open PySem (Str)
def pCx (t : D → Rs Bool) (e : D → Rs D) : List D → Rs (List D)
  | [] => .ok []
  | x :: xs => match t x with
    | .ok true => (match e x with
      | .ok d => (pCx t e xs).bind fun ds => .ok (d :: ds)
      | .exc c fs => .exc c fs
      | .bad => .bad)
    | .ok false => pCx t e xs
    | _ => .bad
def pCompX (t : D → Rs Bool) (e : D → Rs D) (xs : List D) : Rs (List D) := if xs.length ≤ SZ then pCx t e xs else .bad
section
variable {X A A1 : List Kn} {β : Type}
theorem ag_any : ∀ {n : Nat} {ρ : SEnv}, ρ.length = n → Ag (List.replicate n .any) ρ
  | 0, [], _ => trivial
  | n + 1, s :: ss, h => ⟨trivial, ag_any (by simpa using h)⟩
theorem backE_lenP {ρ0 ρ : SEnv} : ∀ {vs : List Nat}, (backE ρ0 ρ vs).length = ρ.length
  | [] => rfl
  | v :: vs => by unfold backE; rw [List.length_set, backE_lenP]
theorem compLX_sim {vs : List Nat} {g : SG} {t : ST} {e : SE} {pt : D → Rs Bool} {pe : D → Rs D} (h : ∀ x ρ, Ag (setsK A (.is .no) vs) ρ → (match pt x with
      | .ok c => ∃ ρ1 ρ2, g x ρ = some ρ1 ∧ t ρ1 = .ok c ρ2 ∧ (c = false → Ag (setsK A (.is .no) vs) (wipeE ρ2 vs)) ∧ (c = true → match pe x with
        | .ok d => ∃ ρ3, e ρ2 = .ok d ρ3 ∧ Ag (setsK A (.is .no) vs) (wipeE ρ3 vs)
        | .exc c fs => ∃ ρ3, e ρ2 = .exc c fs ρ3 ∧ Ag X ρ3
        | .bad => True)
      | _ => True)) (hw : ∀ ρ, Ag (setsK A (.is .no) vs) ρ → Ag (setsK A (.is .no) vs) (wipeE ρ vs)) : ∀ (xs acc : List D) (ρ : SEnv), Ag (setsK A (.is .no) vs) ρ → acc.length + xs.length ≤ SZ → match pCx pt pe xs with
      | .ok ds => ∃ ρ', compLX vs g t e xs acc ρ = .ok (acc ++ ds) ρ' ∧ Ag (setsK A (.is .no) vs) ρ' ∧ ds.length ≤ xs.length
      | .exc c fs => ∃ ρ', compLX vs g t e xs acc ρ = .exc c fs ρ' ∧ Ag X ρ'
      | .bad => True
  | [], acc, ρ, ha, _ => ⟨ρ, by simp [compLX], ha, Nat.le_refl _⟩
  | x :: xs, acc, ρ, ha, hz => by
    have hx := h x (wipeE ρ vs) (hw ρ ha)
    simp only [List.length_cons] at hz
    unfold pCx
    cases q1 : pt x with
    | ok c =>
      rw [q1] at hx
      obtain ⟨ρ1, ρ2, e1, e2, hf, ht⟩ := hx
      cases c with
      | false =>
        have ih := compLX_sim h hw xs acc (wipeE ρ2 vs) (hf rfl) (by omega)
        simp only
        cases q2 : pCx pt pe xs with
        | ok ds =>
          rw [q2] at ih
          obtain ⟨ρ', e3, h3, l3⟩ := ih
          refine ⟨ρ', ?_, h3, by simp; omega⟩
          unfold compLX
          simp only [e1, e2]
          exact e3
        | exc c fs =>
          rw [q2] at ih
          obtain ⟨ρ', e3, h3⟩ := ih
          refine ⟨ρ', ?_, h3⟩
          unfold compLX
          simp only [e1, e2]
          exact e3
        | bad => trivial
      | true =>
        have ht' := ht rfl
        simp only
        cases q2 : pe x with
        | ok d =>
          rw [q2] at ht'
          obtain ⟨ρ3, e3, h3⟩ := ht'
          have ih := compLX_sim h hw xs (acc ++ [d]) (wipeE ρ3 vs) h3 (by simp; omega)
          have hlt : acc.length < SZ := by omega
          cases q3 : pCx pt pe xs with
          | ok ds =>
            rw [q3] at ih
            obtain ⟨ρ', e4, h4, l4⟩ := ih
            refine ⟨ρ', ?_, h4, by simp; omega⟩
            unfold compLX
            simp only [e1, e2, e3]
            rw [if_pos hlt, e4]
            simp
          | exc c fs =>
            rw [q3] at ih
            obtain ⟨ρ', e4, h4⟩ := ih
            refine ⟨ρ', ?_, h4⟩
            unfold compLX
            simp only [e1, e2, e3]
            rw [if_pos hlt, e4]
          | bad => trivial
        | exc c fs =>
          rw [q2] at ht'
          obtain ⟨ρ3, e3, h3⟩ := ht'
          refine ⟨ρ3, ?_, h3⟩
          unfold compLX
          simp only [e1, e2, e3]
        | bad => trivial
    | exc c fs => trivial
    | bad => trivial
theorem sE_compX {n : Nat} {it : SI} {vs : List Nat} {g : SG} {t : ST} {e : SE} {p : Rs (List D)} {pg : D → Rs β} {post : β → List Kn} {qt : β → Rs Bool} {qe : β → Rs D} {At Ae : β → List Kn} (hX : X = List.replicate n .any) (hi : SimE X A it p A1) (hn : notOwn A1 vs)
    (hg : ∀ x, SimG (setsK A1 (.is .no) vs) g x (pg x) post) (ht : ∀ b, SimE X (post b) t (qt b) (At b)) (he : ∀ b, SimE X (At b) e (qe b) (Ae b)) (w1 : ∀ b, Wk (setsK (At b) (.is .no) vs) (setsK A1 (.is .no) vs)) (w2 : ∀ b, Wk (setsK (Ae b) (.is .no) vs) (setsK A1 (.is .no) vs)) :
    SimE X A (eCompX it vs g t e) (p.bind fun xs => (pCompX (fun x => (pg x).bind qt) (fun x => (pg x).bind qe) xs).bind pLst) A1 := SimE.bind hi fun xs => by
  intro ρ ha
  have hsh := sho_of hn ha
  unfold pCompX
  by_cases hz : xs.length ≤ SZ
  · rw [if_pos hz]
    have key := compLX_sim (X := X) (vs := vs) (g := g) (t := t) (e := e) (A := A1) (pt := fun x => (pg x).bind qt) (pe := fun x => (pg x).bind qe) (fun x ρ hr => by
      have hg' := hg x ρ hr
      cases q1 : pg x with
      | ok b =>
        rw [q1] at hg'
        obtain ⟨ρ1, g1, g2⟩ := hg'
        simp only [Rs.bind_ok]
        have ht' := ht b ρ1 g2
        cases q2 : qt b with
        | ok c =>
          rw [q2] at ht'
          obtain ⟨c', ρ2, t1, rfl, t2⟩ := ht'
          refine ⟨ρ1, ρ2, g1, t1, fun _ => wipe_post (w1 b) t2, fun _ => ?_⟩
          have he' := he b ρ2 t2
          cases q3 : qe b with
          | ok d =>
            rw [q3] at he'
            obtain ⟨d', ρ3, k1, rfl, k2⟩ := he'
            exact ⟨ρ3, k1, wipe_post (w2 b) k2⟩
          | exc c fs =>
            rw [q3] at he'
            exact he'
          | bad => trivial
        | exc c fs => trivial
        | bad => trivial
      | exc c fs => trivial
      | bad => trivial) (fun ρ hr => setsK_no_idem hr) xs [] (wipeE ρ vs) (Ag.wipe vs ha) (by simpa using hz)
    cases q : pCx (fun x => (pg x).bind qt) (fun x => (pg x).bind qe) xs with
    | bad => trivial
    | exc c fs =>
      rw [q] at key
      obtain ⟨ρ', e1, h1⟩ := key
      refine ⟨backE ρ ρ' vs, ?_, ?_⟩
      · simp only [hsh, if_true, e1]
        rfl
      · subst hX
        have l := h1.len
        rw [List.length_replicate] at l
        exact ag_any (by rw [backE_lenP]; omega)
    | ok ds =>
      rw [q] at key
      obtain ⟨ρ', e1, h1, l1⟩ := key
      simp only [Rs.bind_ok]
      unfold pLst
      rw [if_pos (by omega)]
      refine ⟨.lst ds, backE ρ ρ' vs, ?_, rfl, ag_back ha h1⟩
      simp only [hsh, if_true, e1, List.nil_append]
      rfl
  · rw [if_neg hz]; trivial
end
end VL
end

section
namespace VL
open PySem (Str)
def oNeX (tab : Nat → Option FnS) (x y : D) : Option D := match x, y with
  | .ins c fs, .int i => (match tab c with
    | some fn => (match fn [.ins c fs, .int i] with
      | some (.val (.bl b) _) => some (.bl (!b))
      | _ => none)
    | none => none)
  | _, _ => none
def oMulT1 : D → D → Option D
  | .tup a, .int k => if a ≠ [] ∧ 1 ≤ k ∧ k ≤ 1000 ∧ a.length ≤ 1000 then some (.tup (List.replicate k.toNat a).flatten) else none
  | _, _ => none
def oInO (tab : Nat → Option FnS) (x y : D) : Option D := match y with
  | .ins c fs => (match tab c with
    | some fn => (match fn [.ins c fs, x] with
      | some (.val (.bl b) _) => some (.bl b)
      | _ => none)
    | none => none)
  | _ => none
def oNotInO (tab : Nat → Option FnS) (x y : D) : Option D := match oInO tab x y with
  | some (.bl b) => some (.bl (!b))
  | _ => none
def inRgD (x i j : D) : Option D := match x, i, j with
  | .int x, .int i, .int j => some (.bl (decide (i ≤ x ∧ x < j)))
  | _, _, _ => none
def eInR (f g h : SE) : SE := fun ρ => (f ρ).bind fun x ρ => (g ρ).bind fun i ρ => (h ρ).bind fun j ρ => Out.opt (inRgD x i j) ρ
def oSortedK : D → Option D
  | .dic kvs => (intsOf (kvs.map (·.1))).bind fun ns => if ns.length < 64 then some (.lst ((srtI ns).map .int)) else none
  | _ => none
def addOut (c : Nat) (fn : FnS) (x y : D) (ρ : SEnv) : Out D := match x, y with
  | .ins c1 fs1, .ins c2 fs2 => if c1 = c ∧ c2 = c then (match fn [.ins c1 fs1, .ins c2 fs2] with
    | some (.val (.ins c3 f3) _) => .ok (.ins c3 f3) ρ
    | some (.exn e fs) => .exc e fs ρ
    | _ => .bad) else .bad
  | _, _ => .bad
def eAddX (c : Nat) (fn : FnS) (f g : SE) : SE := fun ρ => (f ρ).bind fun x ρ => (g ρ).bind fun y ρ => addOut c fn x y ρ
end VL
end

section
namespace VL
section
variable {α β γ ζ : Type} {X A A1 A2 A' : List Kn}
def pAddX (c : Nat) (p : D → D → Rs D) (x y : D) : Rs D := match x, y with
  | .ins c1 fs1, .ins c2 fs2 => if c1 = c ∧ c2 = c then (p (.ins c1 fs1) (.ins c2 fs2)).bind fun d => match d with
    | .ins c3 f3 => .ok (.ins c3 f3)
    | _ => .bad
    else .bad
  | _, _ => .bad
end
end VL
end

section
set_option maxRecDepth 100000
set_option maxHeartbeats 4000000
namespace K18
open VL
def p__law_draw (a0 a1 a2 : D) : Rs D := ((((pLst []).bind fun x2 => Rs.opt (oNeS a0 x2)).bind fun x3 => asB x3).bind fun x6 => if x6 then (asI (.int 60)).bind fun x4 => Rs.opt (slL a0 none x4) else pLst [(.int 7)]).bind fun x1 => ((((Rs.opt (oLen x1)).bind fun x8 => Rs.opt (oMod a1 x8)).bind fun x9 => Rs.opt (oIdx x1 x9)).bind fun x11 => ((Rs.opt (oLen x1)).bind fun x10 => Rs.opt (oDiv a1 x10)).bind fun x12 => Rs.ok (x11, x12)).bind fun x7 => (((Rs.opt (oPow (.int 10) (.int 18))).bind fun x13 => Rs.opt (oGe x7.1 x13)).bind fun x14 => asB x14).bind fun x43 => if x43 then ((Rs.opt (oInt x7.1)).bind fun x16 => (Rs.opt (oPow (.int 97) (.int 40))).bind fun x17 => Rs.opt (oMod x16 x17)).bind fun x15 => (((Rs.opt (oMod x7.2 (.int 40))).bind fun x18 => Rs.opt (rng1 x18)).bind fun x24 => pFold (fun (s19 : D) x21 => (Rs.opt (oDiv s19 (.int 97))).bind fun x23 => Rs.ok x23) x24 x15).bind fun (s20 : D) => ((Rs.opt (oInt s20)).bind fun x25 => Rs.opt (oMod x25 (.int 97))).bind fun x26 => Rs.opt (oMod x26 a2) else ((((((((Rs.opt (oMul (.int 31) x7.2)).bind fun x28 => Rs.opt (oAdd x7.1 x28)).bind fun x29 => Rs.opt (oInt x29)).bind fun x30 => Rs.opt (oMod x30 (.int 1000003))).bind fun x31 => (Rs.opt (oMul (.int 977) a1)).bind fun x32 => Rs.opt (oAdd x31 x32)).bind fun x33 => Rs.opt (oAdd x33 (.int 13))).bind fun x34 => Rs.opt (oMul x34 (.int 48271))).bind fun x37 => (((Rs.opt (oDiv x7.1 (.int 1000003))).bind fun x35 => Rs.opt (oInt x35)).bind fun x36 => Rs.opt (oMod x36 (.int 999983))).bind fun x38 => Rs.opt (oAdd x37 x38)).bind fun x27 => ((((Rs.opt (oMod x27 (.int 2147483647))).bind fun x39 => Rs.opt (oMul x39 (.int 65537))).bind fun x40 => Rs.opt (oMod x40 (.int 4294967291))).bind fun x41 => Rs.opt (oInt x41)).bind fun x42 => Rs.opt (oMod x42 a2)
theorem sim__law_draw (a0 a1 a2 : D) : FnP (f__law_draw [a0, a1, a2]) (p__law_draw a0 a1 a2) := by
  have h := fn_of (n := 8) (m := 3) (b := b__law_draw) (ds := [a0, a1, a2]) (X := List.replicate 8 .any) (A := [.is (.sh a0), .is (.sh a1), .is (.sh a2), .is .no, .is .no, .is .no, .is .no, .is .no]) (fr := false) rfl rfl rfl (sS_seq (sS_asg (sE_if (sT_e (sE_op sE_var (sE_lst (sA_nil sK_lst)))) (sE_slL sE_var sP_no (sP_at sE_c)) (sE_lst (sA_cons sE_c fun y5 => (sA_nil sK_lst))))) fun x1 => (sS_seq (sS_par (sE_op sE_var (sE_op sE_var (sE_un sE_var))) (sE_op sE_var (sE_un sE_var))) fun x7 => (sS_if1 (sT_e (sE_op sE_var (sE_op sE_c sE_c)))
      (sS_seq (sS_asg (sE_op (sE_un sE_var) (sE_op sE_c sE_c))) fun x15 => (sS_seq (post := (fun (s20 : D) => [.is (.sh a0), .is (.sh a1), .is (.sh a2), .is (.sh x1), .is (.sh s20), .is (.sh x7.2), .tmp, .is .no])) (sS_for (s0 := x15) (post := (fun (s19 : D) => [.is (.sh a0), .is (.sh a1), .is (.sh a2), .is (.sh x1), .is (.sh s19), .is (.sh x7.2), .tmp, .is .no])) (sI_rng1 (sE_op sE_var sE_c)) (by repeat' (first | exact wk_nil | refine wk_cons ?_ ?_ | exact trivial | exact rfl)) (fun s19 x21 => sG_1) (fun _ => trivial) (fun s19 x21 => (sS_last (sS_seq (sS_asg (sE_op sE_var sE_c)) fun x23 => (sS_nx capN_A (post := (fun (s19 : D) => [.is (.sh a0), .is (.sh a1), .is (.sh a2), .is (.sh x1), .is (.sh s19), .is (.sh x7.2), .tmp, .is .no])) x23 (by repeat' (first | exact wk_nil | refine wk_cons ?_ ?_ | exact trivial | exact rfl))))))) fun s20 => (sS_ret1 (capT_j capT_F) (sE_op (sE_op (sE_un sE_var) sE_c) sE_var))))
      (sS_skip (sS_seq (sS_asg (sE_op (sE_op (sE_op (sE_op (sE_op (sE_un (sE_op sE_var (sE_op sE_c sE_var))) sE_c) (sE_op sE_c sE_var)) sE_c) sE_c) (sE_op (sE_un (sE_op sE_var sE_c)) sE_c))) fun x27 => (sS_ret1 capT_F (sE_op (sE_un (sE_op (sE_op (sE_op sE_var sE_c) sE_c) sE_c)) sE_var)))))))
  exact h

def p__law_rounds (a0 a1 a2 a3 : D) : Rs D := ((pTup [a3]).bind fun x4 => (pTup [(.str "every"), (.int 2), (.int 1)]).bind fun x9 => (pTup [(.str "every"), (.int 2), (.int 0)]).bind fun x14 => (pTup [(.str "every"), (.int 2), (.int 1)]).bind fun x19 => (pTup [(.str "every"), (.int 2), (.int 0)]).bind fun x24 => pLst [x4, x9, x14, x19, x24]).bind fun x1 => ((((p__law_draw a0 a1 (.int 4)).bind fun x28 => Rs.opt (oEq x28 (.int 0))).bind fun x29 => asB x29).bind fun x49 => if x49 then (((Rs.opt (oAdd a1 (.int 1))).bind fun x34 => p__law_draw a0 x34 (.int 2)).bind fun x36 => Rs.opt (oAdd (.int 3) x36)).bind fun x31 => ((((Rs.opt (oAdd a1 (.int 2))).bind fun x42 => p__law_draw a0 x42 x31).bind fun x45 => pTup [(.str "every"), x31, x45]).bind fun x48 => Rs.opt (setD x1 (.int 1) x48)).bind fun x37 => ((Rs.opt (oIdx x37 (.int 1))).bind fun x47 => Rs.opt (setD x37 (.int 3) x47)).bind fun x46 => Rs.ok x46 else Rs.ok x1).bind fun (s30 : D) => (((Rs.opt (oAdd a1 (.int 3))).bind fun x52 => (Rs.opt (oAdd a2 (.int 1))).bind fun x54 => p__law_draw a0 x52 x54).bind fun x55 => Rs.opt (rng1 x55)).bind fun x65 => (pMap (fun x56 => (((Rs.opt (oAdd a1 (.int 4))).bind fun x59 => Rs.opt (oAdd x59 x56)).bind fun x61 => p__law_draw a0 x61 (.int 5)).bind fun x63 => Rs.opt (oIdx s30 x63)) x65).bind pLst
theorem sim__law_rounds (a0 a1 a2 a3 : D) : FnP (f__law_rounds [a0, a1, a2, a3]) (p__law_rounds a0 a1 a2 a3) := by
  have h := fn_of (n := 7) (m := 4) (b := b__law_rounds) (ds := [a0, a1, a2, a3]) (X := List.replicate 7 .any) (A := [.is (.sh a0), .is (.sh a1), .is (.sh a2), .is (.sh a3), .is .no, .is .no, .is .no]) (fr := true) rfl rfl rfl (sS_seq (sS_own (sE_lst (sA_cons (sE_tup (sA_cons sE_var fun y2 => (sA_nil sK_tup))) fun y3 => (sA_cons (sE_tup (sA_cons sE_c fun y5 => (sA_cons sE_c fun y6 => (sA_cons sE_c fun y7 => (sA_nil sK_tup))))) fun y8 => (sA_cons (sE_tup (sA_cons sE_c fun y10 => (sA_cons sE_c fun y11 => (sA_cons sE_c fun y12 => (sA_nil sK_tup))))) fun y13 => (sA_cons (sE_tup (sA_cons sE_c fun y15 => (sA_cons sE_c fun y16 => (sA_cons sE_c fun y17 => (sA_nil sK_tup))))) fun y18 => (sA_cons (sE_tup (sA_cons sE_c fun y20 => (sA_cons sE_c fun y21 => (sA_cons sE_c fun y22 => (sA_nil sK_tup))))) fun y23 => (sA_nil sK_lst)))))))) fun x1 => (sS_seq (post := (fun (s30 : D) => [.is (.sh a0), .is (.sh a1), .is (.sh a2), .is (.sh a3), .is (.own s30), .tmp, .is .no])) (sS_if (sT_e (sE_op (sE_call (sA_cons sE_var fun y25 => (sA_cons sE_var fun y26 => (sA_cons sE_c fun y27 => (sA_nil (sK_call (sim__law_draw _ _ _) (wk_any rfl))))))) sE_c))
      (sS_seq (sS_asg (sE_op sE_c (sE_call (sA_cons sE_var fun y32 => (sA_cons (sE_op sE_var sE_c) fun y33 => (sA_cons sE_c fun y35 => (sA_nil (sK_call (sim__law_draw _ _ _) (wk_any rfl))))))))) fun x31 => (sS_seq (sS_setI (m := .own) (sE_tup (sA_cons sE_c fun y38 => (sA_cons sE_var fun y39 => (sA_cons (sE_call (sA_cons sE_var fun y40 => (sA_cons (sE_op sE_var sE_c) fun y41 => (sA_cons sE_var fun y43 => (sA_nil (sK_call (sim__law_draw _ _ _) (wk_any rfl))))))) fun y44 => (sA_nil sK_tup))))) sE_c) fun x37 => (sS_last (sS_seq (sS_setI (m := .own) (sE_op sE_lk sE_c) sE_c) fun x46 => (sS_nx capN_B (post := (fun (s30 : D) => [.is (.sh a0), .is (.sh a1), .is (.sh a2), .is (.sh a3), .is (.own s30), .tmp, .is .no])) x46 (by repeat' (first | exact wk_nil | refine wk_cons ?_ ?_ | exact trivial | exact rfl)))))))
      (sS_nx capN_B (post := (fun (s30 : D) => [.is (.sh a0), .is (.sh a1), .is (.sh a2), .is (.sh a3), .is (.own s30), .tmp, .is .no])) x1 (by repeat' (first | exact wk_nil | refine wk_cons ?_ ?_ | exact trivial | exact rfl)))) fun s30 => (sS_retO1 capT_F (sE_comp (vs := [6]) (sI_rng1 (sE_call (sA_cons sE_var fun y50 => (sA_cons (sE_op sE_var sE_c) fun y51 => (sA_cons (sE_op sE_var sE_c) fun y53 => (sA_nil (sK_call (sim__law_draw _ _ _) (wk_any rfl)))))))) (notOwn_cons ⟨_, rfl, by first | rfl | trivial⟩ notOwn_nil) (fun x56 => sG_1) (fun x56 => sT_yes) (fun x56 => (sE_op sE_lk (sE_call (sA_cons sE_var fun y58 => (sA_cons (sE_op (sE_op sE_var sE_c) sE_var) fun y60 => (sA_cons sE_c fun y62 => (sA_nil (sK_call (sim__law_draw _ _ _) (wk_any rfl))))))))) (fun x56 => by repeat' (first | exact wk_nil | refine wk_cons ?_ ?_ | exact trivial | exact rfl)) (fun x56 => by repeat' (first | exact wk_nil | refine wk_cons ?_ ?_ | exact trivial | exact rfl))))))
  exact h

def p_is_whole (a0 : D) : Rs D := (Rs.opt ((isTy ["int"]) a0)).bind fun x2 => pAndB x2 ((Rs.opt ((isTy ["bool"]) a0)).bind fun x1 => Rs.opt (oNot x1))
theorem sim_is_whole (a0 : D) : FnP (f_is_whole [a0]) (p_is_whole a0) := by
  have h := fn_of (n := 1) (m := 1) (b := b_is_whole) (ds := [a0]) (X := List.replicate 1 .any) (A := [.is (.sh a0)]) (fr := false) rfl rfl rfl (sS_ret1 capT_F (sE_and (sE_un sE_var) (sE_un (sE_un sE_var))))
  exact h

def p_is_round (a0 : D) : Rs D := (((Rs.opt ((isTy ["tuple"]) a0)).bind fun x1 => asB x1).bind fun x6 => if x6 then ((pTup [(.tup [(.str "right")]), (.tup [(.str "left")])]).bind fun x4 => Rs.opt (oIn a0 x4)).bind fun x5 => asB x5 else Rs.ok false).bind fun x32 => if x32 then Rs.ok (.bl true) else ((((Rs.opt ((isTy ["tuple"]) a0)).bind fun x7 => asB x7).bind fun x8 => Rs.ok (!x8)).bind fun x14 => if x14 then Rs.ok true else (((Rs.opt (oLen a0)).bind fun x9 => Rs.opt (oNe x9 (.int 3))).bind fun x10 => asB x10).bind fun x13 => if x13 then Rs.ok true else ((Rs.opt (oIdx a0 (.int 0))).bind fun x11 => Rs.opt (oNe x11 (.str "every"))).bind fun x12 => asB x12).bind fun x31 => if x31 then Rs.ok (.bl false) else (((((Rs.opt (oIdx a0 (.int 1))).bind fun x16 => p_is_whole x16).bind fun x17 => asB x17).bind fun x18 => Rs.ok (!x18)).bind fun x23 => if x23 then Rs.ok true else (((Rs.opt (oIdx a0 (.int 2))).bind fun x20 => p_is_whole x20).bind fun x21 => asB x21).bind fun x22 => Rs.ok (!x22)).bind fun x30 => if x30 then Rs.ok (.bl false) else ((Rs.opt (oIdx a0 (.int 1))).bind fun x24 => (Rs.opt (oLe (.int 2) x24)).bind fun x25 => pAndB x25 (Rs.opt (oLe x24 (.int 4)))).bind fun x29 => pAndB x29 ((Rs.opt (oIdx a0 (.int 2))).bind fun x26 => (Rs.opt (oLe (.int 0) x26)).bind fun x27 => pAndB x27 ((Rs.opt (oIdx a0 (.int 1))).bind fun x28 => Rs.opt (oLt x26 x28)))
theorem sim_is_round (a0 : D) : FnP (f_is_round [a0]) (p_is_round a0) := by
  have h := fn_of (n := 1) (m := 1) (b := b_is_round) (ds := [a0]) (X := List.replicate 1 .any) (A := [.is (.sh a0)]) (fr := false) rfl rfl rfl (sS_if1 (sT_and (sT_e (sE_un sE_var)) (sT_e (sE_op sE_var (sE_tup (sA_cons sE_c fun y2 => (sA_cons sE_c fun y3 => (sA_nil sK_tup)))))))
      (sS_ret1 (capT_j capT_F) sE_c)
      (sS_skip (sS_if1 (sT_or (sT_not (sT_e (sE_un sE_var))) (sT_or (sT_e (sE_op (sE_un sE_var) sE_c)) (sT_e (sE_op (sE_op sE_var sE_c) sE_c))))
      (sS_ret1 (capT_j capT_F) sE_c)
      (sS_skip (sS_if1 (sT_or (sT_not (sT_e (sE_call (sA_cons (sE_op sE_var sE_c) fun y15 => (sA_nil (sK_call (sim_is_whole _) (wk_any rfl))))))) (sT_not (sT_e (sE_call (sA_cons (sE_op sE_var sE_c) fun y19 => (sA_nil (sK_call (sim_is_whole _) (wk_any rfl))))))))
      (sS_ret1 (capT_j capT_F) sE_c)
      (sS_skip (sS_ret1 capT_F (sE_and (sE_ch sE_c (sE_op sE_var sE_c) sE_c) (sE_ch sE_c (sE_op sE_var sE_c) (sE_op sE_var sE_c))))))))))
  exact h

def p_Program___init__ (a0 a1 : D) : Rs (D × D) := ((((Rs.opt ((isTy ["list", "tuple"]) a1)).bind fun x1 => asB x1).bind fun x2 => Rs.ok (!x2)).bind fun x5 => if x5 then Rs.ok true else ((Rs.opt (oLen a1)).bind fun x3 => Rs.opt (oGt x3 (.int 12))).bind fun x4 => asB x4).bind fun x17 => if x17 then Rs.exc 0 [("place", .non)] else ((Rs.opt ((itemsD a1).map enumD)).bind fun x14 => pFold (fun (s6 : Unit) x8 => (Rs.opt (un2 x8)).bind fun b9 => (((p_is_round b9.2).bind fun x11 => asB x11).bind fun x12 => Rs.ok (!x12)).bind fun x13 => if x13 then Rs.exc 0 [("place", b9.1)] else Rs.ok ()) x14 ()).bind fun (s7 : Unit) => ((Rs.opt (oTuple a1)).bind fun x16 => Rs.opt (fldPut "rounds" x16 a0)).bind fun x15 => Rs.ok (D.non, x15)
theorem sim_Program___init__ (a0 a1 : D) : FnIo (f_Program___init__ [a0, a1]) (p_Program___init__ a0 a1) := by
  have h := fnIo_of (n := 4) (m := 2) (b := b_Program___init__) (ds := [a0, a1]) (X := List.replicate 4 .any) (A := [.is (.io a0), .is (.sh a1), .is .no, .is .no]) rfl rfl rfl (sS_if1 (sT_or (sT_not (sT_e (sE_un sE_var))) (sT_e (sE_op (sE_un sE_var) sE_c)))
      (sS_raise1 sE_c (by repeat' (first | exact wk_nil | refine wk_cons ?_ ?_ | exact trivial | exact rfl)))
      (sS_skip (sS_seq (post := (fun (s7 : Unit) => [.is (.io a0), .is (.sh a1), .tmp, .tmp])) (sS_for (s0 := ()) (post := (fun (s6 : Unit) => [.is (.io a0), .is (.sh a1), .tmp, .tmp])) (sI_enum sE_var) (by repeat' (first | exact wk_nil | refine wk_cons ?_ ?_ | exact trivial | exact rfl)) (fun s6 x8 => sG_2) (fun _ => opt_noexc) (fun s6 b9 => (sS_if (sT_not (sT_e (sE_call (sA_cons sE_var fun y10 => (sA_nil (sK_call (sim_is_round _) (wk_any rfl)))))))
      (sS_raise1 sE_var (by repeat' (first | exact wk_nil | refine wk_cons ?_ ?_ | exact trivial | exact rfl)))
      (sS_nx capN_A (post := (fun (s6 : Unit) => [.is (.io a0), .is (.sh a1), .tmp, .tmp])) () (by repeat' (first | exact wk_nil | refine wk_cons ?_ ?_ | exact trivial | exact rfl)))))) fun s7 => (sS_last (sS_seq (sS_fld (m := .io) (sE_un sE_var)) fun x15 => sS_endIo)))))
  exact h

def p_check_program (a0 : D) : Rs D := (((Rs.opt ((isClG is_Program) a0)).bind fun x1 => asB x1).bind fun x2 => Rs.ok (!x2)).bind fun x3 => if x3 then Rs.exc 0 [("place", .non)] else Rs.ok D.non
theorem sim_check_program (a0 : D) : FnP (f_check_program [a0]) (p_check_program a0) := by
  have h := fn_of (n := 1) (m := 1) (b := b_check_program) (ds := [a0]) (X := List.replicate 1 .any) (A := [.is (.sh a0)]) (fr := false) rfl rfl rfl (sS_if (sT_not (sT_e (sE_un sE_var)))
      (sS_raise1 sE_c (by repeat' (first | exact wk_nil | refine wk_cons ?_ ?_ | exact trivial | exact rfl)))
      sS_endN)
  exact h

def p_check_length (a0 : D) : Rs D := ((((p_is_whole a0).bind fun x2 => asB x2).bind fun x3 => Rs.ok (!x3)).bind fun x7 => if x7 then Rs.ok true else (((Rs.opt (oLe (.int 1) a0)).bind fun x4 => pAndB x4 (Rs.opt (oLe a0 (.int 400)))).bind fun x5 => asB x5).bind fun x6 => Rs.ok (!x6)).bind fun x8 => if x8 then Rs.exc 1 [] else Rs.ok D.non
theorem sim_check_length (a0 : D) : FnP (f_check_length [a0]) (p_check_length a0) := by
  have h := fn_of (n := 1) (m := 1) (b := b_check_length) (ds := [a0]) (X := List.replicate 1 .any) (A := [.is (.sh a0)]) (fr := false) rfl rfl rfl (sS_if (sT_or (sT_not (sT_e (sE_call (sA_cons sE_var fun y1 => (sA_nil (sK_call (sim_is_whole _) (wk_any rfl))))))) (sT_not (sT_e (sE_ch sE_c sE_var sE_c))))
      (sS_raise0 (by repeat' (first | exact wk_nil | refine wk_cons ?_ ?_ | exact trivial | exact rfl)))
      sS_endN)
  exact h

def p_check_basin (a0 a1 : D) : Rs D := ((((p_is_whole a0).bind fun x2 => asB x2).bind fun x3 => Rs.ok (!x3)).bind fun x7 => if x7 then Rs.ok true else (((Rs.opt (oLe (.int 0) a0)).bind fun x4 => pAndB x4 (Rs.opt (oLt a0 a1))).bind fun x5 => asB x5).bind fun x6 => Rs.ok (!x6)).bind fun x8 => if x8 then Rs.exc 1 [] else Rs.ok D.non
theorem sim_check_basin (a0 a1 : D) : FnP (f_check_basin [a0, a1]) (p_check_basin a0 a1) := by
  have h := fn_of (n := 2) (m := 2) (b := b_check_basin) (ds := [a0, a1]) (X := List.replicate 2 .any) (A := [.is (.sh a0), .is (.sh a1)]) (fr := false) rfl rfl rfl (sS_if (sT_or (sT_not (sT_e (sE_call (sA_cons sE_var fun y1 => (sA_nil (sK_call (sim_is_whole _) (wk_any rfl))))))) (sT_not (sT_e (sE_ch sE_c sE_var sE_var))))
      (sS_raise0 (by repeat' (first | exact wk_nil | refine wk_cons ?_ ?_ | exact trivial | exact rfl)))
      sS_endN)
  exact h

def p_gives (a0 a1 a2 : D) : Rs D := (p_check_program a0).bind fun _ => (p_check_length a1).bind fun _ => (p_check_basin a2 a1).bind fun _ => Rs.bad
theorem sim_gives (a0 a1 a2 : D) : FnP (f_gives [a0, a1, a2]) (p_gives a0 a1 a2) := by
  have h := fn_of (n := 3) (m := 3) (b := b_gives) (ds := [a0, a1, a2]) (X := List.replicate 3 .any) (A := [.is (.sh a0), .is (.sh a1), .is (.sh a2)]) (fr := false) rfl rfl rfl (sS_seq (sS_expr (sE_call (sA_cons sE_var fun y2 => (sA_nil (sK_call (sim_check_program _) (wk_any rfl)))))) fun _ => (sS_seq (sS_expr (sE_call (sA_cons sE_var fun y4 => (sA_nil (sK_call (sim_check_length _) (wk_any rfl)))))) fun _ => (sS_seq (sS_expr (sE_call (sA_cons sE_var fun y6 => (sA_cons sE_var fun y7 => (sA_nil (sK_call (sim_check_basin _ _) (wk_any rfl))))))) fun _ => sS_bad)))
  exact h

def p_got (a0 a1 a2 : D) : Rs D := (p_check_program a0).bind fun _ => (p_check_length a1).bind fun _ => (p_check_basin a2 a1).bind fun _ => Rs.bad
theorem sim_got (a0 a1 a2 : D) : FnP (f_got [a0, a1, a2]) (p_got a0 a1 a2) := by
  have h := fn_of (n := 3) (m := 3) (b := b_got) (ds := [a0, a1, a2]) (X := List.replicate 3 .any) (A := [.is (.sh a0), .is (.sh a1), .is (.sh a2)]) (fr := false) rfl rfl rfl (sS_seq (sS_expr (sE_call (sA_cons sE_var fun y2 => (sA_nil (sK_call (sim_check_program _) (wk_any rfl)))))) fun _ => (sS_seq (sS_expr (sE_call (sA_cons sE_var fun y4 => (sA_nil (sK_call (sim_check_length _) (wk_any rfl)))))) fun _ => (sS_seq (sS_expr (sE_call (sA_cons sE_var fun y6 => (sA_cons sE_var fun y7 => (sA_nil (sK_call (sim_check_basin _ _) (wk_any rfl))))))) fun _ => sS_bad)))
  exact h

def p_is_even_handed (a0 a1 : D) : Rs D := (p_check_program a0).bind fun _ => (p_check_length a1).bind fun _ => Rs.bad
theorem sim_is_even_handed (a0 a1 : D) : FnP (f_is_even_handed [a0, a1]) (p_is_even_handed a0 a1) := by
  have h := fn_of (n := 6) (m := 2) (b := b_is_even_handed) (ds := [a0, a1]) (X := List.replicate 6 .any) (A := [.is (.sh a0), .is (.sh a1), .is .no, .is .no, .is .no, .is .no]) (fr := false) rfl rfl rfl (sS_seq (sS_expr (sE_call (sA_cons sE_var fun y2 => (sA_nil (sK_call (sim_check_program _) (wk_any rfl)))))) fun _ => (sS_seq (sS_expr (sE_call (sA_cons sE_var fun y4 => (sA_nil (sK_call (sim_check_length _) (wk_any rfl)))))) fun _ => sS_bad))
  exact h

def p_stretches (a0 a1 : D) : Rs D := (p_check_program a0).bind fun _ => (p_check_length a1).bind fun _ => Rs.bad
theorem sim_stretches (a0 a1 : D) : FnP (f_stretches [a0, a1]) (p_stretches a0 a1) := by
  have h := fn_of (n := 6) (m := 2) (b := b_stretches) (ds := [a0, a1]) (X := List.replicate 6 .any) (A := [.is (.sh a0), .is (.sh a1), .is .no, .is .no, .is .no, .is .no]) (fr := false) rfl rfl rfl (sS_seq (sS_expr (sE_call (sA_cons sE_var fun y2 => (sA_nil (sK_call (sim_check_program _) (wk_any rfl)))))) fun _ => (sS_seq (sS_expr (sE_call (sA_cons sE_var fun y4 => (sA_nil (sK_call (sim_check_length _) (wk_any rfl)))))) fun _ => sS_bad))
  exact h

def p_check_laps (a0 : D) : Rs D := ((((p_is_whole a0).bind fun x2 => asB x2).bind fun x3 => Rs.ok (!x3)).bind fun x7 => if x7 then Rs.ok true else (((Rs.opt (oLe (.int 0) a0)).bind fun x4 => pAndB x4 (Rs.opt (oLe a0 (.int 200)))).bind fun x5 => asB x5).bind fun x6 => Rs.ok (!x6)).bind fun x8 => if x8 then Rs.exc 1 [] else Rs.ok D.non
theorem sim_check_laps (a0 : D) : FnP (f_check_laps [a0]) (p_check_laps a0) := by
  have h := fn_of (n := 1) (m := 1) (b := b_check_laps) (ds := [a0]) (X := List.replicate 1 .any) (A := [.is (.sh a0)]) (fr := false) rfl rfl rfl (sS_if (sT_or (sT_not (sT_e (sE_call (sA_cons sE_var fun y1 => (sA_nil (sK_call (sim_is_whole _) (wk_any rfl))))))) (sT_not (sT_e (sE_ch sE_c sE_var sE_c))))
      (sS_raise0 (by repeat' (first | exact wk_nil | refine wk_cons ?_ ?_ | exact trivial | exact rfl)))
      sS_endN)
  exact h

def p_left_behind (a0 a1 a2 : D) : Rs D := (p_check_program a0).bind fun _ => (p_check_length a1).bind fun _ => (p_check_laps a2).bind fun _ => Rs.bad
theorem sim_left_behind (a0 a1 a2 : D) : FnP (f_left_behind [a0, a1, a2]) (p_left_behind a0 a1 a2) := by
  have h := fn_of (n := 10) (m := 3) (b := b_left_behind) (ds := [a0, a1, a2]) (X := List.replicate 10 .any) (A := [.is (.sh a0), .is (.sh a1), .is (.sh a2), .is .no, .is .no, .is .no, .is .no, .is .no, .is .no, .is .no]) (fr := false) rfl rfl rfl (sS_seq (sS_expr (sE_call (sA_cons sE_var fun y2 => (sA_nil (sK_call (sim_check_program _) (wk_any rfl)))))) fun _ => (sS_seq (sS_expr (sE_call (sA_cons sE_var fun y4 => (sA_nil (sK_call (sim_check_length _) (wk_any rfl)))))) fun _ => (sS_seq (sS_expr (sE_call (sA_cons sE_var fun y6 => (sA_nil (sK_call (sim_check_laps _) (wk_any rfl)))))) fun _ => sS_bad)))
  exact h

def p_judge_laps (a0 a1 : D) : Rs D := (p_check_program a0).bind fun _ => (p_check_length a1).bind fun _ => Rs.bad
theorem sim_judge_laps (a0 a1 : D) : FnP (f_judge_laps [a0, a1]) (p_judge_laps a0 a1) := by
  have h := fn_of (n := 8) (m := 2) (b := b_judge_laps) (ds := [a0, a1]) (X := List.replicate 8 .any) (A := [.is (.sh a0), .is (.sh a1), .is .no, .is .no, .is .no, .is .no, .is .no, .is .no]) (fr := false) rfl rfl rfl (sS_seq (sS_expr (sE_call (sA_cons sE_var fun y2 => (sA_nil (sK_call (sim_check_program _) (wk_any rfl)))))) fun _ => (sS_seq (sS_expr (sE_call (sA_cons sE_var fun y4 => (sA_nil (sK_call (sim_check_length _) (wk_any rfl)))))) fun _ => sS_bad))
  exact h

def p_is_part (a0 : D) : Rs D := ((Rs.opt ((isTy ["tuple"]) a0)).bind fun x1 => asB x1).bind fun x12 => if x12 then ((Rs.opt (oLen a0)).bind fun x2 => Rs.opt (oEq x2 (.int 2))).bind fun x10 => pAndB x10 (((Rs.opt (oIdx a0 (.int 0))).bind fun x4 => p_is_whole x4).bind fun x9 => pAndB x9 (((Rs.opt (oIdx a0 (.int 1))).bind fun x6 => p_is_whole x6).bind fun x8 => pAndB x8 ((Rs.opt (oIdx a0 (.int 1))).bind fun x7 => Rs.opt (oGe x7 (.int 1))))) else p_is_whole a0
theorem sim_is_part (a0 : D) : FnP (f_is_part [a0]) (p_is_part a0) := by
  have h := fn_of (n := 1) (m := 1) (b := b_is_part) (ds := [a0]) (X := List.replicate 1 .any) (A := [.is (.sh a0)]) (fr := false) rfl rfl rfl (sS_if1 (sT_e (sE_un sE_var))
      (sS_ret1 (capT_j capT_F) (sE_and (sE_op (sE_un sE_var) sE_c) (sE_and (sE_call (sA_cons (sE_op sE_var sE_c) fun y3 => (sA_nil (sK_call (sim_is_whole _) (wk_any rfl))))) (sE_and (sE_call (sA_cons (sE_op sE_var sE_c) fun y5 => (sA_nil (sK_call (sim_is_whole _) (wk_any rfl))))) (sE_op (sE_op sE_var sE_c) sE_c)))))
      (sS_skip (sS_ret1 capT_F (sE_call (sA_cons sE_var fun y11 => (sA_nil (sK_call (sim_is_whole _) (wk_any rfl))))))))
  exact h

def p_common (a0 a1 : D) : Rs D := (pWhile (fun (s1 : D × D) => (Rs.opt (oNe s1.2 (.int 0))).bind fun x3 => asB x3) (fun (s1 : D × D) => ((Rs.opt (oMod s1.1 s1.2)).bind fun x5 => Rs.ok (s1.2, x5)).bind fun x4 => Rs.ok (x4.1, x4.2)) 1000 (a0, a1)).bind fun (s2 : D × D) => Rs.ok s2.1
theorem sim_common (a0 a1 : D) : FnP (f_common [a0, a1]) (p_common a0 a1) := by
  have h := fn_of (n := 2) (m := 2) (b := b_common) (ds := [a0, a1]) (X := List.replicate 2 .any) (A := [.is (.sh a0), .is (.sh a1)]) (fr := false) rfl rfl rfl (sS_seq (post := (fun (s2 : D × D) => [.is (.sh s2.1), .is (.sh s2.2)])) (sS_while (s0 := (a0, a1)) (post := (fun (s1 : D × D) => [.is (.sh s1.1), .is (.sh s1.2)])) (by repeat' (first | exact wk_nil | refine wk_cons ?_ ?_ | exact trivial | exact rfl)) (fun s1 => (sT_e (sE_op sE_var sE_c))) (fun s1 => (sS_last (sS_seq (sS_par sE_var (sE_op sE_var sE_var)) fun x4 => (sS_nx capN_A (post := (fun (s1 : D × D) => [.is (.sh s1.1), .is (.sh s1.2)])) (x4.1, x4.2) (by repeat' (first | exact wk_nil | refine wk_cons ?_ ?_ | exact trivial | exact rfl))))))) fun s2 => (sS_ret1 capT_F sE_var))
  exact h

def p_part (a0 a1 : D) : Rs D := (((Rs.opt (oLt a1 (.int 0))).bind fun x1 => asB x1).bind fun x6 => if x6 then ((Rs.opt (oNeg a0)).bind fun x4 => (Rs.opt (oNeg a1)).bind fun x5 => Rs.ok (x4, x5)).bind fun x3 => Rs.ok (x3.1, x3.2) else Rs.ok (a0, a1)).bind fun (s2 : D × D) => ((Rs.opt (oAbs s2.1)).bind fun x9 => p_common x9 s2.2).bind fun x7 => (Rs.opt (oDiv s2.1 x7)).bind fun x12 => (Rs.opt (oDiv s2.2 x7)).bind fun x14 => pTup [x12, x14]
theorem sim_part (a0 a1 : D) : FnP (f_part [a0, a1]) (p_part a0 a1) := by
  have h := fn_of (n := 3) (m := 2) (b := b_part) (ds := [a0, a1]) (X := List.replicate 3 .any) (A := [.is (.sh a0), .is (.sh a1), .is .no]) (fr := false) rfl rfl rfl (sS_seq (post := (fun (s2 : D × D) => [.is (.sh s2.1), .is (.sh s2.2), .is .no])) (sS_if (sT_e (sE_op sE_var sE_c))
      (sS_last (sS_seq (sS_par (sE_un sE_var) (sE_un sE_var)) fun x3 => (sS_nx capN_B (post := (fun (s2 : D × D) => [.is (.sh s2.1), .is (.sh s2.2), .is .no])) (x3.1, x3.2) (by repeat' (first | exact wk_nil | refine wk_cons ?_ ?_ | exact trivial | exact rfl)))))
      (sS_nx capN_B (post := (fun (s2 : D × D) => [.is (.sh s2.1), .is (.sh s2.2), .is .no])) (a0, a1) (by repeat' (first | exact wk_nil | refine wk_cons ?_ ?_ | exact trivial | exact rfl)))) fun s2 => (sS_seq (sS_asg (sE_call (sA_cons (sE_un sE_var) fun y8 => (sA_cons sE_var fun y10 => (sA_nil (sK_call (sim_common _ _) (wk_any rfl))))))) fun x7 => (sS_ret1 capT_F (sE_tup (sA_cons (sE_op sE_var sE_var) fun y11 => (sA_cons (sE_op sE_var sE_var) fun y13 => (sA_nil sK_tup)))))))
  exact h

def p_as_part (a0 : D) : Rs D := (((p_is_part a0).bind fun x2 => asB x2).bind fun x3 => Rs.ok (!x3)).bind fun x11 => if x11 then Rs.exc 2 [] else ((Rs.opt ((isTy ["tuple"]) a0)).bind fun x4 => asB x4).bind fun x10 => if x10 then (Rs.opt (oIdx a0 (.int 0))).bind fun x6 => (Rs.opt (oIdx a0 (.int 1))).bind fun x8 => p_part x6 x8 else p_part a0 (.int 1)
theorem sim_as_part (a0 : D) : FnP (f_as_part [a0]) (p_as_part a0) := by
  have h := fn_of (n := 1) (m := 1) (b := b_as_part) (ds := [a0]) (X := List.replicate 1 .any) (A := [.is (.sh a0)]) (fr := false) rfl rfl rfl (sS_if1 (sT_not (sT_e (sE_call (sA_cons sE_var fun y1 => (sA_nil (sK_call (sim_is_part _) (wk_any rfl)))))))
      (sS_raise0 (by repeat' (first | exact wk_nil | refine wk_cons ?_ ?_ | exact trivial | exact rfl)))
      (sS_skip (sS_ret1 capT_F (sE_if (sT_e (sE_un sE_var)) (sE_call (sA_cons (sE_op sE_var sE_c) fun y5 => (sA_cons (sE_op sE_var sE_c) fun y7 => (sA_nil (sK_call (sim_part _ _) (wk_any rfl)))))) (sE_call (sA_cons sE_var fun y9 => (sA_nil (sK_call (sim_part _ _) (wk_any rfl)))))))))
  exact h

def p_check_volumes (a0 : D) : Rs D := ((((Rs.opt ((isTy ["list", "tuple"]) a0)).bind fun x1 => asB x1).bind fun x2 => Rs.ok (!x2)).bind fun x11 => if x11 then Rs.ok true else ((((Rs.opt (itemsD a0)).bind fun x7 => (pMap (fun x3 => p_is_part x3) x7).bind pLst).bind fun x8 => Rs.opt (oAll x8)).bind fun x9 => asB x9).bind fun x10 => Rs.ok (!x10)).bind fun x21 => if x21 then Rs.exc 1 [] else ((Rs.opt (oLen a0)).bind fun x14 => p_check_length x14).bind fun _ => ((Rs.opt (itemsD a0)).bind fun x19 => (pMap (fun x15 => p_as_part x15) x19).bind pLst).bind fun x20 => Rs.opt (oTuple x20)
theorem sim_check_volumes (a0 : D) : FnP (f_check_volumes [a0]) (p_check_volumes a0) := by
  have h := fn_of (n := 2) (m := 1) (b := b_check_volumes) (ds := [a0]) (X := List.replicate 2 .any) (A := [.is (.sh a0), .is .no]) (fr := false) rfl rfl rfl (sS_if1 (sT_or (sT_not (sT_e (sE_un sE_var))) (sT_not (sT_e (sE_un (sE_comp (vs := [1]) (sI_seq sE_var) (notOwn_cons ⟨_, rfl, by first | rfl | trivial⟩ notOwn_nil) (fun x3 => sG_1) (fun x3 => sT_yes) (fun x3 => (sE_call (sA_cons sE_var fun y5 => (sA_nil (sK_call (sim_is_part _) (wk_any rfl)))))) (fun x3 => by repeat' (first | exact wk_nil | refine wk_cons ?_ ?_ | exact trivial | exact rfl)) (fun x3 => by repeat' (first | exact wk_nil | refine wk_cons ?_ ?_ | exact trivial | exact rfl)))))))
      (sS_raise0 (by repeat' (first | exact wk_nil | refine wk_cons ?_ ?_ | exact trivial | exact rfl)))
      (sS_skip (sS_seq (sS_expr (sE_call (sA_cons (sE_un sE_var) fun y13 => (sA_nil (sK_call (sim_check_length _) (wk_any rfl)))))) fun _ => (sS_ret1 capT_F (sE_un (sE_comp (vs := [1]) (sI_seq sE_var) (notOwn_cons ⟨_, rfl, by first | rfl | trivial⟩ notOwn_nil) (fun x15 => sG_1) (fun x15 => sT_yes) (fun x15 => (sE_call (sA_cons sE_var fun y17 => (sA_nil (sK_call (sim_as_part _) (wk_any rfl)))))) (fun x15 => by repeat' (first | exact wk_nil | refine wk_cons ?_ ?_ | exact trivial | exact rfl)) (fun x15 => by repeat' (first | exact wk_nil | refine wk_cons ?_ ?_ | exact trivial | exact rfl))))))))
  exact h

def p_lapped (a0 a1 a2 : D) : Rs D := (p_check_program a0).bind fun _ => (p_check_volumes a1).bind fun x3 => (p_check_laps a2).bind fun _ => ((Rs.opt (rng1 a2)).bind fun x11 => pFold (fun (s7 : Unit) x9 => Rs.bad) x11 ()).bind fun (s8 : Unit) => Rs.ok x3
theorem sim_lapped (a0 a1 a2 : D) : FnP (f_lapped [a0, a1, a2]) (p_lapped a0 a1 a2) := by
  have h := fn_of (n := 5) (m := 3) (b := b_lapped) (ds := [a0, a1, a2]) (X := List.replicate 5 .any) (A := [.is (.sh a0), .is (.sh a1), .is (.sh a2), .is .no, .is .no]) (fr := false) rfl rfl rfl (sS_seq (sS_expr (sE_call (sA_cons sE_var fun y2 => (sA_nil (sK_call (sim_check_program _) (wk_any rfl)))))) fun _ => (sS_seq (sS_asg (sE_call (sA_cons sE_var fun y4 => (sA_nil (sK_call (sim_check_volumes _) (wk_any rfl)))))) fun x3 => (sS_seq (sS_expr (sE_call (sA_cons sE_var fun y6 => (sA_nil (sK_call (sim_check_laps _) (wk_any rfl)))))) fun _ => (sS_seq (post := (fun (s8 : Unit) => [.is (.sh a0), .is (.sh a1), .is (.sh a2), .is (.sh x3), .tmp])) (sS_for (s0 := ()) (post := (fun (s7 : Unit) => [.is (.sh a0), .is (.sh a1), .is (.sh a2), .is (.sh x3), .tmp])) (sI_rng1 sE_var) (by repeat' (first | exact wk_nil | refine wk_cons ?_ ?_ | exact trivial | exact rfl)) (fun s7 x9 => sG_1) (fun _ => trivial) (fun s7 x9 => sS_bad)) fun s8 => (sS_ret1 capT_F sE_var)))))
  exact h

def p_lap_limit (a0 a1 : D) : Rs D := (p_check_program a0).bind fun _ => ((p_check_volumes a1).bind fun x5 => (pLst []).bind fun x6 => Rs.ok (x5, x6)).bind fun x3 => Rs.bad
theorem sim_lap_limit (a0 a1 : D) : FnP (f_lap_limit [a0, a1]) (p_lap_limit a0 a1) := by
  have h := fn_of (n := 7) (m := 2) (b := b_lap_limit) (ds := [a0, a1]) (X := List.replicate 7 .any) (A := [.is (.sh a0), .is (.sh a1), .is .no, .is .no, .is .no, .is .no, .is .no]) (fr := false) rfl rfl rfl (sS_seq (sS_expr (sE_call (sA_cons sE_var fun y2 => (sA_nil (sK_call (sim_check_program _) (wk_any rfl)))))) fun _ => (sS_seq (sS_par (sE_call (sA_cons sE_var fun y4 => (sA_nil (sK_call (sim_check_volumes _) (wk_any rfl))))) (sE_lst (sA_nil sK_lst))) fun x3 => sS_bad))
  exact h

def p_moved (a0 a1 a2 : D) : Rs D := (p_check_program a0).bind fun _ => ((p_check_volumes a1).bind fun x5 => (pLst []).bind fun x6 => Rs.ok (x5, x6)).bind fun x3 => (p_check_laps a2).bind fun _ => Rs.bad
theorem sim_moved (a0 a1 a2 : D) : FnP (f_moved [a0, a1, a2]) (p_moved a0 a1 a2) := by
  have h := fn_of (n := 10) (m := 3) (b := b_moved) (ds := [a0, a1, a2]) (X := List.replicate 10 .any) (A := [.is (.sh a0), .is (.sh a1), .is (.sh a2), .is .no, .is .no, .is .no, .is .no, .is .no, .is .no, .is .no]) (fr := false) rfl rfl rfl (sS_seq (sS_expr (sE_call (sA_cons sE_var fun y2 => (sA_nil (sK_call (sim_check_program _) (wk_any rfl)))))) fun _ => (sS_seq (sS_par (sE_call (sA_cons sE_var fun y4 => (sA_nil (sK_call (sim_check_volumes _) (wk_any rfl))))) (sE_lst (sA_nil sK_lst))) fun x3 => (sS_seq (sS_expr (sE_call (sA_cons sE_var fun y8 => (sA_nil (sK_call (sim_check_laps _) (wk_any rfl)))))) fun _ => sS_bad)))
  exact h

def p_lap_recurrence (a0 a1 a2 : D) : Rs D := (p_check_program a0).bind fun _ => (p_check_volumes a1).bind fun x3 => ((Rs.opt (oLen x3)).bind fun x8 => p_check_basin a2 x8).bind fun _ => Rs.bad
theorem sim_lap_recurrence (a0 a1 a2 : D) : FnP (f_lap_recurrence [a0, a1, a2]) (p_lap_recurrence a0 a1 a2) := by
  have h := fn_of (n := 6) (m := 3) (b := b_lap_recurrence) (ds := [a0, a1, a2]) (X := List.replicate 6 .any) (A := [.is (.sh a0), .is (.sh a1), .is (.sh a2), .is .no, .is .no, .is .no]) (fr := false) rfl rfl rfl (sS_seq (sS_expr (sE_call (sA_cons sE_var fun y2 => (sA_nil (sK_call (sim_check_program _) (wk_any rfl)))))) fun _ => (sS_seq (sS_asg (sE_call (sA_cons sE_var fun y4 => (sA_nil (sK_call (sim_check_volumes _) (wk_any rfl)))))) fun x3 => (sS_seq (sS_expr (sE_call (sA_cons sE_var fun y6 => (sA_cons (sE_un sE_var) fun y7 => (sA_nil (sK_call (sim_check_basin _ _) (wk_any rfl))))))) fun _ => sS_bad)))
  exact h

def p__law_asked (a0 a1 a2 a3 a4 a5 : D) : Rs D := ((Rs.opt (oLt a0 (.int 4))).bind fun x1 => asB x1).bind fun x44 => if x44 then ((Rs.opt (oLt a0 (.int 2))).bind fun x2 => asB x2).bind fun x17 => if x17 then ((Rs.opt (oEq a0 (.int 0))).bind fun x3 => asB x3).bind fun x10 => if x10 then p_gives a1 a2 a3 else p_got a1 a2 a3 else ((Rs.opt (oEq a0 (.int 2))).bind fun x11 => asB x11).bind fun x16 => if x16 then p_is_even_handed a1 a2 else p_stretches a1 a2 else ((Rs.opt (oLt a0 (.int 8))).bind fun x18 => asB x18).bind fun x43 => if x43 then ((Rs.opt (oLt a0 (.int 6))).bind fun x19 => asB x19).bind fun x34 => if x34 then ((Rs.opt (oEq a0 (.int 4))).bind fun x20 => asB x20).bind fun x26 => if x26 then p_left_behind a1 a2 a5 else p_judge_laps a1 a2 else ((Rs.opt (oEq a0 (.int 6))).bind fun x27 => asB x27).bind fun x33 => if x33 then p_lapped a1 a4 a5 else p_lap_limit a1 a4 else ((Rs.opt (oEq a0 (.int 8))).bind fun x35 => asB x35).bind fun x42 => if x42 then p_moved a1 a4 a5 else p_lap_recurrence a1 a4 a3
theorem sim__law_asked (a0 a1 a2 a3 a4 a5 : D) : FnP (f__law_asked [a0, a1, a2, a3, a4, a5]) (p__law_asked a0 a1 a2 a3 a4 a5) := by
  have h := fn_of (n := 6) (m := 6) (b := b__law_asked) (ds := [a0, a1, a2, a3, a4, a5]) (X := List.replicate 6 .any) (A := [.is (.sh a0), .is (.sh a1), .is (.sh a2), .is (.sh a3), .is (.sh a4), .is (.sh a5)]) (fr := false) rfl rfl rfl (sS_if1 (sT_e (sE_op sE_var sE_c))
      (sS_if1 (sT_e (sE_op sE_var sE_c))
      (sS_ret1 (capT_j (capT_j capT_F)) (sE_if (sT_e (sE_op sE_var sE_c)) (sE_call (sA_cons sE_var fun y4 => (sA_cons sE_var fun y5 => (sA_cons sE_var fun y6 => (sA_nil (sK_call (sim_gives _ _ _) (wk_any rfl))))))) (sE_call (sA_cons sE_var fun y7 => (sA_cons sE_var fun y8 => (sA_cons sE_var fun y9 => (sA_nil (sK_call (sim_got _ _ _) (wk_any rfl)))))))))
      (sS_skip (sS_ret1 (capT_j capT_F) (sE_if (sT_e (sE_op sE_var sE_c)) (sE_call (sA_cons sE_var fun y12 => (sA_cons sE_var fun y13 => (sA_nil (sK_call (sim_is_even_handed _ _) (wk_any rfl)))))) (sE_call (sA_cons sE_var fun y14 => (sA_cons sE_var fun y15 => (sA_nil (sK_call (sim_stretches _ _) (wk_any rfl))))))))))
      (sS_skip (sS_if1 (sT_e (sE_op sE_var sE_c))
      (sS_if1 (sT_e (sE_op sE_var sE_c))
      (sS_ret1 (capT_j (capT_j capT_F)) (sE_if (sT_e (sE_op sE_var sE_c)) (sE_call (sA_cons sE_var fun y21 => (sA_cons sE_var fun y22 => (sA_cons sE_var fun y23 => (sA_nil (sK_call (sim_left_behind _ _ _) (wk_any rfl))))))) (sE_call (sA_cons sE_var fun y24 => (sA_cons sE_var fun y25 => (sA_nil (sK_call (sim_judge_laps _ _) (wk_any rfl))))))))
      (sS_skip (sS_ret1 (capT_j capT_F) (sE_if (sT_e (sE_op sE_var sE_c)) (sE_call (sA_cons sE_var fun y28 => (sA_cons sE_var fun y29 => (sA_cons sE_var fun y30 => (sA_nil (sK_call (sim_lapped _ _ _) (wk_any rfl))))))) (sE_call (sA_cons sE_var fun y31 => (sA_cons sE_var fun y32 => (sA_nil (sK_call (sim_lap_limit _ _) (wk_any rfl))))))))))
      (sS_skip (sS_ret1 capT_F (sE_if (sT_e (sE_op sE_var sE_c)) (sE_call (sA_cons sE_var fun y36 => (sA_cons sE_var fun y37 => (sA_cons sE_var fun y38 => (sA_nil (sK_call (sim_moved _ _ _) (wk_any rfl))))))) (sE_call (sA_cons sE_var fun y39 => (sA_cons sE_var fun y40 => (sA_cons sE_var fun y41 => (sA_nil (sK_call (sim_lap_recurrence _ _ _) (wk_any rfl)))))))))))))
  exact h

def p_turned_back (a0 : D) : Rs D := (p_check_program a0).bind fun _ => Rs.bad
theorem sim_turned_back (a0 : D) : FnP (f_turned_back [a0]) (p_turned_back a0) := by
  have h := fn_of (n := 3) (m := 1) (b := b_turned_back) (ds := [a0]) (X := List.replicate 3 .any) (A := [.is (.sh a0), .is .no, .is .no]) (fr := false) rfl rfl rfl (sS_seq (sS_expr (sE_call (sA_cons sE_var fun y2 => (sA_nil (sK_call (sim_check_program _) (wk_any rfl)))))) fun _ => sS_bad)
  exact h

def p_straightened (a0 a1 : D) : Rs D := ((Rs.opt ((fldD "rounds") a0)).bind fun x7 => (Rs.opt (itemsD x7)).bind fun x3 => (Rs.opt ((fldD "rounds") a1)).bind fun x6 => (Rs.opt (itemsD x6)).bind fun x5 => pTup (x3 ++ (x5 ++ []))).bind fun x1 => (((Rs.opt (oIn (.tup [(.str "right")]) x1)).bind fun x8 => asB x8).bind fun x10 => if x10 then (Rs.opt (oIn (.tup [(.str "left")]) x1)).bind fun x9 => asB x9 else Rs.ok false).bind fun x11 => if x11 then Rs.exc 3 [] else Rs.bad
theorem sim_straightened (a0 a1 : D) : FnP (f_straightened [a0, a1]) (p_straightened a0 a1) := by
  have h := fn_of (n := 3) (m := 2) (b := b_straightened) (ds := [a0, a1]) (X := List.replicate 3 .any) (A := [.is (.sh a0), .is (.sh a1), .is .no]) (fr := false) rfl rfl rfl (sS_seq (sS_asg (sE_tup (sA_star (sE_un sE_var) fun y2 => (sA_star (sE_un sE_var) fun y4 => (sA_nil sK_tup))))) fun x1 => (sS_if1 (sT_and (sT_e (sE_op sE_c sE_var)) (sT_e (sE_op sE_c sE_var)))
      (sS_raise0 (by repeat' (first | exact wk_nil | refine wk_cons ?_ ?_ | exact trivial | exact rfl)))
      (sS_skip sS_bad)))
  exact h

def p_check_programs (a0 a1 : D) : Rs D := (p_check_program a0).bind fun _ => (p_check_program a1).bind fun _ => (p_straightened a0 a1).bind fun _ => Rs.ok D.non
theorem sim_check_programs (a0 a1 : D) : FnP (f_check_programs [a0, a1]) (p_check_programs a0 a1) := by
  have h := fn_of (n := 2) (m := 2) (b := b_check_programs) (ds := [a0, a1]) (X := List.replicate 2 .any) (A := [.is (.sh a0), .is (.sh a1)]) (fr := false) rfl rfl rfl (sS_seq (sS_expr (sE_call (sA_cons sE_var fun y2 => (sA_nil (sK_call (sim_check_program _) (wk_any rfl)))))) fun _ => (sS_seq (sS_expr (sE_call (sA_cons sE_var fun y4 => (sA_nil (sK_call (sim_check_program _) (wk_any rfl)))))) fun _ => (sS_last (sS_seq (sS_expr (sE_call (sA_cons sE_var fun y6 => (sA_cons sE_var fun y7 => (sA_nil (sK_call (sim_straightened _ _) (wk_any rfl))))))) fun _ => sS_endN))))
  exact h

def p_tidy_program (a0 : D) : Rs D := (p_check_programs a0 a0).bind fun _ => Rs.bad
theorem sim_tidy_program (a0 : D) : FnP (f_tidy_program [a0]) (p_tidy_program a0) := by
  have h := fn_of (n := 4) (m := 1) (b := b_tidy_program) (ds := [a0]) (X := List.replicate 4 .any) (A := [.is (.sh a0), .is .no, .is .no, .is .no]) (fr := false) rfl rfl rfl (sS_seq (sS_expr (sE_call (sA_cons sE_var fun y2 => (sA_cons sE_var fun y3 => (sA_nil (sK_call (sim_check_programs _ _) (wk_any rfl))))))) fun _ => sS_bad)
  exact h

def p_judge_even (a0 : D) : Rs D := (p_check_program a0).bind fun _ => Rs.bad
theorem sim_judge_even (a0 : D) : FnP (f_judge_even [a0]) (p_judge_even a0) := by
  have h := fn_of (n := 6) (m := 1) (b := b_judge_even) (ds := [a0]) (X := List.replicate 6 .any) (A := [.is (.sh a0), .is .no, .is .no, .is .no, .is .no, .is .no]) (fr := false) rfl rfl rfl (sS_seq (sS_expr (sE_call (sA_cons sE_var fun y2 => (sA_nil (sK_call (sim_check_program _) (wk_any rfl)))))) fun _ => sS_bad)
  exact h

def p_check_start (a0 a1 : D) : Rs D := ((((Rs.opt ((isTy ["str"]) a0)).bind fun x1 => asB x1).bind fun x2 => Rs.ok (!x2)).bind fun x4 => if x4 then Rs.ok true else (Rs.opt (oNotIn a0 (.tup [(.str "ones"), (.str "first"), (.str "last"), (.str "stairs")]))).bind fun x3 => asB x3).bind fun x13 => if x13 then Rs.exc 1 [] else ((((p_is_whole a1).bind fun x6 => asB x6).bind fun x7 => Rs.ok (!x7)).bind fun x11 => if x11 then Rs.ok true else (((Rs.opt (oLe (.int 0) a1)).bind fun x8 => pAndB x8 (Rs.opt (oLe a1 (.int 5)))).bind fun x9 => asB x9).bind fun x10 => Rs.ok (!x10)).bind fun x12 => if x12 then Rs.exc 1 [] else Rs.ok D.non
theorem sim_check_start (a0 a1 : D) : FnP (f_check_start [a0, a1]) (p_check_start a0 a1) := by
  have h := fn_of (n := 2) (m := 2) (b := b_check_start) (ds := [a0, a1]) (X := List.replicate 2 .any) (A := [.is (.sh a0), .is (.sh a1)]) (fr := false) rfl rfl rfl (sS_if1 (sT_or (sT_not (sT_e (sE_un sE_var))) (sT_e (sE_op sE_var sE_c)))
      (sS_raise0 (by repeat' (first | exact wk_nil | refine wk_cons ?_ ?_ | exact trivial | exact rfl)))
      (sS_skip (sS_if (sT_or (sT_not (sT_e (sE_call (sA_cons sE_var fun y5 => (sA_nil (sK_call (sim_is_whole _) (wk_any rfl))))))) (sT_not (sT_e (sE_ch sE_c sE_var sE_c))))
      (sS_raise0 (by repeat' (first | exact wk_nil | refine wk_cons ?_ ?_ | exact trivial | exact rfl)))
      sS_endN)))
  exact h

def p_recurrence (a0 a1 a2 : D) : Rs D := (p_check_program a0).bind fun _ => (p_check_start a1 a2).bind fun _ => Rs.bad
theorem sim_recurrence (a0 a1 a2 : D) : FnP (f_recurrence [a0, a1, a2]) (p_recurrence a0 a1 a2) := by
  have h := fn_of (n := 5) (m := 3) (b := b_recurrence) (ds := [a0, a1, a2]) (X := List.replicate 5 .any) (A := [.is (.sh a0), .is (.sh a1), .is (.sh a2), .is .no, .is .no]) (fr := false) rfl rfl rfl (sS_seq (sS_expr (sE_call (sA_cons sE_var fun y2 => (sA_nil (sK_call (sim_check_program _) (wk_any rfl)))))) fun _ => (sS_seq (sS_expr (sE_call (sA_cons sE_var fun y4 => (sA_cons sE_var fun y5 => (sA_nil (sK_call (sim_check_start _ _) (wk_any rfl))))))) fun _ => sS_bad))
  exact h

def p_judge_programs (a0 a1 : D) : Rs D := (p_check_programs a0 a1).bind fun _ => Rs.bad
theorem sim_judge_programs (a0 a1 : D) : FnP (f_judge_programs [a0, a1]) (p_judge_programs a0 a1) := by
  have h := fn_of (n := 3) (m := 2) (b := b_judge_programs) (ds := [a0, a1]) (X := List.replicate 3 .any) (A := [.is (.sh a0), .is (.sh a1), .is .no]) (fr := false) rfl rfl rfl (sS_seq (sS_expr (sE_call (sA_cons sE_var fun y2 => (sA_cons sE_var fun y3 => (sA_nil (sK_call (sim_check_programs _ _) (wk_any rfl))))))) fun _ => sS_bad)
  exact h

def p_judge_later (a0 a1 : D) : Rs D := (p_check_programs a0 a1).bind fun _ => Rs.bad
theorem sim_judge_later (a0 a1 : D) : FnP (f_judge_later [a0, a1]) (p_judge_later a0 a1) := by
  have h := fn_of (n := 2) (m := 2) (b := b_judge_later) (ds := [a0, a1]) (X := List.replicate 2 .any) (A := [.is (.sh a0), .is (.sh a1)]) (fr := false) rfl rfl rfl (sS_seq (sS_expr (sE_call (sA_cons sE_var fun y2 => (sA_cons sE_var fun y3 => (sA_nil (sK_call (sim_check_programs _ _) (wk_any rfl))))))) fun _ => sS_bad)
  exact h

def p_amount (a0 a1 a2 a3 : D) : Rs D := (p_check_program a0).bind fun _ => (p_check_start a1 a2).bind fun _ => Rs.bad
theorem sim_amount (a0 a1 a2 a3 : D) : FnP (f_amount [a0, a1, a2, a3]) (p_amount a0 a1 a2 a3) := by
  have h := fn_of (n := 4) (m := 4) (b := b_amount) (ds := [a0, a1, a2, a3]) (X := List.replicate 4 .any) (A := [.is (.sh a0), .is (.sh a1), .is (.sh a2), .is (.sh a3)]) (fr := false) rfl rfl rfl (sS_seq (sS_expr (sE_call (sA_cons sE_var fun y2 => (sA_nil (sK_call (sim_check_program _) (wk_any rfl)))))) fun _ => (sS_seq (sS_expr (sE_call (sA_cons sE_var fun y4 => (sA_cons sE_var fun y5 => (sA_nil (sK_call (sim_check_start _ _) (wk_any rfl))))))) fun _ => sS_bad))
  exact h

def p_amounts (a0 a1 a2 a3 : D) : Rs D := ((Rs.opt (oAdd a2 (.int 1))).bind fun x2 => ((Rs.opt (oAdd a2 (.int 1))).bind fun x1 => Rs.opt (oAdd x1 a3)).bind fun x3 => Rs.opt (rng2 x2 x3)).bind fun x11 => (pCompX (fun x4 => Rs.ok true) (fun x4 => p_amount a0 a1 a2 x4) x11).bind pLst
theorem sim_amounts (a0 a1 a2 a3 : D) : FnP (f_amounts [a0, a1, a2, a3]) (p_amounts a0 a1 a2 a3) := by
  have h := fn_of (n := 5) (m := 4) (b := b_amounts) (ds := [a0, a1, a2, a3]) (X := List.replicate 5 .any) (A := [.is (.sh a0), .is (.sh a1), .is (.sh a2), .is (.sh a3), .is .no]) (fr := true) rfl rfl rfl (sS_retO1 capT_F (sE_compX (vs := [4]) rfl (sI_rng2 (sE_op sE_var sE_c) (sE_op (sE_op sE_var sE_c) sE_var)) (notOwn_cons ⟨_, rfl, by first | rfl | trivial⟩ notOwn_nil) (fun x4 => sG_1) (fun x4 => sT_yes) (fun x4 => (sE_call (sA_cons sE_var fun y6 => (sA_cons sE_var fun y7 => (sA_cons sE_var fun y8 => (sA_cons sE_var fun y9 => (sA_nil (sK_call (sim_amount _ _ _ _) (wk_any rfl))))))))) (fun x4 => by repeat' (first | exact wk_nil | refine wk_cons ?_ ?_ | exact trivial | exact rfl)) (fun x4 => by repeat' (first | exact wk_nil | refine wk_cons ?_ ?_ | exact trivial | exact rfl))))
  exact h

def p_check_kinds (a0 : D) : Rs D := ((((Rs.opt ((isTy ["list", "tuple"]) a0)).bind fun x1 => asB x1).bind fun x2 => Rs.ok (!x2)).bind fun x5 => if x5 then Rs.ok true else ((Rs.opt (oLen a0)).bind fun x3 => Rs.opt (oGt x3 (.int 5))).bind fun x4 => asB x4).bind fun x19 => if x19 then Rs.exc 0 [("place", .non)] else ((Rs.opt ((itemsD a0).map enumD)).bind fun x18 => pFold (fun (s6 : Unit) x8 => (Rs.opt (un2 x8)).bind fun b9 => ((((p_is_round b9.2).bind fun x11 => asB x11).bind fun x12 => Rs.ok (!x12)).bind fun x16 => if x16 then Rs.ok true else (((asI b9.1).bind fun x13 => Rs.opt (slL a0 none x13)).bind fun x14 => Rs.opt (oIn b9.2 x14)).bind fun x15 => asB x15).bind fun x17 => if x17 then Rs.exc 0 [("place", b9.1)] else Rs.ok ()) x18 ()).bind fun (s7 : Unit) => Rs.ok D.non
theorem sim_check_kinds (a0 : D) : FnP (f_check_kinds [a0]) (p_check_kinds a0) := by
  have h := fn_of (n := 3) (m := 1) (b := b_check_kinds) (ds := [a0]) (X := List.replicate 3 .any) (A := [.is (.sh a0), .is .no, .is .no]) (fr := false) rfl rfl rfl (sS_if1 (sT_or (sT_not (sT_e (sE_un sE_var))) (sT_e (sE_op (sE_un sE_var) sE_c)))
      (sS_raise1 sE_c (by repeat' (first | exact wk_nil | refine wk_cons ?_ ?_ | exact trivial | exact rfl)))
      (sS_skip (sS_last (sS_seq (post := (fun (s7 : Unit) => [.is (.sh a0), .tmp, .tmp])) (sS_for (s0 := ()) (post := (fun (s6 : Unit) => [.is (.sh a0), .tmp, .tmp])) (sI_enum sE_var) (by repeat' (first | exact wk_nil | refine wk_cons ?_ ?_ | exact trivial | exact rfl)) (fun s6 x8 => sG_2) (fun _ => opt_noexc) (fun s6 b9 => (sS_if (sT_or (sT_not (sT_e (sE_call (sA_cons sE_var fun y10 => (sA_nil (sK_call (sim_is_round _) (wk_any rfl))))))) (sT_e (sE_op sE_var (sE_slL sE_var sP_no (sP_at sE_var)))))
      (sS_raise1 sE_var (by repeat' (first | exact wk_nil | refine wk_cons ?_ ?_ | exact trivial | exact rfl)))
      (sS_nx capN_A (post := (fun (s6 : Unit) => [.is (.sh a0), .tmp, .tmp])) () (by repeat' (first | exact wk_nil | refine wk_cons ?_ ?_ | exact trivial | exact rfl)))))) fun s7 => sS_endN))))
  exact h

def p_check_all (a0 a1 : D) : Rs D := ((pNew 0 (fun s4 => p_Program___init__ s4 a1)).bind fun x6 => p_check_programs a0 x6).bind fun _ => Rs.ok D.non
theorem sim_check_all (a0 a1 : D) : FnP (f_check_all [a0, a1]) (p_check_all a0 a1) := by
  have h := fn_of (n := 2) (m := 2) (b := b_check_all) (ds := [a0, a1]) (X := List.replicate 2 .any) (A := [.is (.sh a0), .is (.sh a1)]) (fr := false) rfl rfl rfl (sS_last (sS_seq (sS_expr (sE_call (sA_cons sE_var fun y2 => (sA_cons (sE_new (sA_cons sE_var fun y3 => (sA_nil (sK_new (p := fun s4 => p_Program___init__ s4 y3) (sim_Program___init__ _ _) (wk_any rfl))))) fun y5 => (sA_nil (sK_call (sim_check_programs _ _) (wk_any rfl))))))) fun _ => sS_endN))
  exact h

def p_few_rounds (a0 a1 : D) : Rs D := (p_check_kinds a1).bind fun _ => (p_check_all a0 a1).bind fun _ => Rs.bad
theorem sim_few_rounds (a0 a1 : D) : FnP (f_few_rounds [a0, a1]) (p_few_rounds a0 a1) := by
  have h := fn_of (n := 6) (m := 2) (b := b_few_rounds) (ds := [a0, a1]) (X := List.replicate 6 .any) (A := [.is (.sh a0), .is (.sh a1), .is .no, .is .no, .is .no, .is .no]) (fr := false) rfl rfl rfl (sS_seq (sS_expr (sE_call (sA_cons sE_var fun y2 => (sA_nil (sK_call (sim_check_kinds _) (wk_any rfl)))))) fun _ => (sS_seq (sS_expr (sE_call (sA_cons sE_var fun y4 => (sA_cons sE_var fun y5 => (sA_nil (sK_call (sim_check_all _ _) (wk_any rfl))))))) fun _ => sS_bad))
  exact h

def p__law_alone (a0 a1 : D) : Rs D := ((Rs.opt (oLt a0 (.int 4))).bind fun x1 => asB x1).bind fun x50 => if x50 then ((Rs.opt (oEq a0 (.int 0))).bind fun x2 => asB x2).bind fun x13 => if x13 then p_turned_back a1 else ((Rs.opt (oEq a0 (.int 1))).bind fun x4 => asB x4).bind fun x12 => if x12 then p_tidy_program a1 else ((Rs.opt (oEq a0 (.int 2))).bind fun x6 => asB x6).bind fun x11 => if x11 then p_judge_even a1 else p_recurrence a1 (.str "ones") (.int 0) else ((Rs.opt (oLt a0 (.int 7))).bind fun x14 => asB x14).bind fun x49 => if x49 then ((Rs.opt (oEq a0 (.int 4))).bind fun x15 => asB x15).bind fun x34 => if x34 then ((pLst []).bind fun x18 => pNew 0 (fun s19 => p_Program___init__ s19 x18)).bind fun x21 => p_judge_programs a1 x21 else ((Rs.opt (oEq a0 (.int 5))).bind fun x22 => asB x22).bind fun x33 => if x33 then ((pLst []).bind fun x24 => pNew 0 (fun s25 => p_Program___init__ s25 x24)).bind fun x27 => p_judge_later x27 a1 else p_amount a1 (.str "ones") (.int 0) (.int 5) else ((Rs.opt (oEq a0 (.int 7))).bind fun x35 => asB x35).bind fun x48 => if x48 then p_amounts a1 (.str "last") (.int 1) (.int 4) else ((pTup [(.str "every"), (.int 2), (.int 1)]).bind fun x45 => pLst [x45]).bind fun x47 => p_few_rounds a1 x47
theorem sim__law_alone (a0 a1 : D) : FnP (f__law_alone [a0, a1]) (p__law_alone a0 a1) := by
  have h := fn_of (n := 2) (m := 2) (b := b__law_alone) (ds := [a0, a1]) (X := List.replicate 2 .any) (A := [.is (.sh a0), .is (.sh a1)]) (fr := false) rfl rfl rfl (sS_if1 (sT_e (sE_op sE_var sE_c))
      (sS_ret1 (capT_j capT_F) (sE_if (sT_e (sE_op sE_var sE_c)) (sE_call (sA_cons sE_var fun y3 => (sA_nil (sK_call (sim_turned_back _) (wk_any rfl))))) (sE_if (sT_e (sE_op sE_var sE_c)) (sE_call (sA_cons sE_var fun y5 => (sA_nil (sK_call (sim_tidy_program _) (wk_any rfl))))) (sE_if (sT_e (sE_op sE_var sE_c)) (sE_call (sA_cons sE_var fun y7 => (sA_nil (sK_call (sim_judge_even _) (wk_any rfl))))) (sE_call (sA_cons sE_var fun y8 => (sA_cons sE_c fun y9 => (sA_cons sE_c fun y10 => (sA_nil (sK_call (sim_recurrence _ _ _) (wk_any rfl)))))))))))
      (sS_skip (sS_if1 (sT_e (sE_op sE_var sE_c))
      (sS_ret1 (capT_j capT_F) (sE_if (sT_e (sE_op sE_var sE_c)) (sE_call (sA_cons sE_var fun y16 => (sA_cons (sE_new (sA_cons (sE_lst (sA_nil sK_lst)) fun y17 => (sA_nil (sK_new (p := fun s19 => p_Program___init__ s19 y17) (sim_Program___init__ _ _) (wk_any rfl))))) fun y20 => (sA_nil (sK_call (sim_judge_programs _ _) (wk_any rfl)))))) (sE_if (sT_e (sE_op sE_var sE_c)) (sE_call (sA_cons (sE_new (sA_cons (sE_lst (sA_nil sK_lst)) fun y23 => (sA_nil (sK_new (p := fun s25 => p_Program___init__ s25 y23) (sim_Program___init__ _ _) (wk_any rfl))))) fun y26 => (sA_cons sE_var fun y28 => (sA_nil (sK_call (sim_judge_later _ _) (wk_any rfl)))))) (sE_call (sA_cons sE_var fun y29 => (sA_cons sE_c fun y30 => (sA_cons sE_c fun y31 => (sA_cons sE_c fun y32 => (sA_nil (sK_call (sim_amount _ _ _ _) (wk_any rfl)))))))))))
      (sS_skip (sS_ret1 capT_F (sE_if (sT_e (sE_op sE_var sE_c)) (sE_call (sA_cons sE_var fun y36 => (sA_cons sE_c fun y37 => (sA_cons sE_c fun y38 => (sA_cons sE_c fun y39 => (sA_nil (sK_call (sim_amounts _ _ _ _) (wk_any rfl)))))))) (sE_call (sA_cons sE_var fun y40 => (sA_cons (sE_lst (sA_cons (sE_tup (sA_cons sE_c fun y41 => (sA_cons sE_c fun y42 => (sA_cons sE_c fun y43 => (sA_nil sK_tup))))) fun y44 => (sA_nil sK_lst))) fun y46 => (sA_nil (sK_call (sim_few_rounds _ _) (wk_any rfl))))))))))))
  exact h

def p_Program___eq__ (a0 a1 : D) : Rs D := (Rs.opt ((isCl is_Program) a1)).bind fun x3 => pAndB x3 ((Rs.opt ((fldD "rounds") a0)).bind fun x1 => (Rs.opt ((fldD "rounds") a1)).bind fun x2 => Rs.opt (oEq x1 x2))
theorem sim_Program___eq__ (a0 a1 : D) : FnP (f_Program___eq__ [a0, a1]) (p_Program___eq__ a0 a1) := by
  have h := fn_of (n := 2) (m := 2) (b := b_Program___eq__) (ds := [a0, a1]) (X := List.replicate 2 .any) (A := [.is (.sh a0), .is (.sh a1)]) (fr := false) rfl rfl rfl (sS_ret1 capT_F (sE_and (sE_un sE_var) (sE_op (sE_un sE_var) (sE_un sE_var))))
  exact h

def p_Program___add__ (a0 a1 : D) : Rs D := (((Rs.opt ((isCl is_Program) a1)).bind fun x1 => asB x1).bind fun x2 => Rs.ok (!x2)).bind fun x12 => if x12 then Rs.bad else ((Rs.opt ((fldD "rounds") a0)).bind fun x8 => (Rs.opt (itemsD x8)).bind fun x4 => (Rs.opt ((fldD "rounds") a1)).bind fun x7 => (Rs.opt (itemsD x7)).bind fun x6 => pLst (x4 ++ (x6 ++ []))).bind fun x10 => pNew 0 (fun s11 => p_Program___init__ s11 x10)
theorem sim_Program___add__ (a0 a1 : D) : FnP (f_Program___add__ [a0, a1]) (p_Program___add__ a0 a1) := by
  have h := fn_of (n := 2) (m := 2) (b := b_Program___add__) (ds := [a0, a1]) (X := List.replicate 2 .any) (A := [.is (.sh a0), .is (.sh a1)]) (fr := false) rfl rfl rfl (sS_if1 (sT_not (sT_e (sE_un sE_var)))
      sS_bad
      (sS_skip (sS_ret1 capT_F (sE_new (sA_cons (sE_lst (sA_star (sE_un sE_var) fun y3 => (sA_star (sE_un sE_var) fun y5 => (sA_nil sK_lst)))) fun y9 => (sA_nil (sK_new (p := fun s11 => p_Program___init__ s11 y9) (sim_Program___init__ _ _) (wk_any rfl))))))))
  exact h

def p_different_programs (a0 a1 : D) : Rs D := (p_check_kinds a0).bind fun _ => ((((p_is_whole a1).bind fun x4 => asB x4).bind fun x5 => Rs.ok (!x5)).bind fun x9 => if x9 then Rs.ok true else (((Rs.opt (oLe (.int 0) a1)).bind fun x6 => pAndB x6 (Rs.opt (oLe a1 (.int 3)))).bind fun x7 => asB x7).bind fun x8 => Rs.ok (!x8)).bind fun x17 => if x17 then Rs.exc 1 [] else (((pLst []).bind fun x12 => pNew 0 (fun s13 => p_Program___init__ s13 x12)).bind fun x15 => p_check_all x15 a0).bind fun _ => Rs.bad
theorem sim_different_programs (a0 a1 : D) : FnP (f_different_programs [a0, a1]) (p_different_programs a0 a1) := by
  have h := fn_of (n := 7) (m := 2) (b := b_different_programs) (ds := [a0, a1]) (X := List.replicate 7 .any) (A := [.is (.sh a0), .is (.sh a1), .is .no, .is .no, .is .no, .is .no, .is .no]) (fr := false) rfl rfl rfl (sS_seq (sS_expr (sE_call (sA_cons sE_var fun y2 => (sA_nil (sK_call (sim_check_kinds _) (wk_any rfl)))))) fun _ => (sS_if1 (sT_or (sT_not (sT_e (sE_call (sA_cons sE_var fun y3 => (sA_nil (sK_call (sim_is_whole _) (wk_any rfl))))))) (sT_not (sT_e (sE_ch sE_c sE_var sE_c))))
      (sS_raise0 (by repeat' (first | exact wk_nil | refine wk_cons ?_ ?_ | exact trivial | exact rfl)))
      (sS_skip (sS_seq (sS_expr (sE_call (sA_cons (sE_new (sA_cons (sE_lst (sA_nil sK_lst)) fun y11 => (sA_nil (sK_new (p := fun s13 => p_Program___init__ s13 y11) (sim_Program___init__ _ _) (wk_any rfl))))) fun y14 => (sA_cons sE_var fun y16 => (sA_nil (sK_call (sim_check_all _ _) (wk_any rfl))))))) fun _ => sS_bad))))
  exact h

def p__law_mixed (a0 a1 a2 : D) : Rs D := ((Rs.opt (oLt a0 (.int 3))).bind fun x1 => asB x1).bind fun x34 => if x34 then ((Rs.opt (oEq a0 (.int 0))).bind fun x2 => asB x2).bind fun x11 => if x11 then p_judge_programs a1 a2 else ((Rs.opt (oEq a0 (.int 1))).bind fun x5 => asB x5).bind fun x10 => if x10 then p_judge_later a1 a2 else (Rs.opt ((oAddO 0 f_Program___add__) a1 a2)).bind fun x9 => p_tidy_program x9 else ((Rs.opt (oEq a0 (.int 3))).bind fun x12 => asB x12).bind fun x33 => if x33 then ((pTup [(.str "every"), (.int 2), (.int 0)]).bind fun x18 => (pTup [(.str "left")]).bind fun x21 => pLst [x18, x21]).bind fun x23 => p_few_rounds a1 x23 else ((pTup [(.str "left")]).bind fun x26 => (pTup [(.str "right")]).bind fun x29 => pLst [x26, x29]).bind fun x31 => p_different_programs x31 (.int 1)
theorem sim__law_mixed (a0 a1 a2 : D) : FnP (f__law_mixed [a0, a1, a2]) (p__law_mixed a0 a1 a2) := by
  have h := fn_of (n := 3) (m := 3) (b := b__law_mixed) (ds := [a0, a1, a2]) (X := List.replicate 3 .any) (A := [.is (.sh a0), .is (.sh a1), .is (.sh a2)]) (fr := false) rfl rfl rfl (sS_if1 (sT_e (sE_op sE_var sE_c))
      (sS_ret1 (capT_j capT_F) (sE_if (sT_e (sE_op sE_var sE_c)) (sE_call (sA_cons sE_var fun y3 => (sA_cons sE_var fun y4 => (sA_nil (sK_call (sim_judge_programs _ _) (wk_any rfl)))))) (sE_if (sT_e (sE_op sE_var sE_c)) (sE_call (sA_cons sE_var fun y6 => (sA_cons sE_var fun y7 => (sA_nil (sK_call (sim_judge_later _ _) (wk_any rfl)))))) (sE_call (sA_cons (sE_op sE_var sE_var) fun y8 => (sA_nil (sK_call (sim_tidy_program _) (wk_any rfl))))))))
      (sS_skip (sS_ret1 capT_F (sE_if (sT_e (sE_op sE_var sE_c)) (sE_call (sA_cons sE_var fun y13 => (sA_cons (sE_lst (sA_cons (sE_tup (sA_cons sE_c fun y14 => (sA_cons sE_c fun y15 => (sA_cons sE_c fun y16 => (sA_nil sK_tup))))) fun y17 => (sA_cons (sE_tup (sA_cons sE_c fun y19 => (sA_nil sK_tup))) fun y20 => (sA_nil sK_lst)))) fun y22 => (sA_nil (sK_call (sim_few_rounds _ _) (wk_any rfl)))))) (sE_call (sA_cons (sE_lst (sA_cons (sE_tup (sA_cons sE_c fun y24 => (sA_nil sK_tup))) fun y25 => (sA_cons (sE_tup (sA_cons sE_c fun y27 => (sA_nil sK_tup))) fun y28 => (sA_nil sK_lst)))) fun y30 => (sA_cons sE_c fun y32 => (sA_nil (sK_call (sim_different_programs _ _) (wk_any rfl))))))))))
  exact h

def p_law (a0 : D) : Rs D := ((p__law_rounds a0 (.int 10) (.int 2) (.str "right")).bind fun x7 => pNew 0 (fun s8 => p_Program___init__ s8 x7)).bind fun x1 => ((p__law_draw a0 (.int 0) (.int 6)).bind fun x13 => Rs.opt (oAdd (.int 1) x13)).bind fun x9 => ((Rs.opt (rng1 x9)).bind fun x22 => (pMap (fun x15 => (Rs.opt (oAdd (.int 30) x15)).bind fun x19 => p__law_draw a0 x19 (.int 9)) x22).bind pLst).bind fun x14 => (((((pTup [(.str "right")]).bind fun x27 => pLst [x27]).bind fun x29 => ((pTup [(.str "right")]).bind fun x32 => pTup [x32]).bind fun x34 => pTup [.non, (.int 3), x29, x34, (.str "right")]).bind fun x36 => Rs.opt (itemsD x36)).bind fun x79 => pLoop (fun (s37 : Unit) x39 => ((((p__law_draw a0 (.int 1) (.int 10)).bind fun x45 => (p__law_draw a0 (.int 2) (.int 10)).bind fun x50 => pTup [x45, x50]).bind fun x51 => Rs.opt (itemsD x51)).bind fun x68 => pLoop (fun (s52 : Unit) x54 => pTry (((pLst []).bind fun x62 => (Rs.opt (oNeg (.int 1))).bind fun x64 => p__law_asked x54 x39 (.int 0) (.int 99) x62 x64).bind fun _ => Rs.ok (.ret (.bl false))) (fun xc fs => pClz ex_BadProgram ((((Rs.opt (lkF fs "place")).bind fun x65 => Rs.opt (oIsNotN x65 .non)).bind fun x66 => asB x66).bind fun x67 => if x67 then Rs.ok (.ret (.bl false)) else Rs.ok (.go ())) (Rs.exc xc fs) xc)) x68 ()).sum .ret fun (s53 : Unit) => pTry (((p__law_draw a0 (.int 3) (.int 9)).bind fun x74 => p__law_alone x74 x39).bind fun _ => Rs.ok (.ret (.bl false))) (fun xc fs => pClz ex_BadProgram ((((Rs.opt (lkF fs "place")).bind fun x76 => Rs.opt (oIsNotN x76 .non)).bind fun x77 => asB x77).bind fun x78 => if x78 then Rs.ok (.ret (.bl false)) else Rs.ok (.go ())) (Rs.exc xc fs) xc)) x79 ()).sum id fun (s38 : Unit) => ((((Rs.opt (oNeg (.int 1))).bind fun x85 => pTup [(.int 0), (.int 401), .non, (.bl true), x85, (.str "4")]).bind fun x87 => Rs.opt (itemsD x87)).bind fun x103 => pLoop (fun (s88 : Unit) x90 => pTry (((p__law_draw a0 (.int 4) (.int 3)).bind fun x97 => p__law_asked x97 x1 x90 (.int 0) x14 (.int 1)).bind fun _ => Rs.ok (.ret (.bl false))) (fun xc fs => pClz ex_BadStart (Rs.ok (.go ())) (Rs.exc xc fs) xc)) x103 ()).sum id fun (s89 : Unit) => ((((Rs.opt (oNeg (.int 1))).bind fun x106 => pTup [x9, x106, .non, (.bl true)]).bind fun x109 => Rs.opt (itemsD x109)).bind fun x130 => pLoop (fun (s110 : Unit) x112 => (((pTup [(.int 0), (.int 1), (.int 9)]).bind fun x117 => Rs.opt (itemsD x117)).bind fun x129 => pLoop (fun (s118 : Unit) x120 => pTry ((p__law_asked x120 x1 x9 x112 x14 (.int 1)).bind fun _ => Rs.ok (.ret (.bl false))) (fun xc fs => pClz ex_BadStart (Rs.ok (.go ())) (Rs.exc xc fs) xc)) x129 ()).sum .ret fun (s119 : Unit) => Rs.ok (.go ())) x130 ()).sum id fun (s111 : Unit) => ((((pLst []).bind fun x132 => (pLst [(.int 1), (.str "a")]).bind fun x137 => ((pTup [(.int 1), (.int 0)]).bind fun x141 => pLst [x141]).bind fun x143 => pTup [x132, .non, x137, x143, (.int 3), (.dic [(.int 1, (.int 2))])]).bind fun x146 => Rs.opt (itemsD x146)).bind fun x163 => pLoop (fun (s147 : Unit) x149 => pTry ((((p__law_draw a0 (.int 5) (.int 4)).bind fun x155 => Rs.opt (oAdd (.int 6) x155)).bind fun x157 => p__law_asked x157 x1 x9 (.int 0) x149 (.int 1)).bind fun _ => Rs.ok (.ret (.bl false))) (fun xc fs => pClz ex_BadStart (Rs.ok (.go ())) (Rs.exc xc fs) xc)) x163 ()).sum id fun (s148 : Unit) => ((((Rs.opt (oNeg (.int 1))).bind fun x165 => pTup [x165, (.int 201), .non, (.bl true)]).bind fun x169 => Rs.opt (itemsD x169)).bind fun x190 => pLoop (fun (s170 : Unit) x172 => pTry ((((pTup [(.int 4), (.int 6), (.int 8)]).bind fun x181 => (p__law_draw a0 (.int 6) (.int 3)).bind fun x182 => Rs.opt (oIdx x181 x182)).bind fun x184 => p__law_asked x184 x1 x9 (.int 0) x14 x172).bind fun _ => Rs.ok (.ret (.bl false))) (fun xc fs => pClz ex_BadStart (Rs.ok (.go ())) (Rs.exc xc fs) xc)) x190 ()).sum id fun (s171 : Unit) => ((((pTup [(.str "right")]).bind fun x193 => (pLst [(.str "ones")]).bind fun x200 => pTup [x193, (.str "Ones"), .non, (.int 3), (.str ""), x200]).bind fun x201 => Rs.opt (itemsD x201)).bind fun x228 => pLoop (fun (s202 : Unit) x204 => pTry ((((((pTup [(.str "right")]).bind fun x209 => (pTup [(.str "every"), (.int 2), (.int 1)]).bind fun x214 => pLst [x209, x214]).bind fun x219 => ((p__law_draw a0 (.int 9) (.int 3)).bind fun x218 => asI x218).bind fun x220 => Rs.opt (slL x219 none x220)).bind fun x222 => pNew 0 (fun s223 => p_Program___init__ s223 x222)).bind fun x225 => p_recurrence x225 x204 (.int 0)).bind fun _ => Rs.ok (.ret (.bl false))) (fun xc fs => pClz ex_BadStart (Rs.ok (.go ())) (Rs.exc xc fs) xc)) x228 ()).sum id fun (s203 : Unit) => ((((pTup [(.str "right")]).bind fun x232 => (pTup [(.str "every"), (.int 2), (.int 1)]).bind fun x237 => pLst [x232, x237]).bind fun x239 => pNew 0 (fun s240 => p_Program___init__ s240 x239)).bind fun x247 => (((pTup [(.str "left")]).bind fun x243 => pLst [x243]).bind fun x245 => pNew 0 (fun s246 => p_Program___init__ s246 x245)).bind fun x248 => Rs.ok (x247, x248)).bind fun x229 => ((((pTup [x229.1, x229.2]).bind fun x252 => (pTup [x229.2, x229.1]).bind fun x256 => pTup [x252, x256]).bind fun x257 => Rs.opt (itemsD x257)).bind fun x275 => pLoop (fun (s258 : Unit) x260 => (Rs.opt (un2 x260)).bind fun b261 => pTry (((((Rs.opt ((oEqO (tabOf [(0, f_Program___eq__)])) b261.1 x229.1)).bind fun x263 => asB x263).bind fun x270 => if x270 then p__law_draw a0 (.int 7) (.int 5) else p__law_draw a0 (.int 8) (.int 3)).bind fun x272 => p__law_mixed x272 b261.1 b261.2).bind fun _ => Rs.ok (.ret (.bl false))) (fun xc fs => pClz ex_Mixed (Rs.ok (.go ())) (Rs.exc xc fs) xc)) x275 ()).sum id fun (s259 : Unit) => ((Rs.opt ((oAddO 0 f_Program___add__) x229.2 x229.1)).bind fun x277 => p_lapped x277 x14 (.int 0)).bind fun x287 => (((pLst []).bind fun x281 => pNew 0 (fun s282 => p_Program___init__ s282 x281)).bind fun x284 => p_lapped x284 x14 (.int 0)).bind fun x288 => Rs.opt (oEq x287 x288)
theorem sim_law (a0 : D) : FnP (f_law [a0]) (p_law a0) := by
  have h := fn_of (n := 12) (m := 1) (b := b_law) (ds := [a0]) (X := List.replicate 12 .any) (A := [.is (.sh a0), .is .no, .is .no, .is .no, .is .no, .is .no, .is .no, .is .no, .is .no, .is .no, .is .no, .is .no]) (fr := false) rfl rfl rfl (sS_seq (sS_asg (sE_new (sA_cons (sE_call (sA_cons sE_var fun y2 => (sA_cons sE_c fun y3 => (sA_cons sE_c fun y4 => (sA_cons sE_c fun y5 => (sA_nil (sK_call (sim__law_rounds _ _ _ _) (wk_any rfl)))))))) fun y6 => (sA_nil (sK_new (p := fun s8 => p_Program___init__ s8 y6) (sim_Program___init__ _ _) (wk_any rfl)))))) fun x1 => (sS_seq (sS_asg (sE_op sE_c (sE_call (sA_cons sE_var fun y10 => (sA_cons sE_c fun y11 => (sA_cons sE_c fun y12 => (sA_nil (sK_call (sim__law_draw _ _ _) (wk_any rfl))))))))) fun x9 => (sS_seq (sS_asg (sE_comp (vs := [11]) (sI_rng1 sE_var) (notOwn_cons ⟨_, rfl, by first | rfl | trivial⟩ notOwn_nil) (fun x15 => sG_1) (fun x15 => sT_yes) (fun x15 => (sE_call (sA_cons sE_var fun y17 => (sA_cons (sE_op sE_c sE_var) fun y18 => (sA_cons sE_c fun y20 => (sA_nil (sK_call (sim__law_draw _ _ _) (wk_any rfl)))))))) (fun x15 => by repeat' (first | exact wk_nil | refine wk_cons ?_ ?_ | exact trivial | exact rfl)) (fun x15 => by repeat' (first | exact wk_nil | refine wk_cons ?_ ?_ | exact trivial | exact rfl)))) fun x14 => (sS_sum (post := (fun (s38 : Unit) => [.is (.sh a0), .is (.sh x1), .is (.sh x9), .is (.sh x14), .tmp, .tmp, .tmp, .is .no, .is .no, .is .no, .is .no, .is .no])) (sS_forL (s0 := ()) (post := (fun (s37 : Unit) => [.is (.sh a0), .is (.sh x1), .is (.sh x9), .is (.sh x14), .tmp, .tmp, .tmp, .is .no, .is .no, .is .no, .is .no, .is .no])) (sI_seq (sE_tup (sA_cons sE_c fun y23 => (sA_cons sE_c fun y24 => (sA_cons (sE_lst (sA_cons (sE_tup (sA_cons sE_c fun y25 => (sA_nil sK_tup))) fun y26 => (sA_nil sK_lst))) fun y28 => (sA_cons (sE_tup (sA_cons (sE_tup (sA_cons sE_c fun y30 => (sA_nil sK_tup))) fun y31 => (sA_nil sK_tup))) fun y33 => (sA_cons sE_c fun y35 => (sA_nil sK_tup)))))))) (by repeat' (first | exact wk_nil | refine wk_cons ?_ ?_ | exact trivial | exact rfl)) (fun s37 x39 => sG_1) (fun _ => trivial) kindT_v (fun s37 x39 => (sS_sum (post := (fun (s53 : Unit) => [.is (.sh a0), .is (.sh x1), .is (.sh x9), .is (.sh x14), .is (.sh x39), .tmp, .tmp, .is .no, .is .no, .is .no, .is .no, .is .no])) (sS_forL (s0 := ()) (post := (fun (s52 : Unit) => [.is (.sh a0), .is (.sh x1), .is (.sh x9), .is (.sh x14), .is (.sh x39), .tmp, .tmp, .is .no, .is .no, .is .no, .is .no, .is .no])) (sI_seq (sE_tup (sA_cons (sE_call (sA_cons sE_var fun y41 => (sA_cons sE_c fun y42 => (sA_cons sE_c fun y43 => (sA_nil (sK_call (sim__law_draw _ _ _) (wk_any rfl))))))) fun y44 => (sA_cons (sE_call (sA_cons sE_var fun y46 => (sA_cons sE_c fun y47 => (sA_cons sE_c fun y48 => (sA_nil (sK_call (sim__law_draw _ _ _) (wk_any rfl))))))) fun y49 => (sA_nil sK_tup))))) (by repeat' (first | exact wk_nil | refine wk_cons ?_ ?_ | exact trivial | exact rfl)) (fun s52 x54 => sG_1) (fun _ => trivial) kindT_v (fun s52 x54 => (sS_try (Xb := [.is (.sh a0), .is (.sh x1), .is (.sh x9), .is (.sh x14), .is (.sh x39), .is (.sh x54), .tmp, .is .no, .is .no, .is .no, .is .no, .is .no]) (sS_seq (sS_expr (sE_call (sA_cons sE_var fun y57 => (sA_cons sE_var fun y58 => (sA_cons sE_c fun y59 => (sA_cons sE_c fun y60 => (sA_cons (sE_lst (sA_nil sK_lst)) fun y61 => (sA_cons (sE_un sE_c) fun y63 => (sA_nil (sK_call (sim__law_asked _ _ _ _ _ _) (by repeat' (first | exact wk_nil | refine wk_cons ?_ ?_ | exact trivial | exact rfl)))))))))))) fun _ => (sS_ret capT_L sE_c)) (fun xc fs => (sC_cons (X1 := List.replicate 12 .any) rfl (offR_L fun _ => rfl) (sS_if (sT_e (sE_op sE_xf sE_c))
      (sS_ret capT_L sE_c)
      (sS_nx capN_L (post := (fun (s52 : Unit) => [.is (.sh a0), .is (.sh x1), .is (.sh x9), .is (.sh x14), .is (.sh x39), .tmp, .tmp, .is .no, .is .no, .is .no, .is .no, .is .no])) () (by repeat' (first | exact wk_nil | refine wk_cons ?_ ?_ | exact trivial | exact rfl)))) (sC_nil (by repeat' (first | exact wk_nil | refine wk_cons ?_ ?_ | exact trivial | exact rfl)))))))) capT_L fun s53 => (sS_try (Xb := [.is (.sh a0), .is (.sh x1), .is (.sh x9), .is (.sh x14), .is (.sh x39), .tmp, .tmp, .is .no, .is .no, .is .no, .is .no, .is .no]) (sS_seq (sS_expr (sE_call (sA_cons (sE_call (sA_cons sE_var fun y70 => (sA_cons sE_c fun y71 => (sA_cons sE_c fun y72 => (sA_nil (sK_call (sim__law_draw _ _ _) (by repeat' (first | exact wk_nil | refine wk_cons ?_ ?_ | exact trivial | exact rfl)))))))) fun y73 => (sA_cons sE_var fun y75 => (sA_nil (sK_call (sim__law_alone _ _) (by repeat' (first | exact wk_nil | refine wk_cons ?_ ?_ | exact trivial | exact rfl)))))))) fun _ => (sS_ret capT_L sE_c)) (fun xc fs => (sC_cons (X1 := List.replicate 12 .any) rfl (offR_L fun _ => rfl) (sS_if (sT_e (sE_op sE_xf sE_c))
      (sS_ret capT_L sE_c)
      (sS_nx capN_L (post := (fun (s37 : Unit) => [.is (.sh a0), .is (.sh x1), .is (.sh x9), .is (.sh x14), .tmp, .tmp, .tmp, .is .no, .is .no, .is .no, .is .no, .is .no])) () (by repeat' (first | exact wk_nil | refine wk_cons ?_ ?_ | exact trivial | exact rfl)))) (sC_nil (by repeat' (first | exact wk_nil | refine wk_cons ?_ ?_ | exact trivial | exact rfl))))))))) capT_F fun s38 => (sS_sum (post := (fun (s89 : Unit) => [.is (.sh a0), .is (.sh x1), .is (.sh x9), .is (.sh x14), .tmp, .tmp, .tmp, .is .no, .is .no, .is .no, .is .no, .is .no])) (sS_forL (s0 := ()) (post := (fun (s88 : Unit) => [.is (.sh a0), .is (.sh x1), .is (.sh x9), .is (.sh x14), .tmp, .tmp, .tmp, .is .no, .is .no, .is .no, .is .no, .is .no])) (sI_seq (sE_tup (sA_cons sE_c fun y80 => (sA_cons sE_c fun y81 => (sA_cons sE_c fun y82 => (sA_cons sE_c fun y83 => (sA_cons (sE_un sE_c) fun y84 => (sA_cons sE_c fun y86 => (sA_nil sK_tup))))))))) (by repeat' (first | exact wk_nil | refine wk_cons ?_ ?_ | exact trivial | exact rfl)) (fun s88 x90 => sG_1) (fun _ => trivial) kindT_v (fun s88 x90 => (sS_try (Xb := [.is (.sh a0), .is (.sh x1), .is (.sh x9), .is (.sh x14), .is (.sh x90), .tmp, .tmp, .is .no, .is .no, .is .no, .is .no, .is .no]) (sS_seq (sS_expr (sE_call (sA_cons (sE_call (sA_cons sE_var fun y93 => (sA_cons sE_c fun y94 => (sA_cons sE_c fun y95 => (sA_nil (sK_call (sim__law_draw _ _ _) (by repeat' (first | exact wk_nil | refine wk_cons ?_ ?_ | exact trivial | exact rfl)))))))) fun y96 => (sA_cons sE_var fun y98 => (sA_cons sE_var fun y99 => (sA_cons sE_c fun y100 => (sA_cons sE_var fun y101 => (sA_cons sE_c fun y102 => (sA_nil (sK_call (sim__law_asked _ _ _ _ _ _) (by repeat' (first | exact wk_nil | refine wk_cons ?_ ?_ | exact trivial | exact rfl)))))))))))) fun _ => (sS_ret capT_L sE_c)) (fun xc fs => (sC_cons (X1 := List.replicate 12 .any) rfl offR_none (sS_nx capN_L (post := (fun (s88 : Unit) => [.is (.sh a0), .is (.sh x1), .is (.sh x9), .is (.sh x14), .tmp, .tmp, .tmp, .is .no, .is .no, .is .no, .is .no, .is .no])) () (by repeat' (first | exact wk_nil | refine wk_cons ?_ ?_ | exact trivial | exact rfl))) (sC_nil (by repeat' (first | exact wk_nil | refine wk_cons ?_ ?_ | exact trivial | exact rfl)))))))) capT_F fun s89 => (sS_sum (post := (fun (s111 : Unit) => [.is (.sh a0), .is (.sh x1), .is (.sh x9), .is (.sh x14), .tmp, .tmp, .tmp, .is .no, .is .no, .is .no, .is .no, .is .no])) (sS_forL (s0 := ()) (post := (fun (s110 : Unit) => [.is (.sh a0), .is (.sh x1), .is (.sh x9), .is (.sh x14), .tmp, .tmp, .tmp, .is .no, .is .no, .is .no, .is .no, .is .no])) (sI_seq (sE_tup (sA_cons sE_var fun y104 => (sA_cons (sE_un sE_c) fun y105 => (sA_cons sE_c fun y107 => (sA_cons sE_c fun y108 => (sA_nil sK_tup))))))) (by repeat' (first | exact wk_nil | refine wk_cons ?_ ?_ | exact trivial | exact rfl)) (fun s110 x112 => sG_1) (fun _ => trivial) kindT_v (fun s110 x112 => (sS_last (sS_sum (post := (fun (s119 : Unit) => [.is (.sh a0), .is (.sh x1), .is (.sh x9), .is (.sh x14), .is (.sh x112), .tmp, .tmp, .is .no, .is .no, .is .no, .is .no, .is .no])) (sS_forL (s0 := ()) (post := (fun (s118 : Unit) => [.is (.sh a0), .is (.sh x1), .is (.sh x9), .is (.sh x14), .is (.sh x112), .tmp, .tmp, .is .no, .is .no, .is .no, .is .no, .is .no])) (sI_seq (sE_tup (sA_cons sE_c fun y114 => (sA_cons sE_c fun y115 => (sA_cons sE_c fun y116 => (sA_nil sK_tup)))))) (by repeat' (first | exact wk_nil | refine wk_cons ?_ ?_ | exact trivial | exact rfl)) (fun s118 x120 => sG_1) (fun _ => trivial) kindT_v (fun s118 x120 => (sS_try (Xb := [.is (.sh a0), .is (.sh x1), .is (.sh x9), .is (.sh x14), .is (.sh x112), .is (.sh x120), .tmp, .is .no, .is .no, .is .no, .is .no, .is .no]) (sS_seq (sS_expr (sE_call (sA_cons sE_var fun y123 => (sA_cons sE_var fun y124 => (sA_cons sE_var fun y125 => (sA_cons sE_var fun y126 => (sA_cons sE_var fun y127 => (sA_cons sE_c fun y128 => (sA_nil (sK_call (sim__law_asked _ _ _ _ _ _) (by repeat' (first | exact wk_nil | refine wk_cons ?_ ?_ | exact trivial | exact rfl)))))))))))) fun _ => (sS_ret capT_L sE_c)) (fun xc fs => (sC_cons (X1 := List.replicate 12 .any) rfl offR_none (sS_nx capN_L (post := (fun (s118 : Unit) => [.is (.sh a0), .is (.sh x1), .is (.sh x9), .is (.sh x14), .is (.sh x112), .tmp, .tmp, .is .no, .is .no, .is .no, .is .no, .is .no])) () (by repeat' (first | exact wk_nil | refine wk_cons ?_ ?_ | exact trivial | exact rfl))) (sC_nil (by repeat' (first | exact wk_nil | refine wk_cons ?_ ?_ | exact trivial | exact rfl)))))))) capT_L fun s119 => (sS_nx capN_L (post := (fun (s110 : Unit) => [.is (.sh a0), .is (.sh x1), .is (.sh x9), .is (.sh x14), .tmp, .tmp, .tmp, .is .no, .is .no, .is .no, .is .no, .is .no])) () (by repeat' (first | exact wk_nil | refine wk_cons ?_ ?_ | exact trivial | exact rfl))))))) capT_F fun s111 => (sS_sum (post := (fun (s148 : Unit) => [.is (.sh a0), .is (.sh x1), .is (.sh x9), .is (.sh x14), .tmp, .tmp, .tmp, .is .no, .is .no, .is .no, .is .no, .is .no])) (sS_forL (s0 := ()) (post := (fun (s147 : Unit) => [.is (.sh a0), .is (.sh x1), .is (.sh x9), .is (.sh x14), .tmp, .tmp, .tmp, .is .no, .is .no, .is .no, .is .no, .is .no])) (sI_seq (sE_tup (sA_cons (sE_lst (sA_nil sK_lst)) fun y131 => (sA_cons sE_c fun y133 => (sA_cons (sE_lst (sA_cons sE_c fun y134 => (sA_cons sE_c fun y135 => (sA_nil sK_lst)))) fun y136 => (sA_cons (sE_lst (sA_cons (sE_tup (sA_cons sE_c fun y138 => (sA_cons sE_c fun y139 => (sA_nil sK_tup)))) fun y140 => (sA_nil sK_lst))) fun y142 => (sA_cons sE_c fun y144 => (sA_cons sE_c fun y145 => (sA_nil sK_tup))))))))) (by repeat' (first | exact wk_nil | refine wk_cons ?_ ?_ | exact trivial | exact rfl)) (fun s147 x149 => sG_1) (fun _ => trivial) kindT_v (fun s147 x149 => (sS_try (Xb := [.is (.sh a0), .is (.sh x1), .is (.sh x9), .is (.sh x14), .is (.sh x149), .tmp, .tmp, .is .no, .is .no, .is .no, .is .no, .is .no]) (sS_seq (sS_expr (sE_call (sA_cons (sE_op sE_c (sE_call (sA_cons sE_var fun y152 => (sA_cons sE_c fun y153 => (sA_cons sE_c fun y154 => (sA_nil (sK_call (sim__law_draw _ _ _) (by repeat' (first | exact wk_nil | refine wk_cons ?_ ?_ | exact trivial | exact rfl))))))))) fun y156 => (sA_cons sE_var fun y158 => (sA_cons sE_var fun y159 => (sA_cons sE_c fun y160 => (sA_cons sE_var fun y161 => (sA_cons sE_c fun y162 => (sA_nil (sK_call (sim__law_asked _ _ _ _ _ _) (by repeat' (first | exact wk_nil | refine wk_cons ?_ ?_ | exact trivial | exact rfl)))))))))))) fun _ => (sS_ret capT_L sE_c)) (fun xc fs => (sC_cons (X1 := List.replicate 12 .any) rfl offR_none (sS_nx capN_L (post := (fun (s147 : Unit) => [.is (.sh a0), .is (.sh x1), .is (.sh x9), .is (.sh x14), .tmp, .tmp, .tmp, .is .no, .is .no, .is .no, .is .no, .is .no])) () (by repeat' (first | exact wk_nil | refine wk_cons ?_ ?_ | exact trivial | exact rfl))) (sC_nil (by repeat' (first | exact wk_nil | refine wk_cons ?_ ?_ | exact trivial | exact rfl)))))))) capT_F fun s148 => (sS_sum (post := (fun (s171 : Unit) => [.is (.sh a0), .is (.sh x1), .is (.sh x9), .is (.sh x14), .tmp, .tmp, .tmp, .is .no, .is .no, .is .no, .is .no, .is .no])) (sS_forL (s0 := ()) (post := (fun (s170 : Unit) => [.is (.sh a0), .is (.sh x1), .is (.sh x9), .is (.sh x14), .tmp, .tmp, .tmp, .is .no, .is .no, .is .no, .is .no, .is .no])) (sI_seq (sE_tup (sA_cons (sE_un sE_c) fun y164 => (sA_cons sE_c fun y166 => (sA_cons sE_c fun y167 => (sA_cons sE_c fun y168 => (sA_nil sK_tup))))))) (by repeat' (first | exact wk_nil | refine wk_cons ?_ ?_ | exact trivial | exact rfl)) (fun s170 x172 => sG_1) (fun _ => trivial) kindT_v (fun s170 x172 => (sS_try (Xb := [.is (.sh a0), .is (.sh x1), .is (.sh x9), .is (.sh x14), .is (.sh x172), .tmp, .tmp, .is .no, .is .no, .is .no, .is .no, .is .no]) (sS_seq (sS_expr (sE_call (sA_cons (sE_op (sE_tup (sA_cons sE_c fun y175 => (sA_cons sE_c fun y176 => (sA_cons sE_c fun y177 => (sA_nil sK_tup))))) (sE_call (sA_cons sE_var fun y178 => (sA_cons sE_c fun y179 => (sA_cons sE_c fun y180 => (sA_nil (sK_call (sim__law_draw _ _ _) (by repeat' (first | exact wk_nil | refine wk_cons ?_ ?_ | exact trivial | exact rfl))))))))) fun y183 => (sA_cons sE_var fun y185 => (sA_cons sE_var fun y186 => (sA_cons sE_c fun y187 => (sA_cons sE_var fun y188 => (sA_cons sE_var fun y189 => (sA_nil (sK_call (sim__law_asked _ _ _ _ _ _) (by repeat' (first | exact wk_nil | refine wk_cons ?_ ?_ | exact trivial | exact rfl)))))))))))) fun _ => (sS_ret capT_L sE_c)) (fun xc fs => (sC_cons (X1 := List.replicate 12 .any) rfl offR_none (sS_nx capN_L (post := (fun (s170 : Unit) => [.is (.sh a0), .is (.sh x1), .is (.sh x9), .is (.sh x14), .tmp, .tmp, .tmp, .is .no, .is .no, .is .no, .is .no, .is .no])) () (by repeat' (first | exact wk_nil | refine wk_cons ?_ ?_ | exact trivial | exact rfl))) (sC_nil (by repeat' (first | exact wk_nil | refine wk_cons ?_ ?_ | exact trivial | exact rfl)))))))) capT_F fun s171 => (sS_sum (post := (fun (s203 : Unit) => [.is (.sh a0), .is (.sh x1), .is (.sh x9), .is (.sh x14), .tmp, .tmp, .tmp, .is .no, .is .no, .is .no, .is .no, .is .no])) (sS_forL (s0 := ()) (post := (fun (s202 : Unit) => [.is (.sh a0), .is (.sh x1), .is (.sh x9), .is (.sh x14), .tmp, .tmp, .tmp, .is .no, .is .no, .is .no, .is .no, .is .no])) (sI_seq (sE_tup (sA_cons (sE_tup (sA_cons sE_c fun y191 => (sA_nil sK_tup))) fun y192 => (sA_cons sE_c fun y194 => (sA_cons sE_c fun y195 => (sA_cons sE_c fun y196 => (sA_cons sE_c fun y197 => (sA_cons (sE_lst (sA_cons sE_c fun y198 => (sA_nil sK_lst))) fun y199 => (sA_nil sK_tup))))))))) (by repeat' (first | exact wk_nil | refine wk_cons ?_ ?_ | exact trivial | exact rfl)) (fun s202 x204 => sG_1) (fun _ => trivial) kindT_v (fun s202 x204 => (sS_try (Xb := [.is (.sh a0), .is (.sh x1), .is (.sh x9), .is (.sh x14), .is (.sh x204), .tmp, .tmp, .is .no, .is .no, .is .no, .is .no, .is .no]) (sS_seq (sS_expr (sE_call (sA_cons (sE_new (sA_cons (sE_slL (sE_lst (sA_cons (sE_tup (sA_cons sE_c fun y207 => (sA_nil sK_tup))) fun y208 => (sA_cons (sE_tup (sA_cons sE_c fun y210 => (sA_cons sE_c fun y211 => (sA_cons sE_c fun y212 => (sA_nil sK_tup))))) fun y213 => (sA_nil sK_lst)))) sP_no (sP_at (sE_call (sA_cons sE_var fun y215 => (sA_cons sE_c fun y216 => (sA_cons sE_c fun y217 => (sA_nil (sK_call (sim__law_draw _ _ _) (by repeat' (first | exact wk_nil | refine wk_cons ?_ ?_ | exact trivial | exact rfl)))))))))) fun y221 => (sA_nil (sK_new (p := fun s223 => p_Program___init__ s223 y221) (sim_Program___init__ _ _) (by repeat' (first | exact wk_nil | refine wk_cons ?_ ?_ | exact trivial | exact rfl)))))) fun y224 => (sA_cons sE_var fun y226 => (sA_cons sE_c fun y227 => (sA_nil (sK_call (sim_recurrence _ _ _) (by repeat' (first | exact wk_nil | refine wk_cons ?_ ?_ | exact trivial | exact rfl))))))))) fun _ => (sS_ret capT_L sE_c)) (fun xc fs => (sC_cons (X1 := List.replicate 12 .any) rfl offR_none (sS_nx capN_L (post := (fun (s202 : Unit) => [.is (.sh a0), .is (.sh x1), .is (.sh x9), .is (.sh x14), .tmp, .tmp, .tmp, .is .no, .is .no, .is .no, .is .no, .is .no])) () (by repeat' (first | exact wk_nil | refine wk_cons ?_ ?_ | exact trivial | exact rfl))) (sC_nil (by repeat' (first | exact wk_nil | refine wk_cons ?_ ?_ | exact trivial | exact rfl)))))))) capT_F fun s203 => (sS_seq (sS_par (sE_new (sA_cons (sE_lst (sA_cons (sE_tup (sA_cons sE_c fun y230 => (sA_nil sK_tup))) fun y231 => (sA_cons (sE_tup (sA_cons sE_c fun y233 => (sA_cons sE_c fun y234 => (sA_cons sE_c fun y235 => (sA_nil sK_tup))))) fun y236 => (sA_nil sK_lst)))) fun y238 => (sA_nil (sK_new (p := fun s240 => p_Program___init__ s240 y238) (sim_Program___init__ _ _) (wk_any rfl))))) (sE_new (sA_cons (sE_lst (sA_cons (sE_tup (sA_cons sE_c fun y241 => (sA_nil sK_tup))) fun y242 => (sA_nil sK_lst))) fun y244 => (sA_nil (sK_new (p := fun s246 => p_Program___init__ s246 y244) (sim_Program___init__ _ _) (wk_any rfl)))))) fun x229 => (sS_sum (post := (fun (s259 : Unit) => [.is (.sh a0), .is (.sh x1), .is (.sh x9), .is (.sh x14), .tmp, .tmp, .tmp, .is (.sh x229.1), .is (.sh x229.2), .tmp, .tmp, .is .no])) (sS_forL (s0 := ()) (post := (fun (s258 : Unit) => [.is (.sh a0), .is (.sh x1), .is (.sh x9), .is (.sh x14), .tmp, .tmp, .tmp, .is (.sh x229.1), .is (.sh x229.2), .tmp, .tmp, .is .no])) (sI_seq (sE_tup (sA_cons (sE_tup (sA_cons sE_var fun y249 => (sA_cons sE_var fun y250 => (sA_nil sK_tup)))) fun y251 => (sA_cons (sE_tup (sA_cons sE_var fun y253 => (sA_cons sE_var fun y254 => (sA_nil sK_tup)))) fun y255 => (sA_nil sK_tup))))) (by repeat' (first | exact wk_nil | refine wk_cons ?_ ?_ | exact trivial | exact rfl)) (fun s258 x260 => sG_2) (fun _ => opt_noexc) kindT_v (fun s258 b261 => (sS_try (Xb := [.is (.sh a0), .is (.sh x1), .is (.sh x9), .is (.sh x14), .tmp, .tmp, .tmp, .is (.sh x229.1), .is (.sh x229.2), .is (.sh b261.1), .is (.sh b261.2), .is .no]) (sS_seq (sS_expr (sE_call (sA_cons (sE_if (sT_e (sE_op sE_var sE_var)) (sE_call (sA_cons sE_var fun y264 => (sA_cons sE_c fun y265 => (sA_cons sE_c fun y266 => (sA_nil (sK_call (sim__law_draw _ _ _) (by repeat' (first | exact wk_nil | refine wk_cons ?_ ?_ | exact trivial | exact rfl)))))))) (sE_call (sA_cons sE_var fun y267 => (sA_cons sE_c fun y268 => (sA_cons sE_c fun y269 => (sA_nil (sK_call (sim__law_draw _ _ _) (by repeat' (first | exact wk_nil | refine wk_cons ?_ ?_ | exact trivial | exact rfl))))))))) fun y271 => (sA_cons sE_var fun y273 => (sA_cons sE_var fun y274 => (sA_nil (sK_call (sim__law_mixed _ _ _) (by repeat' (first | exact wk_nil | refine wk_cons ?_ ?_ | exact trivial | exact rfl))))))))) fun _ => (sS_ret capT_L sE_c)) (fun xc fs => (sC_cons (X1 := List.replicate 12 .any) rfl offR_none (sS_nx capN_L (post := (fun (s258 : Unit) => [.is (.sh a0), .is (.sh x1), .is (.sh x9), .is (.sh x14), .tmp, .tmp, .tmp, .is (.sh x229.1), .is (.sh x229.2), .tmp, .tmp, .is .no])) () (by repeat' (first | exact wk_nil | refine wk_cons ?_ ?_ | exact trivial | exact rfl))) (sC_nil (by repeat' (first | exact wk_nil | refine wk_cons ?_ ?_ | exact trivial | exact rfl)))))))) capT_F fun s259 => (sS_ret1 capT_F (sE_op (sE_call (sA_cons (sE_op sE_var sE_var) fun y276 => (sA_cons sE_var fun y278 => (sA_cons sE_c fun y279 => (sA_nil (sK_call (sim_lapped _ _ _) (wk_any rfl))))))) (sE_call (sA_cons (sE_new (sA_cons (sE_lst (sA_nil sK_lst)) fun y280 => (sA_nil (sK_new (p := fun s282 => p_Program___init__ s282 y280) (sim_Program___init__ _ _) (wk_any rfl))))) fun y283 => (sA_cons sE_var fun y285 => (sA_cons sE_c fun y286 => (sA_nil (sK_call (sim_lapped _ _ _) (wk_any rfl))))))))))))))))))))
  exact h

end K18
end

section
namespace VL
open PySem (Str)
theorem oEq_int (a b : Int) : oEq (.int a) (.int b) = some (.bl (a == b)) := by simp [oEq, shp, plainD, depD, eqD]
theorem oNe_int (a b : Int) : oNe (.int a) (.int b) = some (.bl (!(a == b))) := by simp [oNe, shp, plainD, depD, eqD]
theorem oNe_str {a b : Str} (ha : shp (.str a) = true) (hb : shp (.str b) = true) : oNe (.str a) (.str b) = some (.bl (!(a == b))) := by unfold oNe; rw [ha, hb]; rfl
theorem oEq_str {a b : Str} (ha : shp (.str a) = true) (hb : shp (.str b) = true) : oEq (.str a) (.str b) = some (.bl (a == b)) := by unfold oEq; rw [ha, hb]; rfl
theorem bools_map (l : List Bool) : bolsOf (l.map D.bl) = some l := by
  induction l with
  | nil => rfl
  | cons x r ih => simp [bolsOf, ih]
theorem oAll_map (l : List Bool) : oAll (.lst (l.map D.bl)) = some (.bl (l.all id)) := by
  show (bolsOf (l.map D.bl)).map _ = _
  rw [bools_map]; rfl
end VL
end

section
namespace VL
open PySem (Str)
variable {α β γ σ τ : Type}
theorem pComp_map {t : D → Rs Bool} {e : D → Rs D} (f : β → D) {P : β → Bool} {g : β → D} : ∀ {l : List β}, (∀ x ∈ l, t (f x) = .ok (P x)) → (∀ x ∈ l, P x = true → e (f x) = .ok (g x)) → pComp t e (l.map f) = .ok ((l.filter P).map g)
  | [], _, _ => rfl
  | x :: xs, ht, he => by
    have ih := pComp_map (l := xs) f (P := P) (g := g) (fun y hy => ht y (List.mem_cons_of_mem _ hy)) (fun y hy => he y (List.mem_cons_of_mem _ hy))
    rw [List.map_cons]
    unfold pComp
    rw [ht x (List.mem_cons_self ..)]
    cases q : P x with
    | true => simp only [he x (List.mem_cons_self ..) q, ih, Rs.bind_ok, List.filter_cons, q, if_true, List.map_cons]
    | false => simp only [ih, List.filter_cons, q]; rfl
theorem pMap_map {e : D → Rs D} (f : β → D) {g : β → D} {l : List β} (he : ∀ x ∈ l, e (f x) = .ok (g x)) : pMap e (l.map f) = .ok (l.map g) := by
  unfold pMap
  rw [pComp_map f (P := fun _ => true) (g := g) (fun _ _ => rfl) (fun x hx _ => he x hx), List.filter_eq_self.mpr (fun _ _ => rfl)]
theorem pFold_map {f : σ → D → Rs σ} (d : β → D) (F : α → β → α) (enc : α → σ) (Inv : α → Prop) : ∀ (l : List β) (a : α), Inv a → (∀ a x, x ∈ l → Inv a → f (enc a) (d x) = .ok (enc (F a x)) ∧ Inv (F a x)) → pFold f (l.map d) (enc a) = .ok (enc (l.foldl F a)) ∧ Inv (l.foldl F a)
  | [], a, h, _ => ⟨rfl, h⟩
  | x :: xs, a, h, hf => by
    obtain ⟨h1, h2⟩ := hf a x (List.mem_cons_self ..) h
    obtain ⟨h3, h4⟩ := pFold_map d F enc Inv xs (F a x) h2 fun a y hy => hf a y (List.mem_cons_of_mem _ hy)
    exact ⟨by rw [List.map_cons]; unfold pFold; rw [h1]; exact h3, h4⟩
theorem pLst_ok {xs : List D} (h : xs.length ≤ 1000000) : pLst xs = .ok (.lst xs) := by unfold pLst; rw [if_pos (by unfold SZ; omega)]
theorem pTup_ok {xs : List D} (h : xs.length ≤ 1000000) : pTup xs = .ok (.tup xs) := by unfold pTup; rw [if_pos (by unfold SZ; omega)]
theorem pWhile_step {t : σ → Rs Bool} {f : σ → Rs σ} {n : Nat} {s s' : σ} (ht : t s = .ok true) (hf : f s = .ok s') : pWhile t f (n + 1) s = pWhile t f n s' := by
  show (t s).bind _ = _
  rw [ht]
  simp only [Rs.bind_ok, if_true, hf]
theorem pWhile_end {t : σ → Rs Bool} {f : σ → Rs σ} {n : Nat} {s : σ} (ht : t s = .ok false) : pWhile t f (n + 1) s = .ok s := by
  show (t s).bind _ = _
  rw [ht]
  rfl
def rOk (i : Int) : Prop := -1000000000 ≤ i ∧ i ≤ 1000000000
@[simp] theorem o_add (i j : Int) : oAdd (.int i) (.int j) = some (.int (i + j)) := id rfl
@[simp] theorem o_sub (i j : Int) : oSub (.int i) (.int j) = some (.int (i - j)) := id rfl
@[simp] theorem o_neg (i : Int) : oNeg (.int i) = some (.int (-i)) := id rfl
@[simp] theorem o_abs (i : Int) : oAbs (.int i) = some (.int (if i < 0 then -i else i)) := id rfl
@[simp] theorem o_lt (i j : Int) : oLt (.int i) (.int j) = some (.bl (decide (i < j))) := id rfl
@[simp] theorem o_le (i j : Int) : oLe (.int i) (.int j) = some (.bl (decide (i ≤ j))) := id rfl
@[simp] theorem o_gt (i j : Int) : oGt (.int i) (.int j) = some (.bl (decide (j < i))) := id rfl
@[simp] theorem o_ge (i j : Int) : oGe (.int i) (.int j) = some (.bl (decide (j ≤ i))) := id rfl
@[simp] theorem o_eqi (i j : Int) : oEq (.int i) (.int j) = some (.bl (i == j)) := oEq_int i j
@[simp] theorem o_nei (i j : Int) : oNe (.int i) (.int j) = some (.bl (!(i == j))) := oNe_int i j
@[simp] theorem o_not (b : Bool) : oNot (.bl b) = some (.bl (!b)) := id rfl
@[simp] theorem o_int (i : Int) : oInt (.int i) = some (.int i) := id rfl
@[simp] theorem o_lenL (xs : List D) : oLen (.lst xs) = some (.int (xs.length : Nat)) := id rfl
@[simp] theorem o_lenT (xs : List D) : oLen (.tup xs) = some (.int (xs.length : Nat)) := id rfl
@[simp] theorem o_lenS (xs : List Int) : oLen (.scr xs) = some (.int (xs.length : Nat)) := id rfl
@[simp] theorem o_listL (xs : List D) : oList (.lst xs) = some (.lst xs) := id rfl
@[simp] theorem o_listT (xs : List D) : oList (.tup xs) = some (.lst xs) := id rfl
@[simp] theorem o_tupL (xs : List D) : oTuple (.lst xs) = some (.tup xs) := id rfl
@[simp] theorem o_tupT (xs : List D) : oTuple (.tup xs) = some (.tup xs) := id rfl
@[simp] theorem it_lst (xs : List D) : itemsD (.lst xs) = some xs := id rfl
@[simp] theorem it_tup (xs : List D) : itemsD (.tup xs) = some xs := id rfl
@[simp] theorem it_scr (xs : List Int) : itemsD (.scr xs) = some (xs.map .int) := id rfl
@[simp] theorem o_idxL (xs : List D) (i : Int) : oIdx (.lst xs) (.int i) = nthD xs i := id rfl
@[simp] theorem o_idxT (xs : List D) (i : Int) : oIdx (.tup xs) (.int i) = nthD xs i := id rfl
@[simp] theorem o_idxS (xs : List Int) (i : Int) : oIdx (.scr xs) (.int i) = nthD (xs.map .int) i := id rfl
@[simp] theorem o_isN_non : oIsN .non .non = some (.bl true) := id rfl
@[simp] theorem o_max2 (i j : Int) : oMax2 (.int i) (.int j) = some (.int (if j > i then j else i)) := id rfl
@[simp] theorem o_min2 (i j : Int) : oMin2 (.int i) (.int j) = some (.int (if j < i then j else i)) := id rfl
theorem o_mod {i j : Int} (h : 0 < j) : oMod (.int i) (.int j) = some (.int (i % j)) := if_pos h
theorem log_small {n : Nat} {k : Nat} (h : n < 2 ^ k) (hk : 0 < k) : n.log2 < k := by
  by_cases z : n = 0
  · subst z; simpa using hk
  · exact (Nat.log2_lt z).mpr h
theorem o_div {i j : Int} (h : 0 < j) (h2 : j.natAbs < 2 ^ 8999) : oDiv (.int i) (.int j) = some (.int (i / j)) := by
  have := log_small h2 (by decide)
  unfold oDiv divOk
  simp only [decide_eq_true h, decide_eq_true (show j.natAbs.log2 < 9000 by omega), Bool.true_or, Bool.and_true, if_true]
theorem o_mul {i j : Int} (h : i.natAbs < 2 ^ 400000) (h2 : j.natAbs < 2 ^ 400000) : oMul (.int i) (.int j) = some (.int (i * j)) := by
  have a := log_small h (by decide)
  have b := log_small h2 (by decide)
  unfold oMul mulOk
  simp only [decide_eq_true (show i.natAbs.log2 + j.natAbs.log2 < 1000000 by omega), if_true]
theorem rng1_ok {j : Int} (h : rOk j) : rng1 (.int j) = some (rngD 0 j) := by
  have := h.1
  have := h.2
  unfold rng1
  exact if_pos (by constructor <;> omega)
def dN (n : Nat) : D := .int (n : Int)
theorem rngD_nat (m : Nat) : rngD 0 (m : Int) = (List.range m).map dN := by
  unfold rngD dN
  simp
theorem nth_nat {xs : List D} {i : Nat} (h : i < xs.length) : nthD xs (i : Int) = some xs[i] := by
  unfold nthD
  rw [if_pos (by omega)]
  simp [h]
theorem nth_map {β : Type} {l : List β} {f : β → D} {i : Nat} (h : i < l.length) : nthD (l.map f) (i : Int) = some (f l[i]) := by
  rw [nth_nat (by simpa using h)]
  simp
end VL
end

section
namespace VL
abbrev Vec := Nat → Rat
def op (w : Nat) (v : Vec) : Vec := fun i => if i + 1 = w ∨ i = w then (v (w - 1) + v w) / 2 else v i
def plays (ws : List Nat) (v : Vec) : Vec := ws.foldl (fun v w => op w v) v
def EqOn (m : Nat) (u v : Vec) : Prop := ∀ i, i < m → u i = v i
theorem EqOn.refl {m : Nat} {u : Vec} : EqOn m u u := fun _ _ => rfl
theorem EqOn.symm {m : Nat} {u v : Vec} (h : EqOn m u v) : EqOn m v u := fun i hi => (h i hi).symm
theorem EqOn.trans {m : Nat} {u v w : Vec} (h : EqOn m u v) (h' : EqOn m v w) : EqOn m u w := fun i hi => (h i hi).trans (h' i hi)
def dot : Nat → Vec → Vec → Rat
  | 0, _, _ => 0
  | m + 1, u, v => dot m u v + u m * v m
def one : Vec := fun _ => 1
def del (b : Nat) : Vec := fun i => if i = b then 1 else 0
def tot (m : Nat) (v : Vec) : Rat := dot m one v
def Zb (b : Nat) (v : Vec) : Prop := ∀ i, i < b → v i = 0
def evF (P : Nat → Bool) (k : Nat) (v : Vec) : Vec := fun i => if P (i + 1) = true ∧ i + 1 < k then (v i + v (i + 1)) / 2 else if P i = true ∧ 1 ≤ i ∧ i < k then (v (i - 1) + v i) / 2 else v i
def Spaced (P : Nat → Bool) : Prop := ∀ w, P w = true → P (w + 1) = false
def evW (P : Nat → Bool) (k : Nat) : List Nat := ((List.range (k - 1)).map (· + 1)).filter P
def Ya (c : Nat) (v : Vec) : Prop := ∀ i, c ≤ i → v i = 0
def mir (m : Nat) (v : Vec) : Vec := fun i => v (m - 1 - i)
end VL
end

section
namespace VL
def opI (w : Nat) (v : Nat → Int) : Nat → Int := fun i => if i + 1 = w ∨ i = w then (v (w - 1) + v w) / 2 else v i
def playsI (ws : List Nat) (v : Nat → Int) : Nat → Int := ws.foldl (fun v w => opI w v) v
def evI (P : Nat → Bool) (k : Nat) (v : Nat → Int) : Nat → Int := fun i => if P (i + 1) = true ∧ i + 1 < k then (v i + v (i + 1)) / 2 else if P i = true ∧ 1 ≤ i ∧ i < k then (v (i - 1) + v i) / 2 else v i
structure Rel (m s k : Nat) (g : Nat → Int) (v : Vec) : Prop where
  q : ∀ i, i < m → (g i : Rat) = v i * (2 ^ s : Nat)
  d : ∀ i, i < m → ∃ c, g i = c * (2 ^ k : Nat)
theorem half_exact {k : Nat} {a b c d : Int} (ha : a = c * (2 ^ (k + 1) : Nat)) (hb : b = d * (2 ^ (k + 1) : Nat)) : (a + b) / 2 = (c + d) * (2 ^ k : Nat) ∧ 2 * ((a + b) / 2) = a + b := by
  have e : a + b = 2 * ((c + d) * (2 ^ k : Nat)) := by
    rw [ha, hb, Nat.pow_succ]
    push_cast
    grind
  rw [e]
  constructor
  · exact Int.mul_ediv_cancel_left _ (by decide)
  · rw [Int.mul_ediv_cancel_left _ (by decide)]
theorem half_rat {a b h : Int} {x y : Rat} {n : Nat} (e : 2 * h = a + b) (hx : (a : Rat) = x * n) (hy : (b : Rat) = y * n) : (h : Rat) = (x + y) / 2 * n := by
  have e2 : ((2 * h : Int) : Rat) = ((a + b : Int) : Rat) := by rw [e]
  rw [Rat.intCast_mul, Rat.intCast_add, hx, hy] at e2
  have : ((2 : Int) : Rat) = 2 := rfl
  rw [this] at e2
  grind
theorem Rel.le {m s k j : Nat} {g : Nat → Int} {v : Vec} (h : Rel m s k g v) (hj : j ≤ k) : Rel m s j g v := ⟨h.q, fun i hi => by
  obtain ⟨c, e⟩ := h.d i hi
  refine ⟨c * (2 ^ (k - j) : Nat), ?_⟩
  rw [e, Int.mul_assoc, ← Int.natCast_mul, ← Nat.pow_add, show k - j + j = k by omega]⟩
theorem Rel.op {m s k w : Nat} {g : Nat → Int} {v : Vec} (h : Rel m s (k + 1) g v) (hw : 1 ≤ w ∧ w < m) : Rel m s k (opI w g) (op w v) := by
  obtain ⟨c, ec⟩ := h.d (w - 1) (by omega)
  obtain ⟨d, ed⟩ := h.d w hw.2
  obtain ⟨h1, h2⟩ := half_exact ec ed
  refine ⟨fun i hi => ?_, fun i hi => ?_⟩
  · by_cases z : i + 1 = w ∨ i = w
    · rw [show opI w g i = (g (w - 1) + g w) / 2 from if_pos z, show VL.op w v i = (v (w - 1) + v w) / 2 from if_pos z]
      exact half_rat h2 (h.q (w - 1) (by omega)) (h.q w hw.2)
    · rw [show opI w g i = g i from if_neg z, show VL.op w v i = v i from if_neg z]
      exact h.q i hi
  · by_cases z : i + 1 = w ∨ i = w
    · rw [show opI w g i = (g (w - 1) + g w) / 2 from if_pos z]; exact ⟨_, h1⟩
    · rw [show opI w g i = g i from if_neg z]; exact (h.le (Nat.le_succ k)).d i hi
theorem Rel.plays {m s k : Nat} : ∀ {ws : List Nat} {g : Nat → Int} {v : Vec}, (∀ w ∈ ws, 1 ≤ w ∧ w < m) → Rel m s (k + ws.length) g v → Rel m s k (playsI ws g) (plays ws v)
  | [], _, _, _, h => h
  | w :: ws, g, v, hw, h => Rel.plays (ws := ws) (fun x hx => hw x (List.mem_cons_of_mem _ hx)) (Rel.op (by rw [List.length_cons] at h; exact h) (hw w (List.mem_cons_self ..)))
theorem Rel.ev {m s k : Nat} {P : Nat → Bool} {g : Nat → Int} {v : Vec} (h : Rel m s (k + 1) g v) : Rel m s k (evI P m g) (evF P m v) := by
  have l := h.le (Nat.le_succ k)
  have step : ∀ i j, i < m → j < m → (((g i + g j) / 2 : Int) : Rat) = (v i + v j) / 2 * (2 ^ s : Nat) ∧ ∃ c, (g i + g j) / 2 = c * ((2 ^ k : Nat) : Int) := fun i j hi hj => by
    obtain ⟨c, ec⟩ := h.d i hi
    obtain ⟨d, ed⟩ := h.d j hj
    obtain ⟨h1, h2⟩ := half_exact ec ed
    exact ⟨half_rat h2 (h.q i hi) (h.q j hj), _, h1⟩
  constructor
  · intro i hi
    unfold evI evF
    by_cases a : P (i + 1) = true ∧ i + 1 < m
    · rw [if_pos a, if_pos a]; exact (step i (i + 1) hi a.2).1
    · rw [if_neg a, if_neg a]
      by_cases b : P i = true ∧ 1 ≤ i ∧ i < m
      · rw [if_pos b, if_pos b]; exact (step (i - 1) i (by omega) hi).1
      · rw [if_neg b, if_neg b]; exact h.q i hi
  · intro i hi
    unfold evI
    by_cases a : P (i + 1) = true ∧ i + 1 < m
    · rw [if_pos a]; exact (step i (i + 1) hi a.2).2
    · rw [if_neg a]
      by_cases b : P i = true ∧ 1 ≤ i ∧ i < m
      · rw [if_pos b]; exact (step (i - 1) i (by omega) hi).2
      · rw [if_neg b]; exact l.d i hi
theorem Rel.init {m s : Nat} {g : Nat → Int} : Rel m s s (fun i => g i * (2 ^ s : Nat)) (fun i => (g i : Rat)) := ⟨fun i _ => by rw [Rat.intCast_mul]; rfl, fun i _ => ⟨g i, rfl⟩⟩
end VL
end

section
set_option maxRecDepth 100000
set_option maxHeartbeats 2000000
namespace K18
open VL PySem
def nf (q : Rat) : D := .tup [.int q.num, .int (q.den : Int)]
theorem common_go {t : D × D → Rs Bool} {f : D × D → Rs (D × D)} (ht : ∀ a b : Nat, t (dN a, dN b) = .ok (decide (b ≠ 0))) (hf : ∀ a b : Nat, 0 < b → f (dN a, dN b) = .ok (dN b, dN (a % b))) : ∀ (k n a b : Nat), b < 2 ^ k → 2 * k + 1 ≤ n → pWhile t f n (dN a, dN b) = .ok (dN (Nat.gcd a b), dN 0)
  | k, 0, a, b, _, h2 => by omega
  | 0, n + 1, a, b, h1, h2 => by
    have : b = 0 := by simpa using h1
    subst this
    rw [pWhile_end (by rw [ht]; rfl), Nat.gcd_zero_right]
  | k + 1, n + 1, a, b, h1, h2 => by
    by_cases z : b = 0
    · subst z
      rw [pWhile_end (by rw [ht]; rfl), Nat.gcd_zero_right]
    · have zp := Nat.pos_of_ne_zero z
      rw [pWhile_step (by rw [ht, decide_eq_true z]) (hf a b zp)]
      have g1 : Nat.gcd a b = Nat.gcd b (a % b) := by rw [Nat.gcd_comm a b, Nat.gcd_rec, Nat.gcd_comm]
      rw [g1]
      by_cases y : a % b = 0
      · rw [y]
        obtain ⟨n', rfl⟩ : ∃ n', n = n' + 1 := ⟨n - 1, by omega⟩
        rw [pWhile_end (by rw [ht]; rfl), Nat.gcd_zero_right]
      · have yp := Nat.pos_of_ne_zero y
        obtain ⟨n', rfl⟩ : ∃ n', n = n' + 1 := ⟨n - 1, by omega⟩
        rw [pWhile_step (by rw [ht, decide_eq_true y]) (hf b (a % b) yp)]
        have g2 : Nat.gcd b (a % b) = Nat.gcd (a % b) (b % (a % b)) := by rw [Nat.gcd_comm b, Nat.gcd_rec, Nat.gcd_comm]
        rw [g2]
        refine common_go ht hf k n' (a % b) (b % (a % b)) ?_ (by omega)
        have l1 := Nat.mod_lt a zp
        have l2 := Nat.mod_lt b yp
        have l3 : b % (a % b) ≤ b - a % b := by
          have := Nat.div_add_mod b (a % b)
          have q : 1 ≤ b / (a % b) := (Nat.le_div_iff_mul_le yp).mpr (by omega)
          have : a % b * 1 ≤ a % b * (b / (a % b)) := Nat.mul_le_mul_left _ q
          omega
        have : 2 ^ (k + 1) = 2 * 2 ^ k := by rw [Nat.pow_succ]; omega
        omega
theorem common_nat (a b : Nat) (h : b < 2 ^ 490) : p_common (dN a) (dN b) = .ok (dN (Nat.gcd a b)) := by
  unfold p_common
  rw [common_go (k := 490) (fun a b => by simp [dN]; by_cases z : b = 0 <;> simp [z]) (fun a b hb => by simp [dN, o_mod (show (0 : Int) < b by omega)]) 1000 a b h (by decide)]
  rfl
theorem abs_nat (n : Int) : oAbs (.int n) = some (dN n.natAbs) := by
  simp only [o_abs, dN]
  congr 2
  omega
theorem nf_of (n : Int) (d : Nat) (hd : 0 < d) : nf ((n : Rat) / d) = .tup [.int (n / (Nat.gcd n.natAbs d : Nat)), .int ((d : Int) / (Nat.gcd n.natAbs d : Nat))] := by
  unfold nf
  rw [← Rat.mkRat_eq_div, Rat.num_mkRat, Rat.den_mkRat, if_neg (by omega), if_neg (by omega), Nat.gcd_comm]
  simp
theorem gcd_small {n : Int} {d : Nat} (hd : 0 < d) (hb : d < 2 ^ 490) : (0 : Int) < (Nat.gcd n.natAbs d : Nat) ∧ ((Nat.gcd n.natAbs d : Nat) : Int).natAbs < 2 ^ 8999 := by
  have h1 := Nat.gcd_pos_of_pos_right n.natAbs hd
  have h2 := Nat.gcd_le_right n.natAbs hd
  refine ⟨by omega, ?_⟩
  have h3 : 2 ^ 490 ≤ 2 ^ 8999 := Nat.pow_le_pow_right (by decide) (by decide)
  rw [Int.natAbs_natCast]
  exact Nat.lt_of_lt_of_le (Nat.lt_of_le_of_lt h2 hb) h3
theorem part_nf (n : Int) (d : Nat) (hd : 0 < d) (hb : d < 2 ^ 490) : p_part (.int n) (.int (d : Int)) = .ok (nf ((n : Rat) / d)) := by
  obtain ⟨g1, g2⟩ := gcd_small (n := n) hd hb
  have hneg : ¬ ((d : Int) < 0) := by omega
  have c := common_nat n.natAbs d hb
  unfold dN at c
  unfold p_part
  simp only [o_lt, Rs.opt_some, Rs.bind_ok, asB_bl, decide_eq_false hneg, Bool.false_eq_true, if_false, abs_nat, dN, c, o_div g1 g2]
  rw [pTup_ok (by simp), nf_of n d hd]
end K18
end

section
set_option maxRecDepth 100000
set_option maxHeartbeats 2000000
namespace K18
open VL PySem
inductive Rd where
  | way (s : Bool) | ev (k r : Nat)
  deriving DecidableEq
def Rd.d : Rd → D
  | .way true => .tup [.str "right"]
  | .way false => .tup [.str "left"]
  | .ev k r => .tup [.str "every", dN k, dN r]
def Rd.ok : Rd → Prop
  | .way _ => True
  | .ev k r => 2 ≤ k ∧ k ≤ 4 ∧ r < k
theorem shp_every : shp (.str "every") = true := by decide +kernel
theorem shp_right : shp (.str "right") = true := by decide +kernel
theorem shp_left : shp (.str "left") = true := by decide +kernel
theorem s_ee : (("every" : Str) == "every") = true := by decide +kernel
theorem s_re : (("right" : Str) == "every") = false := by decide +kernel
theorem s_le : (("left" : Str) == "every") = false := by decide +kernel
theorem s_rr : (("right" : Str) == "right") = true := by decide +kernel
theorem s_lr : (("left" : Str) == "right") = false := by decide +kernel
theorem s_rl : (("right" : Str) == "left") = false := by decide +kernel
theorem s_ll : (("left" : Str) == "left") = true := by decide +kernel
theorem s_er : (("every" : Str) == "right") = false := by decide +kernel
theorem s_el : (("every" : Str) == "left") = false := by decide +kernel
@[simp] theorem ne_ee : oNe (.str "every") (.str "every") = some (.bl false) := by rw [oNe_str shp_every shp_every, s_ee]; rfl
@[simp] theorem ne_re : oNe (.str "right") (.str "every") = some (.bl true) := by rw [oNe_str shp_right shp_every, s_re]; rfl
@[simp] theorem ne_le : oNe (.str "left") (.str "every") = some (.bl true) := by rw [oNe_str shp_left shp_every, s_le]; rfl
@[simp] theorem eq_ee : oEq (.str "every") (.str "every") = some (.bl true) := by rw [oEq_str shp_every shp_every, s_ee]
@[simp] theorem eq_re : oEq (.str "right") (.str "every") = some (.bl false) := by rw [oEq_str shp_right shp_every, s_re]
@[simp] theorem eq_le : oEq (.str "left") (.str "every") = some (.bl false) := by rw [oEq_str shp_left shp_every, s_le]
@[simp] theorem eq_rr : oEq (.str "right") (.str "right") = some (.bl true) := by rw [oEq_str shp_right shp_right, s_rr]
@[simp] theorem eq_lr : oEq (.str "left") (.str "right") = some (.bl false) := by rw [oEq_str shp_left shp_right, s_lr]
@[simp] theorem eq_ll : oEq (.str "left") (.str "left") = some (.bl true) := by rw [oEq_str shp_left shp_left, s_ll]
@[simp] theorem eq_er : oEq (.str "every") (.str "right") = some (.bl false) := by rw [oEq_str shp_every shp_right, s_er]
@[simp] theorem eq_el : oEq (.str "every") (.str "left") = some (.bl false) := by rw [oEq_str shp_every shp_left, s_el]
def Rd.isWay : Rd → Bool
  | .way _ => true
  | _ => false
theorem shp_d (t : Rd) : shp t.d = true := by
  cases t with
  | way s => cases s <;> decide +kernel
  | ev k r =>
    have := shp_every
    unfold shp at this ⊢
    simp only [Bool.and_eq_true, decide_eq_true_eq] at this ⊢
    simp [Rd.d, dN, plainD, plainDs, depD, depDs]
    simpa [plainD] using this.1
theorem shp_ways : shp (.tup [.tup [.str "right"], .tup [.str "left"]]) = true := by decide +kernel
theorem in_ways (t : Rd) : oIn t.d (.tup [.tup [.str "right"], .tup [.str "left"]]) = some (.bl t.isWay) := by
  have e1 := shp_d t
  cases t with
  | way s => cases s <;> (simp only [Rd.d] at e1 ⊢; simp [oIn, e1, shp_ways, eqD, eqDs, s_rr, s_ll, s_rl, s_lr, Rd.isWay])
  | ev k r => simp only [Rd.d] at e1 ⊢; simp [oIn, e1, shp_ways, eqD, eqDs, Rd.isWay]
theorem eq_d (a b : Rd) : eqD a.d b.d = decide (a = b) := by
  cases a with
  | way s =>
    cases b with
    | way u => cases s <;> cases u <;> simp [Rd.d, eqD, eqDs, s_rr, s_ll, s_rl, s_lr]
    | ev k r => cases s <;> simp [Rd.d, eqD, eqDs]
  | ev k r =>
    cases b with
    | way u => cases u <;> simp [Rd.d, eqD, eqDs]
    | ev k' r' =>
      simp only [Rd.d, dN, eqD, eqDs, s_ee, Bool.true_and, Bool.and_true]
      by_cases h : k = k' ∧ r = r'
      · obtain ⟨rfl, rfl⟩ := h; simp
      · have : ¬ (Rd.ev k r = Rd.ev k' r') := fun e => by cases e; exact h ⟨rfl, rfl⟩
        rw [decide_eq_false this]
        simp only [Bool.and_eq_false_iff, beq_eq_false_iff_ne]
        by_cases z : k = k'
        · right; intro e; exact h ⟨z, by omega⟩
        · left; intro e; exact z (by omega)
@[simp] theorem whole_int (i : Int) : p_is_whole (.int i) = .ok (.bl true) := by simp [p_is_whole, isTy, tyName, oNot]
@[simp] theorem whole_nat (i : Nat) : p_is_whole (dN i) = .ok (.bl true) := whole_int i
@[simp] theorem isTy_tup (xs : List D) : isTy ["tuple"] (.tup xs) = some (.bl true) := rfl
@[simp] theorem isTy_lt (xs : List D) : isTy ["list", "tuple"] (.lst xs) = some (.bl true) := by simp [isTy, tyName]
@[simp] theorem isTy_ltt (xs : List D) : isTy ["list", "tuple"] (.tup xs) = some (.bl true) := by simp [isTy, tyName]
theorem round_ok (t : Rd) (h : t.ok) : p_is_round t.d = .ok (.bl true) := by
  have hin := in_ways t
  cases t with
  | way s => cases s <;> (simp only [Rd.d, Rd.isWay] at hin ⊢; simp [p_is_round, pTup, SZ, hin])
  | ev k r =>
    obtain ⟨h1, h2, h3⟩ := h
    simp only [Rd.d, Rd.isWay] at hin ⊢
    have a1 : (2 : Int) ≤ k := by omega
    have a2 : (k : Int) ≤ 4 := by omega
    have a3 : (0 : Int) ≤ r := by omega
    have a4 : (r : Int) < k := by omega
    have n1 : nthD [D.str "every", dN k, dN r] 1 = some (.int k) := rfl
    have n2 : nthD [D.str "every", dN k, dN r] 2 = some (.int r) := rfl
    have n0 : nthD [D.str "every", dN k, dN r] 0 = some (.str "every") := rfl
    simp [p_is_round, pTup, SZ, hin, n0, n1, n2, a1, a2, a3, a4]
def prg (ts : List Rd) : D := .ins 0 [("rounds", .tup (ts.map Rd.d))]
theorem init_ok (ts : List Rd) (x : D) (hx : x = .lst (ts.map Rd.d) ∨ x = .tup (ts.map Rd.d)) (ht : ∀ t ∈ ts, t.ok) (hl : ts.length ≤ 12) : pNew 0 (fun s => p_Program___init__ s x) = .ok (prg ts) := by
  have hz : ¬ (12 : Int) < (ts.length : Int) := by omega
  have hz2 : ¬ 12 < ts.length := by omega
  have lp : pFold (fun (s6 : Unit) x8 => (Rs.opt (un2 x8)).bind fun b9 => (((p_is_round b9.2).bind fun x11 => asB x11).bind fun x12 => Rs.ok (!x12)).bind fun x13 => if x13 then Rs.exc 0 [("place", b9.1)] else Rs.ok ()) (enumD (ts.map Rd.d)) () = .ok () := by
    have e : enumD (ts.map Rd.d) = ts.zipIdx.map fun p => .tup [dN p.2, p.1.d] := by
      unfold enumD
      rw [List.zipIdx_map, List.map_map]
      apply List.map_congr_left
      rintro ⟨t, n⟩ _
      rfl
    rw [e]
    have := pFold_map (f := fun (s6 : Unit) x8 => (Rs.opt (un2 x8)).bind fun b9 => (((p_is_round b9.2).bind fun x11 => asB x11).bind fun x12 => Rs.ok (!x12)).bind fun x13 => if x13 then Rs.exc 0 [("place", b9.1)] else Rs.ok ()) (fun p : Rd × Nat => D.tup [dN p.2, p.1.d]) (fun a _ => a) (fun (a : Unit) => a) (fun _ => True) ts.zipIdx () trivial (by
      rintro a ⟨t, n⟩ hm _
      have htm : t ∈ ts := by
        have := (List.mem_zipIdx hm).2.2
        rw [this]
        exact List.getElem_mem _
      simp [round_ok t (ht t htm)])
    exact this.1
  rcases hx with rfl | rfl <;> simp [pNew, p_Program___init__, hz, hz2, lp, fldPut, putFD, prg]
theorem fld_rounds (ts : List Rd) : fldD "rounds" (prg ts) = some (.tup (ts.map Rd.d)) := by
  unfold prg fldD
  simp [List.lookup]
theorem check_ok (ts : List Rd) : p_check_program (prg ts) = .ok .non := by
  simp [p_check_program, isClG, isCl, is_Program, tabOf, prg, List.lookup]
theorem len_ok (m : Nat) (h : 1 ≤ m) (h' : m ≤ 400) : p_check_length (dN m) = .ok .non := by
  have a1 : (1 : Int) ≤ m := by omega
  have a2 : (m : Int) ≤ 400 := by omega
  simp [p_check_length, dN, a1, a2]
def hv (m : Nat) : Rd → Nat
  | .way _ => m
  | .ev _ _ => 1
def halv (ts : List Rd) (m : Nat) : Nat := (ts.map (hv m)).sum
end K18
end

section
set_option maxRecDepth 100000
set_option maxHeartbeats 2000000
namespace K18
open VL PySem
theorem mod_nat {w k : Nat} (h : 0 < k) : oMod (dN w) (dN k) = some (dN (w % k)) := by
  unfold dN
  rw [o_mod (by omega)]
  rfl
theorem eq_nat {a b : Nat} : oEq (dN a) (dN b) = some (.bl (a == b)) := by
  unfold dN
  rw [o_eqi]
  congr 2
  rw [Bool.eq_iff_iff]
  simp only [beq_iff_eq]
  omega
theorem div_nat {a b : Nat} (h : 0 < b) (hb : b < 2 ^ 64) : oDiv (dN a) (dN b) = some (dN (a / b)) := by
  unfold dN
  have h2 : 2 ^ 64 ≤ 2 ^ 8999 := Nat.pow_le_pow_right (by decide) (by decide)
  rw [o_div (by omega) (by rw [Int.natAbs_natCast]; exact Nat.lt_of_lt_of_le hb h2)]
  simp
theorem add_nat {a b : Nat} : oAdd (dN a) (dN b) = some (dN (a + b)) := by unfold dN; rw [o_add]; simp
def rowD (m : Nat) (g : Nat → Int) : D := .lst ((List.range m).map fun i => .int (g i))
def rowQ (m : Nat) (v : Vec) : D := .tup ((List.range m).map fun i => nf (v i))
abbrev vr (g : Nat → Int) : Vec := fun i => (g i : Rat)
theorem isp_int (i : Int) : p_is_part (.int i) = .ok (.bl true) := by simp [p_is_part, isTy, tyName]
theorem asp_int (i : Int) : p_as_part (.int i) = .ok (nf (i : Rat)) := by
  have : p_part (.int i) (.int 1) = .ok (nf ((i : Rat) / (1 : Nat))) := part_nf i 1 (by decide) (by decide)
  have e : ((i : Rat) / ((1 : Nat) : Rat)) = (i : Rat) := by
    have : ((1 : Nat) : Rat) = 1 := rfl
    rw [this]; grind
  rw [e] at this
  simp [p_as_part, isp_int, isTy, tyName, this]
theorem rng_nat {n : Nat} (h : n ≤ 1000) : rng1 (dN n) = some ((List.range n).map dN) := by rw [show rng1 (dN n) = some (rngD 0 n) from rng1_ok (by unfold rOk; omega), rngD_nat]
theorem vols_ok {m : Nat} {g : Nat → Int} (h1 : 1 ≤ m) (h2 : m ≤ 400) : p_check_volumes (rowD m g) = .ok (rowQ m (vr g)) := by
  have g1 : isTy ["list", "tuple"] (rowD m g) = some (.bl true) := by simp [rowD]
  have g2 : oLen (rowD m g) = some (dN m) := by simp [rowD, dN]
  have g3 : itemsD (rowD m g) = some ((List.range m).map fun i => .int (g i)) := rfl
  unfold p_check_volumes
  simp only [g1, g2, g3, Rs.opt_some, Rs.bind_ok, asB_bl, Bool.not_true, Bool.false_eq_true, if_false]
  rw [pMap_map (fun i => D.int (g i)) (g := fun _ => D.bl true) (fun i _ => isp_int _)]
  simp only [Rs.bind_ok]
  rw [pLst_ok (by simp; omega)]
  have ea : oAll (.lst ((List.range m).map fun _ => D.bl true)) = some (.bl true) := by
    have : ((List.range m).map fun _ => D.bl true) = ((List.range m).map fun _ => true).map D.bl := by rw [List.map_map]; rfl
    rw [this, oAll_map]
    congr 2
    rw [List.all_eq_true]
    intro b hb
    obtain ⟨_, _, rfl⟩ := List.mem_map.mp hb
    rfl
  simp only [Rs.bind_ok, ea, Rs.opt_some, asB_bl, Bool.not_true, Bool.false_eq_true, if_false, len_ok m h1 h2]
  rw [pMap_map (fun i => D.int (g i)) (g := fun i => nf (vr g i)) (fun i _ => asp_int _)]
  simp only [Rs.bind_ok]
  rw [pLst_ok (by simp; omega)]
  rfl
end K18
end

section
set_option maxRecDepth 100000
set_option maxHeartbeats 2000000
namespace K18
open VL PySem
theorem pow10 : oPow (.int 10) (.int 18) = some (.int (10 ^ 18)) := by simp [oPow]
theorem pow97 : oPow (.int 97) (.int 40) = some (.int (97 ^ 40)) := by simp [oPow]
theorem big400 {n : Nat} (h : n < 2 ^ 100) : n < 2 ^ 400000 := Nat.lt_of_lt_of_le h (Nat.pow_le_pow_right (by decide) (by decide))
theorem big8999 {n : Nat} (h : n < 2 ^ 100) : n < 2 ^ 8999 := Nat.lt_of_lt_of_le h (Nat.pow_le_pow_right (by decide) (by decide))
theorem mul_s {i j : Int} (h : i.natAbs < 2 ^ 100) (h2 : j.natAbs < 2 ^ 100) : oMul (.int i) (.int j) = some (.int (i * j)) := o_mul (big400 h) (big400 h2)
theorem div_s {i j : Int} (h : 0 < j) (h2 : j.natAbs < 2 ^ 100) : oDiv (.int i) (.int j) = some (.int (i / j)) := o_div h (big8999 h2)
theorem row_of (ns : List Int) : ∃ ms : List Int, ms ≠ [] ∧ ms.length ≤ 60 ∧ ((((pLst []).bind fun x2 => Rs.opt (oNeS (.scr ns) x2)).bind fun x3 => asB x3).bind fun x6 => if x6 then (asI (.int 60)).bind fun x4 => Rs.opt (slL (.scr ns) none x4) else pLst [(.int 7)]) = .ok (.lst (ms.map .int)) := by
  cases ns with
  | nil => exact ⟨[7], by simp, by simp, by simp [pLst, oNeS]⟩
  | cons a r =>
    refine ⟨(a :: r).take 60, by simp, by simp; omega, ?_⟩
    simp [pLst, oNeS, slL, cutL, bndI, List.map_take]
    have : List.take (min 60 (r.length + 1)) (D.int a :: List.map D.int r) = List.take 60 (D.int a :: List.map D.int r) := List.take_eq_take_iff.mpr (by simp)
    rw [this]; rfl
theorem draw_ex (ns : List Int) (at_ many : Nat) (ha : at_ ≤ 1000) (hm : 0 < many) : ∃ d : Nat, d < many ∧ p__law_draw (.scr ns) (dN at_) (dN many) = .ok (dN d) := by
  obtain ⟨ms, h1, h2, h3⟩ := row_of ns
  have hpos : 0 < ms.length := List.length_pos_iff.mpr h1
  have hlt := Nat.mod_lt at_ hpos
  have fin : ∀ z : Int, ∃ d : Nat, d < many ∧ oMod (.int z) (dN many) = some (dN d) := fun z => by
    have e0 := Int.emod_nonneg z (show (many : Int) ≠ 0 by omega)
    have e1 := Int.emod_lt_of_pos z (show (0 : Int) < many by omega)
    refine ⟨(z % many).toNat, by omega, ?_⟩
    unfold dN
    rw [o_mod (by omega)]
    congr 2
    omega
  have hidx : oIdx (.lst (ms.map D.int)) (dN (at_ % ms.length)) = some (.int ms[at_ % ms.length]) := nth_map hlt
  generalize hc : ms[at_ % ms.length] = c at hidx
  have hlen : oLen (.lst (ms.map D.int)) = some (dN ms.length) := by simp [dN]
  have ht1 : at_ / ms.length ≤ 1000 := Nat.le_trans (Nat.div_le_self _ _) ha
  unfold p__law_draw
  rw [h3]
  simp only [Rs.bind_ok, hlen, Rs.opt_some, mod_nat hpos, hidx, div_nat hpos (show ms.length < 2 ^ 64 by omega), pow10, o_ge, asB_bl, o_int]
  generalize at_ / ms.length = turn at ht1
  by_cases big : (10 : Int) ^ 18 ≤ c
  · rw [if_pos (decide_eq_true big), pow97]
    simp only [Rs.opt_some, Rs.bind_ok]
    rw [o_mod (by decide)]
    simp only [Rs.opt_some, Rs.bind_ok, show (D.int 40) = dN 40 from rfl, mod_nat (show 0 < 40 by decide)]
    have : turn % 40 < 40 := Nat.mod_lt _ (by decide)
    rw [show rng1 (dN (turn % 40)) = some (rngD 0 ((turn % 40 : Nat) : Int)) from rng1_ok (by unfold rOk; omega), rngD_nat]
    simp only [Rs.opt_some, Rs.bind_ok]
    obtain ⟨l, _⟩ := pFold_map (f := fun (s19 : D) x21 => (Rs.opt (oDiv s19 (.int 97))).bind fun x23 => Rs.ok x23) dN (fun (a : Int) _ => a / 97) D.int (fun _ => True) (List.range (turn % 40)) (c % 97 ^ 40) trivial (fun a x _ _ => ⟨by rw [div_s (by decide) (by decide)]; rfl, trivial⟩)
    rw [l]
    simp only [Rs.bind_ok, o_int, Rs.opt_some]
    rw [o_mod (by decide)]
    simp only [Rs.opt_some, Rs.bind_ok]
    obtain ⟨d, hd, e⟩ := fin ((List.range (turn % 40)).foldl (fun (a : Int) _ => a / 97) (c % 97 ^ 40) % 97)
    exact ⟨d, hd, by rw [e]; rfl⟩
  · rw [if_neg (by simpa using big)]
    unfold dN
    have b1 := Int.emod_nonneg (c + 31 * (turn : Int)) (show (1000003 : Int) ≠ 0 by decide)
    have b2 := Int.emod_lt_of_pos (c + 31 * (turn : Int)) (show (0 : Int) < 1000003 by decide)
    rw [mul_s (by decide) (by omega)]
    simp only [Rs.opt_some, Rs.bind_ok, o_add, o_int]
    rw [o_mod (by decide)]
    simp only [Rs.opt_some, Rs.bind_ok]
    rw [mul_s (by decide) (by omega)]
    simp only [Rs.opt_some, Rs.bind_ok, o_add]
    rw [mul_s (by omega) (by decide), div_s (by decide) (by decide)]
    simp only [Rs.opt_some, Rs.bind_ok, o_int]
    rw [o_mod (by decide)]
    simp only [Rs.opt_some, Rs.bind_ok, o_add]
    rw [o_mod (by decide)]
    simp only [Rs.opt_some, Rs.bind_ok]
    have b3 := Int.emod_nonneg (((c + 31 * (turn : Int)) % 1000003 + 977 * (at_ : Int) + 13) * 48271 + c / 1000003 % 999983) (show (2147483647 : Int) ≠ 0 by decide)
    have b4 := Int.emod_lt_of_pos (((c + 31 * (turn : Int)) % 1000003 + 977 * (at_ : Int) + 13) * 48271 + c / 1000003 % 999983) (show (0 : Int) < 2147483647 by decide)
    rw [mul_s (by omega) (by decide)]
    simp only [Rs.opt_some, Rs.bind_ok]
    rw [o_mod (by decide)]
    simp only [Rs.opt_some, Rs.bind_ok, o_int]
    obtain ⟨d, hd, e⟩ := fin ((((c + 31 * (turn : Int)) % 1000003 + 977 * (at_ : Int) + 13) * 48271 + c / 1000003 % 999983) % 2147483647 * 65537 % 4294967291)
    exact ⟨d, hd, by unfold dN at e; rw [e]; rfl⟩
def drw (ns : List Int) (at_ many : Nat) : Nat := match p__law_draw (.scr ns) (dN at_) (dN many) with
  | .ok (.int d) => d.toNat
  | _ => 0
theorem drw_ok (ns : List Int) (at_ many : Nat) (ha : at_ ≤ 1000) (hm : 0 < many) : p__law_draw (.scr ns) (dN at_) (dN many) = .ok (dN (drw ns at_ many)) ∧ drw ns at_ many < many := by
  obtain ⟨d, h1, h2⟩ := draw_ex ns at_ many ha hm
  have : drw ns at_ many = d := by unfold drw; rw [h2]; simp [dN]
  rw [this]
  exact ⟨h2, h1⟩
def wayS (s : Bool) : Str := if s then "right" else "left"
theorem way_d (s : Bool) : D.tup [.str (wayS s)] = (Rd.way s).d := by cases s <;> rfl
theorem set_lst {l : List D} {i : Nat} {d : D} (h : i < l.length) : setD (.lst l) (dN i) d = some (.lst (l.set i d)) := by
  unfold setD dN
  refine (if_pos (by omega)).trans ?_
  rw [Int.toNat_natCast]
theorem lrounds_ex (ns : List Int) (at_ most : Nat) (s : Bool) (h1 : at_ ≤ 900) (hm : most ≤ 50) : ∃ ts : List Rd, (∀ t ∈ ts, t.ok ∧ t ≠ .way (!s)) ∧ ts.length ≤ most ∧ p__law_rounds (.scr ns) (dN at_) (dN most) (.str (wayS s)) = .ok (.lst (ts.map Rd.d)) := by
  have fin : ∀ rs : List Rd, rs.length = 5 → (∀ t ∈ rs, t.ok ∧ t ≠ .way (!s)) → ∃ ts : List Rd, (∀ t ∈ ts, t.ok ∧ t ≠ .way (!s)) ∧ ts.length ≤ most ∧ ((((Rs.opt (oAdd (dN at_) (.int 3))).bind fun x52 => (Rs.opt (oAdd (dN most) (.int 1))).bind fun x54 => p__law_draw (.scr ns) x52 x54).bind fun x55 => Rs.opt (rng1 x55)).bind fun x65 => (pMap (fun x56 => (((Rs.opt (oAdd (dN at_) (.int 4))).bind fun x59 => Rs.opt (oAdd x59 x56)).bind fun x61 => p__law_draw (.scr ns) x61 (.int 5)).bind fun x63 => Rs.opt (oIdx (.lst (rs.map Rd.d)) x63)) x65).bind pLst) = .ok (.lst (ts.map Rd.d)) := by
    intro rs h5 hok
    obtain ⟨e1, l1⟩ := drw_ok ns (at_ + 3) (most + 1) (by omega) (by omega)
    simp only [show (D.int 3) = dN 3 from rfl, show (D.int 1) = dN 1 from rfl, show (D.int 4) = dN 4 from rfl, show (D.int 5) = dN 5 from rfl, add_nat, Rs.opt_some, Rs.bind_ok, e1]
    generalize drw ns (at_ + 3) (most + 1) = n at l1
    rw [show rng1 (dN n) = some (rngD 0 n) from rng1_ok (by unfold rOk; omega), rngD_nat]
    simp only [Rs.opt_some, Rs.bind_ok]
    have pk : ∀ x : Nat, ∃ t : Rd, (t.ok ∧ t ≠ .way (!s)) ∧ (x < n → ((p__law_draw (.scr ns) (dN (at_ + 4 + x)) (dN 5)).bind fun x63 => Rs.opt (oIdx (.lst (rs.map Rd.d)) x63)) = .ok t.d) := by
      intro x
      by_cases hx : x < n
      · obtain ⟨e2, l2⟩ := drw_ok ns (at_ + 4 + x) 5 (by omega) (by decide)
        have hlt : drw ns (at_ + 4 + x) 5 < rs.length := by omega
        refine ⟨rs[drw ns (at_ + 4 + x) 5], hok _ (List.getElem_mem _), fun _ => ?_⟩
        rw [e2]
        simp only [Rs.bind_ok]
        rw [show oIdx (.lst (rs.map Rd.d)) (dN (drw ns (at_ + 4 + x) 5)) = some (rs[drw ns (at_ + 4 + x) 5]).d from nth_map hlt]
        rfl
      · exact ⟨.way s, ⟨trivial, by cases s <;> decide⟩, fun h => absurd h hx⟩
    refine ⟨(List.range n).map fun x => (pk x).choose, ?_, by simp; omega, ?_⟩
    · intro t ht
      obtain ⟨x, hx, rfl⟩ := List.mem_map.mp ht
      exact (pk x).choose_spec.1
    · rw [pMap_map dN (g := fun x => (pk x).choose.d) (fun x hx => (pk x).choose_spec.2 (List.mem_range.mp hx))]
      simp only [Rs.bind_ok]
      rw [pLst_ok (by simp; omega), List.map_map]
      rfl
  have ev2 : ∀ r, r < 2 → (Rd.ev 2 r).ok ∧ Rd.ev 2 r ≠ .way (!s) := fun r h => ⟨⟨by decide, by decide, h⟩, fun e => by cases e⟩
  obtain ⟨e0, l0⟩ := drw_ok ns at_ 4 (by omega) (by decide)
  unfold p__law_rounds
  rw [pTup_ok (by simp), pTup_ok (by simp), pTup_ok (by simp), way_d]
  simp only [Rs.bind_ok]
  rw [pLst_ok (by simp)]
  have rows : D.lst [(Rd.way s).d, .tup [.str "every", .int 2, .int 1], .tup [.str "every", .int 2, .int 0], .tup [.str "every", .int 2, .int 1], .tup [.str "every", .int 2, .int 0]] = .lst ([Rd.way s, .ev 2 1, .ev 2 0, .ev 2 1, .ev 2 0].map Rd.d) := rfl
  rw [rows, show (D.int 4) = dN 4 from rfl]
  simp only [Rs.bind_ok]
  rw [e0]
  simp only [Rs.bind_ok, show (D.int 0) = dN 0 from rfl, eq_nat, Rs.opt_some, asB_bl]
  by_cases z : drw ns at_ 4 = 0
  · rw [if_pos (by simpa using z)]
    obtain ⟨e1, l1⟩ := drw_ok ns (at_ + 1) 2 (by omega) (by decide)
    obtain ⟨e2, l2⟩ := drw_ok ns (at_ + 2) (3 + drw ns (at_ + 1) 2) (by omega) (by omega)
    obtain ⟨ts, t1, t2, t3⟩ := fin [.way s, .ev (3 + drw ns (at_ + 1) 2) (drw ns (at_ + 2) (3 + drw ns (at_ + 1) 2)), .ev 2 0, .ev (3 + drw ns (at_ + 1) 2) (drw ns (at_ + 2) (3 + drw ns (at_ + 1) 2)), .ev 2 0] rfl (by
      intro t ht
      simp only [List.mem_cons, List.not_mem_nil, or_false] at ht
      rcases ht with rfl | rfl | rfl | rfl | rfl
      · exact ⟨trivial, by cases s <;> decide⟩
      · exact ⟨⟨by omega, by omega, by omega⟩, fun e => by cases e⟩
      · exact ev2 0 (by decide)
      · exact ⟨⟨by omega, by omega, by omega⟩, fun e => by cases e⟩
      · exact ev2 0 (by decide))
    refine ⟨ts, t1, t2, ?_⟩
    rw [← t3]
    have x1 : oAdd (dN at_) (.int 1) = some (dN (at_ + 1)) := add_nat
    have x2 : oAdd (dN at_) (.int 2) = some (dN (at_ + 2)) := add_nat
    have x3 : oAdd (.int 3) (dN (drw ns (at_ + 1) 2)) = some (dN (3 + drw ns (at_ + 1) 2)) := add_nat
    have e1' : p__law_draw (.scr ns) (dN (at_ + 1)) (.int 2) = _ := e1
    simp only [x1, x2, Rs.opt_some, Rs.bind_ok, e1', x3, e2]
    rw [pTup_ok (by simp)]
    simp only [Rs.bind_ok]
    rw [show setD (.lst ([Rd.way s, .ev 2 1, .ev 2 0, .ev 2 1, .ev 2 0].map Rd.d)) (.int 1) (.tup [.str "every", dN (3 + drw ns (at_ + 1) 2), dN (drw ns (at_ + 2) (3 + drw ns (at_ + 1) 2))]) = some (.lst ([Rd.way s, .ev (3 + drw ns (at_ + 1) 2) (drw ns (at_ + 2) (3 + drw ns (at_ + 1) 2)), .ev 2 0, .ev 2 1, .ev 2 0].map Rd.d)) from set_lst (i := 1) (by simp)]
    simp only [Rs.opt_some, Rs.bind_ok]
    rw [show oIdx (.lst ([Rd.way s, .ev (3 + drw ns (at_ + 1) 2) (drw ns (at_ + 2) (3 + drw ns (at_ + 1) 2)), .ev 2 0, .ev 2 1, .ev 2 0].map Rd.d)) (.int 1) = some (Rd.ev (3 + drw ns (at_ + 1) 2) (drw ns (at_ + 2) (3 + drw ns (at_ + 1) 2))).d from rfl]
    simp only [Rs.opt_some, Rs.bind_ok]
    rw [show setD (.lst ([Rd.way s, .ev (3 + drw ns (at_ + 1) 2) (drw ns (at_ + 2) (3 + drw ns (at_ + 1) 2)), .ev 2 0, .ev 2 1, .ev 2 0].map Rd.d)) (.int 3) (Rd.ev (3 + drw ns (at_ + 1) 2) (drw ns (at_ + 2) (3 + drw ns (at_ + 1) 2))).d = some (.lst ([Rd.way s, .ev (3 + drw ns (at_ + 1) 2) (drw ns (at_ + 2) (3 + drw ns (at_ + 1) 2)), .ev 2 0, .ev (3 + drw ns (at_ + 1) 2) (drw ns (at_ + 2) (3 + drw ns (at_ + 1) 2)), .ev 2 0].map Rd.d)) from set_lst (i := 3) (by simp)]
    rfl
  · rw [if_neg (by simpa using z)]
    obtain ⟨ts, t1, t2, t3⟩ := fin [.way s, .ev 2 1, .ev 2 0, .ev 2 1, .ev 2 0] rfl (by
      intro t ht
      simp only [List.mem_cons, List.not_mem_nil, or_false] at ht
      rcases ht with rfl | rfl | rfl | rfl | rfl
      · exact ⟨trivial, by cases s <;> decide⟩
      · exact ev2 1 (by decide)
      · exact ev2 0 (by decide)
      · exact ev2 1 (by decide)
      · exact ev2 0 (by decide))
    refine ⟨ts, t1, t2, ?_⟩
    rw [← t3]
    rfl
end K18
end

section
set_option maxRecDepth 100000
set_option maxHeartbeats 2000000
namespace K18
open VL PySem
theorem plain_nfs (l : List Rat) : plainDs (l.map nf) = true ∧ depDs (l.map nf) ≤ 1 := by
  induction l with
  | nil => simp [plainDs, depDs]
  | cons x r ih =>
    have h1 : plainD (nf x) = true := by simp [nf, plainD, plainDs]
    have h2 : depD (nf x) = 1 := by simp [nf, depD, depDs]
    simp only [List.map_cons, plainDs, depDs, h1, h2, ih.1, Bool.true_and, true_and]
    omega
theorem row_nfs (m : Nat) (v : Vec) : rowQ m v = .tup (((List.range m).map v).map nf) := by unfold rowQ; rw [List.map_map]; rfl
theorem row_pd (m : Nat) (v : Vec) : plainD (rowQ m v) = true ∧ depD (rowQ m v) ≤ 2 := by
  have h := plain_nfs ((List.range m).map v)
  rw [row_nfs]
  simp only [plainD, h.1, true_and]
  show depDs _ + 1 ≤ 2
  omega
theorem shp_row (m : Nat) (v : Vec) : shp (rowQ m v) = true := by
  have h := row_pd m v
  simp only [shp, h.1, Bool.true_and, decide_eq_true_eq]
  omega
theorem eq_nf (p q : Rat) : eqD (nf p) (nf q) = decide (p = q) := by
  rw [Bool.eq_iff_iff, decide_eq_true_iff]
  simp only [nf, eqD, eqDs, Bool.and_true, Bool.and_eq_true, beq_iff_eq]
  constructor
  · rintro ⟨a, b⟩
    exact Rat.ext a (by omega)
  · rintro rfl
    exact ⟨rfl, rfl⟩
theorem eqDs_map {β : Type} (f g : β → D) : ∀ l : List β, eqDs (l.map f) (l.map g) = l.all fun x => eqD (f x) (g x)
  | [] => rfl
  | x :: l => by
    rw [List.map_cons, List.map_cons, List.all_cons, ← eqDs_map f g l]
    conv => lhs; unfold eqDs
def eqV (m : Nat) (u v : Vec) : Bool := (List.range m).all fun i => decide (u i = v i)
theorem eq_rowQ (m : Nat) (u v : Vec) : eqD (rowQ m u) (rowQ m v) = eqV m u v := by
  unfold rowQ eqV
  show eqDs _ _ = _
  rw [eqDs_map]
  simp only [eq_nf]
theorem eqV_of {m : Nat} {u v : Vec} (h : EqOn m u v) : eqV m u v = true := by
  unfold eqV
  rw [List.all_eq_true]
  intro i hi
  exact decide_eq_true (h i (List.mem_range.mp hi))
theorem plain_ds : ∀ ts : List Rd, plainDs (ts.map Rd.d) = true ∧ depDs (ts.map Rd.d) ≤ 1
  | [] => by simp [plainDs, depDs]
  | t :: ts => by
    have ih := plain_ds ts
    have h1 : plainD t.d = true := by
      have := shp_d t
      simp only [shp, Bool.and_eq_true] at this
      exact this.1
    have h2 : depD t.d ≤ 1 := by
      cases t with
      | way s => cases s <;> simp [Rd.d, depD, depDs]
      | ev k r => simp [Rd.d, depD, depDs, dN]
    simp only [List.map_cons, plainDs, depDs, h1, ih.1, Bool.true_and, true_and]
    omega
theorem eq_ds (ts : List Rd) : eqDs (ts.map Rd.d) (ts.map Rd.d) = true := by
  rw [eqDs_map]
  simp [eq_d]
theorem oEq_prg (ts : List Rd) : oEq (.tup (ts.map Rd.d)) (.tup (ts.map Rd.d)) = some (.bl true) := by
  have h := plain_ds ts
  have s : shp (.tup (ts.map Rd.d)) = true := by
    simp only [shp, plainD, h.1, Bool.true_and, decide_eq_true_eq]
    show depDs _ + 1 ≤ 60
    omega
  have e : eqD (.tup (ts.map Rd.d)) (.tup (ts.map Rd.d)) = true := eq_ds ts
  unfold oEq
  rw [s, e]
  rfl
theorem eq_fn (a : List Rd) : p_Program___eq__ (prg a) (prg a) = .ok (.bl true) := by
  unfold p_Program___eq__
  have h : isCl is_Program (prg a) = some (.bl true) := by simp [isCl, is_Program, tabOf, prg, List.lookup]
  simp only [h, fld_rounds, Rs.opt_some, Rs.bind_ok, pAndB_t, oEq_prg]
theorem add_fn (a b : List Rd) (ha : ∀ t ∈ a, t.ok) (hb : ∀ t ∈ b, t.ok) (hl : a.length + b.length ≤ 12) : p_Program___add__ (prg a) (prg b) = .ok (prg (a ++ b)) := by
  unfold p_Program___add__
  have h : isCl is_Program (prg b) = some (.bl true) := by simp [isCl, is_Program, tabOf, prg, List.lookup]
  simp only [h, fld_rounds, Rs.opt_some, Rs.bind_ok, asB_bl, Bool.not_true, Bool.false_eq_true, if_false, it_tup, List.append_nil]
  rw [pLst_ok (by simp; omega), ← List.map_append]
  simp only [Rs.bind_ok]
  exact init_ok (a ++ b) _ (.inl rfl) (fun t ht => (List.mem_append.mp ht).elim (ha t) (hb t)) (by simp; omega)
theorem add_prg (a b : List Rd) (ha : ∀ t ∈ a, t.ok) (hb : ∀ t ∈ b, t.ok) (hl : a.length + b.length ≤ 12) : oAddO 0 f_Program___add__ (prg a) (prg b) = some (prg (a ++ b)) := by
  have h := sim_Program___add__ (prg a) (prg b)
  rw [add_fn a b ha hb hl] at h
  obtain ⟨o, h⟩ := h
  unfold oAddO
  simp only [prg] at h ⊢
  rw [if_pos (by simp), h]
end K18
end

section
set_option maxRecDepth 100000
set_option maxHeartbeats 2000000
namespace K18
open VL PySem
inductive Odd : D → Prop where
  | non : Odd .non
  | three : Odd (.int 3)
  | lst (xs : List D) : Odd (.lst xs)
  | tup (xs : List D) : Odd (.tup xs)
  | str (s : Str) : Odd (.str s)
theorem odd_ok {b : D} (h : Odd b) : p_check_program b = .exc 0 [("place", .non)] := by
  cases h <;> simp [p_check_program, isClG, tyName]
section
variable {b a2 a3 a4 a5 : D} {n : Nat}
theorem asked_odd (h : Odd b) (hn : n < 10) : p__law_asked (dN n) b a2 a3 a4 a5 = .exc 0 [("place", .non)] := by
  have e := odd_ok h
  have : n = 0 ∨ n = 1 ∨ n = 2 ∨ n = 3 ∨ n = 4 ∨ n = 5 ∨ n = 6 ∨ n = 7 ∨ n = 8 ∨ n = 9 := by omega
  rcases this with rfl | rfl | rfl | rfl | rfl | rfl | rfl | rfl | rfl | rfl <;>
    simp [p__law_asked, dN, p_gives, p_got, p_is_even_handed, p_stretches, p_left_behind, p_judge_laps, p_lapped, p_lap_limit, p_moved, p_lap_recurrence, e]
theorem prg0 : ((pLst []).bind fun x18 => pNew 0 (fun s19 => p_Program___init__ s19 x18)) = .ok (prg []) := by
  rw [pLst_ok (by simp)]
  exact init_ok [] _ (.inl rfl) (fun t h => nomatch h) (by decide)
theorem shp_ds (ts : List Rd) : shp (.lst (ts.map Rd.d)) = true ∧ shp (.tup (ts.map Rd.d)) = true := by
  have h := plain_ds ts
  constructor <;>
  · simp only [shp, plainD, h.1, Bool.true_and, decide_eq_true_eq]
    show depDs _ + 1 ≤ 60
    omega
theorem any_ds (t : Rd) (ts : List Rd) : ((ts.map Rd.d).any fun y => eqD y t.d) = ts.any fun s => decide (s = t) := by
  rw [List.any_map]
  congr 1
  funext s
  exact eq_d s t
theorem in_lst (t : Rd) (ts : List Rd) : oIn t.d (.lst (ts.map Rd.d)) = some (.bl (ts.any fun s => decide (s = t))) := by
  unfold oIn
  simp only [shp_d, (shp_ds ts).1, Bool.and_true, if_true, any_ds]
theorem in_tup (t : Rd) (ts : List Rd) : oIn t.d (.tup (ts.map Rd.d)) = some (.bl (ts.any fun s => decide (s = t))) := by
  unfold oIn
  simp only [shp_d, (shp_ds ts).2, Bool.and_true, if_true, any_ds]
theorem kinds_one (a : Rd) (ha : a.ok) : p_check_kinds (.lst [a.d]) = .ok .non := by
  have it : enumD [a.d] = [.tup [.int 0, a.d]] := rfl
  have sl : slL (.lst [a.d]) none (some 0) = some (.lst []) := rfl
  have i0 : oIn a.d (.lst []) = some (.bl false) := in_lst a []
  have u : un2 (.tup [.int 0, a.d]) = some (.int 0, a.d) := rfl
  have ai : asI (.int 0) = .ok (some 0) := rfl
  unfold p_check_kinds
  simp [it, pFold, u, round_ok a ha, ai, sl, i0]
theorem kinds_two (a b : Rd) (ha : a.ok) (hb : b.ok) (ne : a ≠ b) : p_check_kinds (.lst [a.d, b.d]) = .ok .non := by
  have it : enumD [a.d, b.d] = [.tup [.int 0, a.d], .tup [.int 1, b.d]] := rfl
  have sl : slL (.lst [a.d, b.d]) none (some 0) = some (.lst []) := rfl
  have sl1 : slL (.lst [a.d, b.d]) none (some 1) = some (.lst [a.d]) := rfl
  have i0 : oIn a.d (.lst []) = some (.bl false) := in_lst a []
  have i1 : oIn b.d (.lst [a.d]) = some (.bl false) := by
    have := in_lst b [a]
    simpa [ne] using this
  have u : un2 (.tup [.int 0, a.d]) = some (.int 0, a.d) := rfl
  have u1 : un2 (.tup [.int 1, b.d]) = some (.int 1, b.d) := rfl
  have ai : asI (.int 0) = .ok (some 0) := rfl
  have ai1 : asI (.int 1) = .ok (some 1) := rfl
  unfold p_check_kinds
  simp [it, pFold, u, u1, round_ok a ha, round_ok b hb, ai, ai1, sl, sl1, i0, i1]
theorem ok21 : (Rd.ev 2 1).ok := ⟨by decide, by decide, by decide⟩
theorem ok20 : (Rd.ev 2 0).ok := ⟨by decide, by decide, by decide⟩
theorem kinds1 : p_check_kinds (.lst [.tup [.str "every", .int 2, .int 1]]) = .ok .non := kinds_one (.ev 2 1) ok21
theorem kinds2 : p_check_kinds (.lst [.tup [.str "every", .int 2, .int 0], .tup [.str "left"]]) = .ok .non := kinds_two (.ev 2 0) (.way false) ok20 trivial (by decide)
theorem kinds3 : p_check_kinds (.lst [.tup [.str "left"], .tup [.str "right"]]) = .ok .non := kinds_two (.way false) (.way true) trivial trivial (by decide)
theorem all_odd (h : Odd b) (ts : List Rd) (ht : ∀ t ∈ ts, t.ok) (hl : ts.length ≤ 12) : p_check_all b (.lst (ts.map Rd.d)) = .exc 0 [("place", .non)] := by
  unfold p_check_all
  rw [init_ok ts _ (.inl rfl) ht hl]
  simp [p_check_programs, odd_ok h]
theorem alone_odd (h : Odd b) (hn : n < 9) : p__law_alone (dN n) b = .exc 0 [("place", .non)] := by
  have e := odd_ok h
  have q := prg0
  have ko := all_odd h [.ev 2 1] (fun t ht => by simp at ht; rw [ht]; exact ⟨by decide, by decide, by decide⟩) (by decide)
  have ko : p_check_all b (.lst [.tup [.str "every", .int 2, .int 1]]) = _ := ko
  have tp : pTup [D.str "every", D.int 2, D.int 1] = .ok (.tup [.str "every", .int 2, .int 1]) := pTup_ok (by simp)
  have tl : pLst [D.tup [.str "every", .int 2, .int 1]] = .ok (.lst [.tup [.str "every", .int 2, .int 1]]) := pLst_ok (by simp)
  have am : p_amounts b (.str "last") (.int 1) (.int 4) = .exc 0 [("place", .non)] := by
    have r : rng2 (.int (1 + 1)) (.int (1 + 1 + 4)) = some [.int 2, .int 3, .int 4, .int 5] := by rfl
    unfold p_amounts
    simp only [o_add, Rs.opt_some, Rs.bind_ok, r]
    unfold pCompX
    rw [if_pos (by simp [SZ])]
    unfold pCx
    simp [p_amount, e]
  have : n = 0 ∨ n = 1 ∨ n = 2 ∨ n = 3 ∨ n = 4 ∨ n = 5 ∨ n = 6 ∨ n = 7 ∨ n = 8 := by omega
  rcases this with rfl | rfl | rfl | rfl | rfl | rfl | rfl | rfl | rfl
  · simp [p__law_alone, dN, p_turned_back, e]
  · simp [p__law_alone, dN, p_tidy_program, p_check_programs, e]
  · simp [p__law_alone, dN, p_judge_even, e]
  · simp [p__law_alone, dN, p_recurrence, e]
  · simp only [p__law_alone, dN, q]; simp [p_judge_programs, p_check_programs, e]
  · simp only [p__law_alone, dN, q]; simp [p_judge_later, p_check_programs, e, check_ok]
  · simp [p__law_alone, dN, p_amount, e]
  · simp [p__law_alone, dN, am]
  · simp only [p__law_alone, dN, tp, Rs.bind_ok, tl]; simp [p_few_rounds, kinds1, ko]
end
section
variable {ts : List Rd} {m n : Nat} {g : Nat → Int} {a2 a3 a4 a5 bad : D}
theorem start_len (h : p_check_length bad = .exc 1 []) (hn : n < 3) : p__law_asked (dN n) (prg ts) bad a3 a4 a5 = .exc 1 [] := by
  have e := check_ok ts
  have : n = 0 ∨ n = 1 ∨ n = 2 := by omega
  rcases this with rfl | rfl | rfl <;> simp [p__law_asked, dN, p_gives, p_got, p_is_even_handed, e, h]
theorem start_basin (h1 : 1 ≤ m) (h2 : m ≤ 400) (h : p_check_basin bad (dN m) = .exc 1 []) (hn : n = 0 ∨ n = 1 ∨ n = 9) : p__law_asked (dN n) (prg ts) (dN m) bad (rowD m g) a5 = .exc 1 [] := by
  have e := check_ok ts
  have l := len_ok m h1 h2
  have v := vols_ok (g := g) h1 h2
  have ol : oLen (rowQ m (vr g)) = some (dN m) := by simp [rowQ, dN]
  rcases hn with rfl | rfl | rfl
  · simp only [p__law_asked, p_gives, e, l, h, show dN 0 = D.int 0 from rfl, o_lt, o_eqi, Rs.opt_some, Rs.bind_ok, asB_bl, Rs.bind_exc]; simp
  · simp only [p__law_asked, p_got, e, l, h, show dN 1 = D.int 1 from rfl, o_lt, o_eqi, Rs.opt_some, Rs.bind_ok, asB_bl, Rs.bind_exc]; simp
  · simp only [p__law_asked, p_lap_recurrence, e, v, ol, h, show dN 9 = D.int 9 from rfl, o_lt, o_eqi, Rs.opt_some, Rs.bind_ok, asB_bl, Rs.bind_exc]; simp
theorem start_vols (h : p_check_volumes bad = .exc 1 []) (hn : n < 4) : p__law_asked (dN (6 + n)) (prg ts) a2 a3 bad a5 = .exc 1 [] := by
  have e := check_ok ts
  have : n = 0 ∨ n = 1 ∨ n = 2 ∨ n = 3 := by omega
  rcases this with rfl | rfl | rfl | rfl <;> simp [p__law_asked, dN, p_lapped, p_lap_limit, p_moved, p_lap_recurrence, e, h]
theorem start_laps (h1 : 1 ≤ m) (h2 : m ≤ 400) (h : p_check_laps bad = .exc 1 []) (hn : n = 4 ∨ n = 6 ∨ n = 8) : p__law_asked (dN n) (prg ts) (dN m) a3 (rowD m g) bad = .exc 1 [] := by
  have e := check_ok ts
  have l := len_ok m h1 h2
  have v := vols_ok (g := g) h1 h2
  have pl : pLst [] = .ok (.lst []) := pLst_ok (by simp)
  rcases hn with rfl | rfl | rfl
  · simp only [p__law_asked, p_left_behind, e, l, h, show dN 4 = D.int 4 from rfl, o_lt, o_eqi, Rs.opt_some, Rs.bind_ok, asB_bl, Rs.bind_exc]; simp
  · simp only [p__law_asked, p_lapped, e, v, h, show dN 6 = D.int 6 from rfl, o_lt, o_eqi, Rs.opt_some, Rs.bind_ok, asB_bl, Rs.bind_exc]; simp
  · simp only [p__law_asked, p_moved, e, v, pl, h, show dN 8 = D.int 8 from rfl, o_lt, o_eqi, Rs.opt_some, Rs.bind_ok, asB_bl, Rs.bind_exc]; simp
theorem basin_m : p_check_basin (dN m) (dN m) = .exc 1 [] := by
  simp [p_check_basin, dN]
end
theorem lens_bad : ∀ x ∈ [D.int 0, .int 401, .non, .bl true, .int (-1), .str "4"], p_check_length x = .exc 1 [] := by
  simp [p_check_length, p_is_whole, isTy, tyName]
theorem basins_bad {m : Nat} : ∀ x ∈ [dN m, .int (-1), .non, .bl true], p_check_basin x (dN m) = .exc 1 [] := by
  intro x hx
  rcases List.mem_cons.mp hx with rfl | hx
  · exact basin_m
  · revert x
    simp [p_check_basin, p_is_whole, isTy, tyName, dN]
theorem vols_bad : ∀ x ∈ [D.lst [], .non, .lst [.int 1, .str "a"], .lst [.tup [.int 1, .int 0]], .int 3, .dic [(.int 1, .int 2)]], p_check_volumes x = .exc 1 [] := by
  intro x hx
  simp only [List.mem_cons, List.not_mem_nil, or_false] at hx
  rcases hx with rfl | rfl | rfl | rfl | rfl | rfl <;> rfl
theorem laps_bad : ∀ x ∈ [D.int (-1), .int 201, .non, .bl true], p_check_laps x = .exc 1 [] := by
  simp [p_check_laps, p_is_whole, isTy, tyName]
theorem ni_start (s : Str) (h : shp (.str s) = true) (e : ([D.str "ones", .str "first", .str "last", .str "stairs"].any fun y => eqD y (.str s)) = false) : oNotIn (.str s) (.tup [.str "ones", .str "first", .str "last", .str "stairs"]) = some (.bl true) := by
  have s2 : shp (.tup [.str "ones", .str "first", .str "last", .str "stairs"]) = true := by decide +kernel
  unfold oNotIn
  simp only [h, s2, e, Bool.and_true, if_true, Bool.not_false]
theorem start_str (s : Str) (h : shp (.str s) = true) (e : ([D.str "ones", .str "first", .str "last", .str "stairs"].any fun y => eqD y (.str s)) = false) : p_check_start (.str s) (.int 0) = .exc 1 [] := by
  simp [p_check_start, isTy, tyName, ni_start s h e]
theorem starts_bad : ∀ x ∈ [D.tup [.str "right"], .str "Ones", .non, .int 3, .str "", .lst [.str "ones"]], p_check_start x (.int 0) = .exc 1 [] := by
  intro x hx
  simp only [List.mem_cons, List.not_mem_nil, or_false] at hx
  rcases hx with rfl | rfl | rfl | rfl | rfl | rfl
  · rfl
  · exact start_str _ (by decide +kernel) (by decide +kernel)
  · rfl
  · rfl
  · exact start_str _ (by decide +kernel) (by decide +kernel)
  · rfl
theorem straight_mix {a b : List Rd} (h1 : Rd.way true ∈ a ++ b) (h2 : Rd.way false ∈ a ++ b) (hl : (a ++ b).length ≤ 1000) : p_straightened (prg a) (prg b) = .exc 3 [] := by
  have i1 := in_tup (.way true) (a ++ b)
  have i2 := in_tup (.way false) (a ++ b)
  rw [List.any_eq_true.mpr ⟨_, h1, by simp⟩] at i1
  rw [List.any_eq_true.mpr ⟨_, h2, by simp⟩] at i2
  have i1 : oIn (.tup [.str "right"]) (.tup ((a ++ b).map Rd.d)) = _ := i1
  have i2 : oIn (.tup [.str "left"]) (.tup ((a ++ b).map Rd.d)) = _ := i2
  unfold p_straightened
  simp only [fld_rounds, Rs.opt_some, Rs.bind_ok, it_tup, List.append_nil]
  rw [← List.map_append, pTup_ok (by rw [List.length_map]; have : (1000 : Nat) ≤ SZ := by decide
                                     omega)]
  simp only [Rs.bind_ok, i1, i2, Rs.opt_some, asB_bl, if_true]
theorem programs_mix {a b : List Rd} (h1 : Rd.way true ∈ a ++ b) (h2 : Rd.way false ∈ a ++ b) (hl : (a ++ b).length ≤ 1000) : p_check_programs (prg a) (prg b) = .exc 3 [] := by
  simp [p_check_programs, check_ok, straight_mix h1 h2 hl]
def RR : List Rd := [.way true, .ev 2 1]
def LL : List Rd := [.way false]
theorem RR_ok : ∀ t ∈ RR, t.ok := fun t ht => by
  simp [RR] at ht
  rcases ht with rfl | rfl
  · trivial
  · exact ok21
theorem LL_ok : ∀ t ∈ LL, t.ok := fun t ht => by
  simp [LL] at ht
  rw [ht]
  trivial
theorem all_mix {a ks : List Rd} (hk : ∀ t ∈ ks, t.ok) (hl : ks.length ≤ 12) (h1 : Rd.way true ∈ a ++ ks) (h2 : Rd.way false ∈ a ++ ks) (h : (a ++ ks).length ≤ 1000) : p_check_all (prg a) (.lst (ks.map Rd.d)) = .exc 3 [] := by
  unfold p_check_all
  rw [init_ok ks _ (.inl rfl) hk hl]
  simp [programs_mix h1 h2 h]
theorem mixed_ok {a b : List Rd} {n : Nat} (ha : ∀ t ∈ a, t.ok) (hb : ∀ t ∈ b, t.ok) (h1 : Rd.way true ∈ a ++ b) (h2 : Rd.way false ∈ a ++ b) (hl : a.length + b.length ≤ 12) (hn : n < 3 ∨ n < 5 ∧ Rd.way true ∈ a) : p__law_mixed (dN n) (prg a) (prg b) = .exc 3 [] := by
  have hl' : (a ++ b).length ≤ 1000 := by rw [List.length_append]; omega
  have e := programs_mix h1 h2 hl'
  have ad := add_prg a b ha hb hl
  have s := programs_mix (a := a ++ b) (b := a ++ b) (List.mem_append_left _ h1) (List.mem_append_left _ h2) (by simp only [List.length_append] at hl' ⊢; omega)
  have : n = 0 ∨ n = 1 ∨ n = 2 ∨ (n = 3 ∨ n = 4) ∧ Rd.way true ∈ a := by
    rcases hn with h | ⟨h, ht⟩
    · have : n = 0 ∨ n = 1 ∨ n = 2 := by omega
      rcases this with h | h | h
      · exact .inl h
      · exact .inr (.inl h)
      · exact .inr (.inr (.inl h))
    · by_cases z : n < 3
      · have : n = 0 ∨ n = 1 ∨ n = 2 := by omega
        rcases this with h | h | h
        · exact .inl h
        · exact .inr (.inl h)
        · exact .inr (.inr (.inl h))
      · exact .inr (.inr (.inr ⟨by omega, ht⟩))
  rcases this with rfl | rfl | rfl | ⟨rfl | rfl, ht⟩
  · simp [p__law_mixed, dN, p_judge_programs, e]
  · simp [p__law_mixed, dN, p_judge_later, e]
  · simp [p__law_mixed, dN, ad, p_tidy_program, s]
  · have k := all_mix (a := a) (ks := [.ev 2 0, .way false]) (fun t ht => by simp at ht; rcases ht with rfl | rfl; exact ok20; trivial) (by decide) (List.mem_append_left _ ht) (by simp) (by simp; omega)
    have k : p_check_all (prg a) (.lst [.tup [.str "every", .int 2, .int 0], .tup [.str "left"]]) = _ := k
    have t1 : pTup [D.str "every", D.int 2, D.int 0] = .ok (.tup [.str "every", .int 2, .int 0]) := pTup_ok (by simp)
    have t2 : pTup [D.str "left"] = .ok (.tup [.str "left"]) := pTup_ok (by simp)
    have t3 : pLst [D.tup [.str "every", .int 2, .int 0], .tup [.str "left"]] = .ok (.lst [.tup [.str "every", .int 2, .int 0], .tup [.str "left"]]) := pLst_ok (by simp)
    simp only [p__law_mixed, dN, t1, t2, t3, Rs.bind_ok]
    simp [p_few_rounds, kinds2, k]
  · have k := all_mix (a := []) (ks := [.way false, .way true]) (fun t ht => by simp at ht; rcases ht with rfl | rfl <;> trivial) (by decide) (by simp) (by simp) (by decide)
    have k : p_check_all (prg []) (.lst [.tup [.str "left"], .tup [.str "right"]]) = _ := k
    have t1 : pTup [D.str "right"] = .ok (.tup [.str "right"]) := pTup_ok (by simp)
    have t2 : pTup [D.str "left"] = .ok (.tup [.str "left"]) := pTup_ok (by simp)
    have t3 : pLst [D.tup [.str "left"], .tup [.str "right"]] = .ok (.lst [.tup [.str "left"], .tup [.str "right"]]) := pLst_ok (by simp)
    simp only [p__law_mixed, dN, t1, t2, t3, Rs.bind_ok, p_different_programs, kinds3, prg0]
    simp [k]
theorem eq_gen (a b : List Rd) (e : oEq (.tup (a.map Rd.d)) (.tup (b.map Rd.d)) = some (.bl false)) : oEqO (tabOf [(0, f_Program___eq__)]) (prg a) (prg b) = some (.bl false) := by
  have q : p_Program___eq__ (prg a) (prg b) = .ok (.bl false) := by
    unfold p_Program___eq__
    have h : isCl is_Program (prg b) = some (.bl true) := by simp [isCl, is_Program, tabOf, prg, List.lookup]
    simp only [h, fld_rounds, Rs.opt_some, Rs.bind_ok, pAndB_t, e]
  have h := sim_Program___eq__ (prg a) (prg b)
  rw [q] at h
  obtain ⟨o, h⟩ := h
  unfold oEqO
  have t : tabOf [(0, f_Program___eq__)] 0 = some f_Program___eq__ := rfl
  simp only [prg, t] at h ⊢
  rw [h]
theorem eqO_same (a : List Rd) : oEqO (tabOf [(0, f_Program___eq__)]) (prg a) (prg a) = some (.bl true) := by
  have h := sim_Program___eq__ (prg a) (prg a)
  rw [eq_fn] at h
  obtain ⟨o, h⟩ := h
  unfold oEqO
  have t : tabOf [(0, f_Program___eq__)] 0 = some f_Program___eq__ := rfl
  simp only [prg, t] at h ⊢
  rw [h]
theorem eqO_LR : oEqO (tabOf [(0, f_Program___eq__)]) (prg LL) (prg RR) = some (.bl false) := eq_gen LL RR (by
  unfold oEq
  simp only [(shp_ds LL).2, (shp_ds RR).2, Bool.and_true, if_true]
  simp [LL, RR, Rd.d, eqD, eqDs, s_lr])
theorem oEq_row (m : Nat) (v : Vec) : oEq (rowQ m v) (rowQ m v) = some (.bl true) := by
  unfold oEq
  rw [shp_row, eq_rowQ, eqV_of EqOn.refl]
  rfl
theorem lapped0 (ts : List Rd) {m : Nat} {g : Nat → Int} (h1 : 1 ≤ m) (h2 : m ≤ 400) : p_lapped (prg ts) (rowD m g) (.int 0) = .ok (rowQ m (vr g)) := by
  have e := check_ok ts
  have v := vols_ok (g := g) h1 h2
  have l : p_check_laps (.int 0) = .ok .non := by rfl
  have r : rng1 (.int 0) = some [] := by rfl
  simp [p_lapped, e, v, l, r, pFold]
end K18
end

section
set_option maxRecDepth 100000
set_option maxHeartbeats 4000000
namespace K18
open VL PySem
theorem bind_of {α β : Type} {x : Rs α} {f : α → Rs β} {a : α} (h : x = .ok a) : x.bind f = f a := by rw [h]; rfl
theorem sum_of {τ β : Type} {p : Rs (Unit ⊕ τ)} {f : τ → β} {q : Unit → Rs β} (h : p = .ok (.inl ())) : p.sum f q = q () := by rw [h, Rs.sum_inl]
theorem loop_all {f : Unit → D → Rs (Lc Unit D)} : ∀ (l : List D), (∀ x ∈ l, f () x = .ok (.go ())) → pLoop f l () = .ok (.inl ())
  | [], _ => rfl
  | x :: l, h => by
    show (f () x).bind _ = _
    rw [h x (List.mem_cons_self ..)]
    exact loop_all l fun y hy => h y (List.mem_cons_of_mem _ hy)
theorem items_loop {p : Rs (List D)} {f : Unit → D → Rs (Lc Unit D)} {l : List D} (hp : p = .ok l) (h : ∀ x ∈ l, f () x = .ok (.go ())) : (p.bind fun x => pLoop f x ()) = .ok (.inl ()) := by
  rw [hp]
  exact loop_all l h
theorem try_bp {p : Rs D} (h : p = .exc 0 [("place", .non)]) : pTry (p.bind fun _ => Rs.ok (.ret (.bl false))) (fun xc fs => pClz ex_BadProgram ((((Rs.opt (lkF fs "place")).bind fun x65 => Rs.opt (oIsNotN x65 .non)).bind fun x66 => asB x66).bind fun x67 => if x67 then Rs.ok (.ret (.bl false)) else Rs.ok (.go ())) (Rs.exc xc fs) xc) = (Rs.ok (.go ()) : Rs (Lc Unit D)) := by
  rw [h, Rs.bind_exc, pTry_exc]
  have e : ex_BadProgram 0 = some true := rfl
  have n : oIsNotN .non .non = some (.bl false) := rfl
  unfold pClz
  simp only [e, lkF_one, Rs.opt_some, Rs.bind_ok, n, asB_bl, Bool.false_eq_true, if_false]
  rfl
theorem try_bs {p : Rs D} (h : p = .exc 1 []) : pTry (p.bind fun _ => Rs.ok (.ret (.bl false))) (fun xc fs => pClz ex_BadStart (Rs.ok (.go ())) (Rs.exc xc fs) xc) = (Rs.ok (.go ()) : Rs (Lc Unit D)) := by
  rw [h]
  rfl
theorem try_mx {p : Rs D} (h : p = .exc 3 []) : pTry (p.bind fun _ => Rs.ok (.ret (.bl false))) (fun xc fs => pClz ex_Mixed (Rs.ok (.go ())) (Rs.exc xc fs) xc) = (Rs.ok (.go ()) : Rs (Lc Unit D)) := by
  rw [h]
  rfl
theorem law_ok (ns : List Int) : p_law (.scr ns) = .ok (.bl true) := by
  obtain ⟨ts, t1, t2, t3⟩ := lrounds_ex ns 10 2 true (by omega) (by omega)
  have t3 : p__law_rounds (.scr ns) (.int 10) (.int 2) (.str "right") = .ok (.lst (ts.map Rd.d)) := t3
  obtain ⟨d0, l0⟩ := drw_ok ns 0 6 (by omega) (by decide)
  obtain ⟨d1, l1⟩ := drw_ok ns 1 10 (by omega) (by decide)
  obtain ⟨d2, l2⟩ := drw_ok ns 2 10 (by omega) (by decide)
  obtain ⟨d3, l3⟩ := drw_ok ns 3 9 (by omega) (by decide)
  obtain ⟨d4, l4⟩ := drw_ok ns 4 3 (by omega) (by decide)
  obtain ⟨d5, l5⟩ := drw_ok ns 5 4 (by omega) (by decide)
  obtain ⟨d6, l6⟩ := drw_ok ns 6 3 (by omega) (by decide)
  obtain ⟨d7, l7⟩ := drw_ok ns 7 5 (by omega) (by decide)
  obtain ⟨d8, l8⟩ := drw_ok ns 8 3 (by omega) (by decide)
  obtain ⟨d9, l9⟩ := drw_ok ns 9 3 (by omega) (by decide)
  have d0 : p__law_draw (.scr ns) (.int 0) (.int 6) = _ := d0
  have d1 : p__law_draw (.scr ns) (.int 1) (.int 10) = _ := d1
  have d2 : p__law_draw (.scr ns) (.int 2) (.int 10) = _ := d2
  have d3 : p__law_draw (.scr ns) (.int 3) (.int 9) = _ := d3
  have d4 : p__law_draw (.scr ns) (.int 4) (.int 3) = _ := d4
  have d5 : p__law_draw (.scr ns) (.int 5) (.int 4) = _ := d5
  have d6 : p__law_draw (.scr ns) (.int 6) (.int 3) = _ := d6
  have d7 : p__law_draw (.scr ns) (.int 7) (.int 5) = _ := d7
  have d8 : p__law_draw (.scr ns) (.int 8) (.int 3) = _ := d8
  have d9 : p__law_draw (.scr ns) (.int 9) (.int 3) = _ := d9
  obtain ⟨m, hm⟩ : ∃ m, m = 1 + drw ns 0 6 := ⟨_, rfl⟩
  obtain ⟨g, hg⟩ : ∃ g : Nat → Int, g = fun i => (drw ns (30 + i) 9 : Int) := ⟨_, rfl⟩
  have m1 : 1 ≤ m := by omega
  have m6 : m ≤ 400 := by omega
  have rows : ((Rs.opt (rng1 (dN m))).bind fun x22 => (pMap (fun x15 => (Rs.opt (oAdd (.int 30) x15)).bind fun x19 => p__law_draw (.scr ns) x19 (.int 9)) x22).bind pLst) = .ok (rowD m g) := by
    rw [rng_nat (by omega)]
    simp only [Rs.opt_some, Rs.bind_ok]
    rw [pMap_map dN (g := fun i => D.int (g i)) (fun i hi => by
      have hi := List.mem_range.mp hi
      obtain ⟨e, _⟩ := drw_ok ns (30 + i) 9 (by omega) (by decide)
      have ad : oAdd (.int 30) (dN i) = some (dN (30 + i)) := by
        rw [show (D.int 30) = dN 30 from rfl, add_nat]
      simp only [ad, Rs.opt_some, Rs.bind_ok]
      rw [show p__law_draw (.scr ns) (dN (30 + i)) (.int 9) = _ from e, hg]
      rfl)]
    simp only [Rs.bind_ok]
    rw [pLst_ok (by simp; omega)]
    rfl
  unfold p_law
  refine (bind_of (a := prg ts) ?_).trans ?_
  · rw [t3]
    simp only [Rs.bind_ok]
    exact init_ok ts _ (.inl rfl) (fun t h => (t1 t h).1) (by omega)
  refine (bind_of (a := dN m) ?_).trans ?_
  · have ad : oAdd (.int 1) (dN (drw ns 0 6)) = some (dN m) := by
      rw [show (D.int 1) = dN 1 from rfl, add_nat, hm]
    simp only [d0, Rs.bind_ok, ad, Rs.opt_some]
  refine (bind_of (a := rowD m g) rows).trans ?_
  -- what is no program
  refine (sum_of (items_loop (l := [.non, .int 3, .lst [.tup [.str "right"]], .tup [.tup [.str "right"]], .str "right"]) (by rfl) fun x hx => ?_)).trans ?_
  · have o : Odd x := by
      simp only [List.mem_cons, List.not_mem_nil, or_false] at hx
      rcases hx with rfl | rfl | rfl | rfl | rfl
      · exact .non
      · exact .three
      · exact .lst _
      · exact .tup _
      · exact .str _
    refine (sum_of (items_loop (l := [dN (drw ns 1 10), dN (drw ns 2 10)]) ?_ fun y hy => ?_)).trans ?_
    · rw [d1, d2]
      simp only [Rs.bind_ok]
      rw [pTup_ok (by simp)]
      rfl
    · obtain ⟨k, hk, rfl⟩ : ∃ k, k < 10 ∧ y = dN k := by
        simp only [List.mem_cons, List.not_mem_nil, or_false] at hy
        rcases hy with rfl | rfl
        · exact ⟨_, l1, rfl⟩
        · exact ⟨_, l2, rfl⟩
      refine try_bp ?_
      rw [pLst_ok (by simp)]
      exact asked_odd o hk
    · refine try_bp ?_
      rw [d3]
      exact alone_odd o l3
  -- lengths
  refine (sum_of (items_loop (l := [D.int 0, .int 401, .non, .bl true, .int (-1), .str "4"]) (by rfl) fun x hx => ?_)).trans ?_
  · refine try_bs ?_
    rw [d4]
    exact start_len (lens_bad x hx) l4
  -- basins
  refine (sum_of (items_loop (l := [dN m, .int (-1), .non, .bl true]) (by rfl) fun x hx => ?_)).trans ?_
  · refine (sum_of (items_loop (l := [dN 0, dN 1, dN 9]) (by rfl) fun y hy => ?_)).trans rfl
    refine try_bs ?_
    obtain ⟨k, hk, rfl⟩ : ∃ k, (k = 0 ∨ k = 1 ∨ k = 9) ∧ y = dN k := by
      simp only [List.mem_cons, List.not_mem_nil, or_false] at hy
      rcases hy with rfl | rfl | rfl
      · exact ⟨0, .inl rfl, rfl⟩
      · exact ⟨1, .inr (.inl rfl), rfl⟩
      · exact ⟨9, .inr (.inr rfl), rfl⟩
    exact start_basin m1 m6 (basins_bad x hx) hk
  -- volumes
  refine (sum_of (items_loop (l := [D.lst [], .non, .lst [.int 1, .str "a"], .lst [.tup [.int 1, .int 0]], .int 3, .dic [(.int 1, .int 2)]]) (by rfl) fun x hx => ?_)).trans ?_
  · refine try_bs ?_
    have ad : oAdd (.int 6) (dN (drw ns 5 4)) = some (dN (6 + drw ns 5 4)) := by
      rw [show (D.int 6) = dN 6 from rfl, add_nat]
    rw [d5]
    simp only [Rs.bind_ok, ad, Rs.opt_some]
    exact start_vols (vols_bad x hx) l5
  -- laps
  refine (sum_of (items_loop (l := [D.int (-1), .int 201, .non, .bl true]) (by rfl) fun x hx => ?_)).trans ?_
  · refine try_bs ?_
    obtain ⟨k, hk, e⟩ : ∃ k, (k = 4 ∨ k = 6 ∨ k = 8) ∧ oIdx (.tup [.int 4, .int 6, .int 8]) (dN (drw ns 6 3)) = some (dN k) := by
      have : drw ns 6 3 = 0 ∨ drw ns 6 3 = 1 ∨ drw ns 6 3 = 2 := by omega
      rcases this with e | e | e <;> rw [e]
      · exact ⟨4, .inl rfl, rfl⟩
      · exact ⟨6, .inr (.inl rfl), rfl⟩
      · exact ⟨8, .inr (.inr rfl), rfl⟩
    rw [pTup_ok (by simp), d6]
    simp only [Rs.bind_ok, e, Rs.opt_some]
    exact start_laps m1 m6 (laps_bad x hx) hk
  -- starts
  refine (sum_of (items_loop (l := [D.tup [.str "right"], .str "Ones", .non, .int 3, .str "", .lst [.str "ones"]]) (by rfl) fun x hx => ?_)).trans ?_
  · refine try_bs ?_
    have sl : slL (.lst [.tup [.str "right"], .tup [.str "every", .int 2, .int 1]]) none (some ((drw ns 9 3 : Nat) : Int)) = some (.lst ((RR.take (drw ns 9 3)).map Rd.d)) := by
      have : drw ns 9 3 = 0 ∨ drw ns 9 3 = 1 ∨ drw ns 9 3 = 2 := by omega
      rcases this with e | e | e <;> rw [e] <;> rfl
    have ai : asI (dN (drw ns 9 3)) = .ok (some ((drw ns 9 3 : Nat) : Int)) := rfl
    have p1 : pTup [D.str "right"] = .ok (.tup [.str "right"]) := pTup_ok (by simp)
    have p2 : pTup [D.str "every", D.int 2, D.int 1] = .ok (.tup [.str "every", .int 2, .int 1]) := pTup_ok (by simp)
    have p3 : pLst [D.tup [.str "right"], .tup [.str "every", .int 2, .int 1]] = .ok (.lst [.tup [.str "right"], .tup [.str "every", .int 2, .int 1]]) := pLst_ok (by simp)
    have it := init_ok (RR.take (drw ns 9 3)) _ (.inl rfl) (fun t h => RR_ok t (List.mem_of_mem_take h)) (by rw [List.length_take]; omega)
    simp only [p1, p2, p3, d9, ai, sl, it, Rs.bind_ok, Rs.opt_some]
    simp only [p_recurrence, check_ok, Rs.bind_ok, starts_bad x hx, Rs.bind_exc]
  -- rounds to both sides
  refine (bind_of (a := (prg RR, prg LL)) ?_).trans ?_
  · have p1 : pTup [D.str "right"] = .ok (.tup [.str "right"]) := pTup_ok (by simp)
    have p2 : pTup [D.str "every", D.int 2, D.int 1] = .ok (.tup [.str "every", .int 2, .int 1]) := pTup_ok (by simp)
    have p3 : pLst [D.tup [.str "right"], .tup [.str "every", .int 2, .int 1]] = .ok (.lst (RR.map Rd.d)) := pLst_ok (by simp)
    have p4 : pTup [D.str "left"] = .ok (.tup [.str "left"]) := pTup_ok (by simp)
    have p5 : pLst [D.tup [.str "left"]] = .ok (.lst (LL.map Rd.d)) := pLst_ok (by simp)
    simp only [p1, p2, p3, p4, p5, Rs.bind_ok, init_ok RR _ (.inl rfl) RR_ok (by decide), init_ok LL _ (.inl rfl) LL_ok (by decide)]
  refine (sum_of (items_loop (l := [.tup [prg RR, prg LL], .tup [prg LL, prg RR]]) (by rfl) fun x hx => ?_)).trans ?_
  · simp only [List.mem_cons, List.not_mem_nil, or_false] at hx
    rcases hx with rfl | rfl
    · refine (bind_of (a := (prg RR, prg LL)) rfl).trans ?_
      refine try_mx ?_
      simp only [eqO_same, Rs.opt_some, Rs.bind_ok, asB_bl, if_true, d7]
      exact mixed_ok RR_ok LL_ok (by simp [RR]) (by simp [LL]) (by decide) (.inr ⟨l7, by simp [RR]⟩)
    · refine (bind_of (a := (prg LL, prg RR)) rfl).trans ?_
      refine try_mx ?_
      simp only [eqO_LR, Rs.opt_some, Rs.bind_ok, asB_bl, Bool.false_eq_true, if_false, d8]
      exact mixed_ok LL_ok RR_ok (by simp [RR]) (by simp [LL]) (by decide) (.inl l8)
  simp only [add_prg LL RR LL_ok RR_ok (by decide), Rs.opt_some, Rs.bind_ok, lapped0 _ m1 m6, prg0, oEq_row]
theorem law_true (ns : List Int) : ∃ r, f_law [.scr ns] = some (.val (.bl true) r) := by
  have h := sim_law (.scr ns)
  rw [law_ok] at h
  exact h
end K18
end

section
set_option maxRecDepth 100000
set_option maxHeartbeats 4000000
namespace K18
open PySem L2 VL
structure Ads where
  a__law_draw : Addr
  d__law_draw : FuncData
  a__law_rounds : Addr
  d__law_rounds : FuncData
  a_is_whole : Addr
  d_is_whole : FuncData
  a_is_round : Addr
  d_is_round : FuncData
  a_Program___init__ : Addr
  d_Program___init__ : FuncData
  a_check_program : Addr
  d_check_program : FuncData
  a_check_length : Addr
  d_check_length : FuncData
  a_check_basin : Addr
  d_check_basin : FuncData
  a_gives : Addr
  d_gives : FuncData
  a_got : Addr
  d_got : FuncData
  a_is_even_handed : Addr
  d_is_even_handed : FuncData
  a_stretches : Addr
  d_stretches : FuncData
  a_check_laps : Addr
  d_check_laps : FuncData
  a_left_behind : Addr
  d_left_behind : FuncData
  a_judge_laps : Addr
  d_judge_laps : FuncData
  a_is_part : Addr
  d_is_part : FuncData
  a_common : Addr
  d_common : FuncData
  a_part : Addr
  d_part : FuncData
  a_as_part : Addr
  d_as_part : FuncData
  a_check_volumes : Addr
  d_check_volumes : FuncData
  a_lapped : Addr
  d_lapped : FuncData
  a_lap_limit : Addr
  d_lap_limit : FuncData
  a_moved : Addr
  d_moved : FuncData
  a_lap_recurrence : Addr
  d_lap_recurrence : FuncData
  a__law_asked : Addr
  d__law_asked : FuncData
  a_turned_back : Addr
  d_turned_back : FuncData
  a_straightened : Addr
  d_straightened : FuncData
  a_check_programs : Addr
  d_check_programs : FuncData
  a_tidy_program : Addr
  d_tidy_program : FuncData
  a_judge_even : Addr
  d_judge_even : FuncData
  a_check_start : Addr
  d_check_start : FuncData
  a_recurrence : Addr
  d_recurrence : FuncData
  a_judge_programs : Addr
  d_judge_programs : FuncData
  a_judge_later : Addr
  d_judge_later : FuncData
  a_amount : Addr
  d_amount : FuncData
  a_amounts : Addr
  d_amounts : FuncData
  a_check_kinds : Addr
  d_check_kinds : FuncData
  a_check_all : Addr
  d_check_all : FuncData
  a_few_rounds : Addr
  d_few_rounds : FuncData
  a__law_alone : Addr
  d__law_alone : FuncData
  a_Program___eq__ : Addr
  d_Program___eq__ : FuncData
  a_Program___add__ : Addr
  d_Program___add__ : FuncData
  a_different_programs : Addr
  d_different_programs : FuncData
  a__law_mixed : Addr
  d__law_mixed : FuncData
  a_law : Addr
  d_law : FuncData
  k_Program : Addr
  k_BadProgram : Addr
  k_BadStart : Addr
  k_BadNumber : Addr
  k_Mixed : Addr
  v_MOST_ROUNDS : V
  u_MOST_ROUNDS : Value
  v_RIGHT : V
  u_RIGHT : Value
  v_LEFT : V
  u_LEFT : Value
  v_MOST_EVERY : V
  u_MOST_EVERY : Value
  v_MOST_LENGTH : V
  u_MOST_LENGTH : Value
  v_MOST_LAPS : V
  u_MOST_LAPS : Value
  v_STARTS : V
  u_STARTS : Value
  v_MOST_KINDS : V
  u_MOST_KINDS : Value
  v_MOST_LONG : V
  u_MOST_LONG : Value
  vd_part_0 : V
def tabF (A : Ads) : Nat → Addr := fun c => match c with
  | _ => A.k_Program
def texF (A : Ads) : Nat → Addr := fun c => match c with
  | 0 => A.k_BadProgram
  | 1 => A.k_BadStart
  | 2 => A.k_BadNumber
  | _ => A.k_Mixed
def tab (A : Ads) (w : World) : TabC := ⟨tabF A, w, texF A⟩
structure Txt (P : Program) (w : World) (K : PySem.W.Frag) (mg : Str → Option Value) (A : Ads) : Prop where
  n_abs : mg "abs" = none
  n_all : mg "all" = none
  n_bool : mg "bool" = none
  n_enumerate : mg "enumerate" = none
  n_int : mg "int" = none
  n_isinstance : mg "isinstance" = none
  n_len : mg "len" = none
  n_list : mg "list" = none
  n_range : mg "range" = none
  n_str : mg "str" = none
  n_tuple : mg "tuple" = none
  F__law_draw : Fun K "_law_draw" "_law_draw" s__law_draw A.a__law_draw A.d__law_draw
  B__law_draw : Binds K A.d__law_draw ["_law_script", "_law_at", "_law_many"] []
  mg__law_draw : mg "_law_draw" = some (.ref A.a__law_draw)
  F__law_rounds : Fun K "_law_rounds" "_law_rounds" s__law_rounds A.a__law_rounds A.d__law_rounds
  B__law_rounds : Binds K A.d__law_rounds ["_law_script", "_law_at", "_law_most", "_law_way"] []
  mg__law_rounds : mg "_law_rounds" = some (.ref A.a__law_rounds)
  F_is_whole : Fun K "is_whole" "is_whole" s_is_whole A.a_is_whole A.d_is_whole
  B_is_whole : Binds K A.d_is_whole ["thing"] []
  mg_is_whole : mg "is_whole" = some (.ref A.a_is_whole)
  F_is_round : Fun K "is_round" "is_round" s_is_round A.a_is_round A.d_is_round
  B_is_round : Binds K A.d_is_round ["thing"] []
  mg_is_round : mg "is_round" = some (.ref A.a_is_round)
  F_Program___init__ : Fun K "__init__" "Program.__init__" s_Program___init__ A.a_Program___init__ A.d_Program___init__
  B_Program___init__ : Binds K A.d_Program___init__ ["self", "rounds"] []
  F_check_program : Fun K "check_program" "check_program" s_check_program A.a_check_program A.d_check_program
  B_check_program : Binds K A.d_check_program ["thing"] []
  mg_check_program : mg "check_program" = some (.ref A.a_check_program)
  F_check_length : Fun K "check_length" "check_length" s_check_length A.a_check_length A.d_check_length
  B_check_length : Binds K A.d_check_length ["many"] []
  mg_check_length : mg "check_length" = some (.ref A.a_check_length)
  F_check_basin : Fun K "check_basin" "check_basin" s_check_basin A.a_check_basin A.d_check_basin
  B_check_basin : Binds K A.d_check_basin ["basin", "many"] []
  mg_check_basin : mg "check_basin" = some (.ref A.a_check_basin)
  F_gives : Fun K "gives" "gives" s_gives A.a_gives A.d_gives
  B_gives : Binds K A.d_gives ["program", "many", "basin"] []
  mg_gives : mg "gives" = some (.ref A.a_gives)
  F_got : Fun K "got" "got" s_got A.a_got A.d_got
  B_got : Binds K A.d_got ["program", "many", "basin"] []
  mg_got : mg "got" = some (.ref A.a_got)
  F_is_even_handed : Fun K "is_even_handed" "is_even_handed" s_is_even_handed A.a_is_even_handed A.d_is_even_handed
  B_is_even_handed : Binds K A.d_is_even_handed ["program", "many"] []
  mg_is_even_handed : mg "is_even_handed" = some (.ref A.a_is_even_handed)
  F_stretches : Fun K "stretches" "stretches" s_stretches A.a_stretches A.d_stretches
  B_stretches : Binds K A.d_stretches ["program", "many"] []
  mg_stretches : mg "stretches" = some (.ref A.a_stretches)
  F_check_laps : Fun K "check_laps" "check_laps" s_check_laps A.a_check_laps A.d_check_laps
  B_check_laps : Binds K A.d_check_laps ["laps"] []
  mg_check_laps : mg "check_laps" = some (.ref A.a_check_laps)
  F_left_behind : Fun K "left_behind" "left_behind" s_left_behind A.a_left_behind A.d_left_behind
  B_left_behind : Binds K A.d_left_behind ["program", "many", "laps"] []
  mg_left_behind : mg "left_behind" = some (.ref A.a_left_behind)
  F_judge_laps : Fun K "judge_laps" "judge_laps" s_judge_laps A.a_judge_laps A.d_judge_laps
  B_judge_laps : Binds K A.d_judge_laps ["program", "many"] []
  mg_judge_laps : mg "judge_laps" = some (.ref A.a_judge_laps)
  F_is_part : Fun K "is_part" "is_part" s_is_part A.a_is_part A.d_is_part
  B_is_part : Binds K A.d_is_part ["thing"] []
  mg_is_part : mg "is_part" = some (.ref A.a_is_part)
  F_common : Fun K "common" "common" s_common A.a_common A.d_common
  B_common : Binds K A.d_common ["one", "other"] []
  mg_common : mg "common" = some (.ref A.a_common)
  F_part : FunS K "part" "part" s_part [A.vd_part_0] A.a_part A.d_part
  qd_part_0 : ∀ B, Rep K (tab A w) B (.int 1) A.vd_part_0
  Bd1_part : ∃ ds, Vals [A.vd_part_0] ds ∧ Binds K A.d_part ["top", "below"] ds
  B_part : Binds K A.d_part ["top", "below"] []
  mg_part : mg "part" = some (.ref A.a_part)
  F_as_part : Fun K "as_part" "as_part" s_as_part A.a_as_part A.d_as_part
  B_as_part : Binds K A.d_as_part ["thing"] []
  mg_as_part : mg "as_part" = some (.ref A.a_as_part)
  F_check_volumes : Fun K "check_volumes" "check_volumes" s_check_volumes A.a_check_volumes A.d_check_volumes
  B_check_volumes : Binds K A.d_check_volumes ["volumes"] []
  mg_check_volumes : mg "check_volumes" = some (.ref A.a_check_volumes)
  F_lapped : Fun K "lapped" "lapped" s_lapped A.a_lapped A.d_lapped
  B_lapped : Binds K A.d_lapped ["program", "volumes", "laps"] []
  mg_lapped : mg "lapped" = some (.ref A.a_lapped)
  F_lap_limit : Fun K "lap_limit" "lap_limit" s_lap_limit A.a_lap_limit A.d_lap_limit
  B_lap_limit : Binds K A.d_lap_limit ["program", "volumes"] []
  mg_lap_limit : mg "lap_limit" = some (.ref A.a_lap_limit)
  F_moved : Fun K "moved" "moved" s_moved A.a_moved A.d_moved
  B_moved : Binds K A.d_moved ["program", "volumes", "laps"] []
  mg_moved : mg "moved" = some (.ref A.a_moved)
  F_lap_recurrence : Fun K "lap_recurrence" "lap_recurrence" s_lap_recurrence A.a_lap_recurrence A.d_lap_recurrence
  B_lap_recurrence : Binds K A.d_lap_recurrence ["program", "volumes", "basin"] []
  mg_lap_recurrence : mg "lap_recurrence" = some (.ref A.a_lap_recurrence)
  F__law_asked : Fun K "_law_asked" "_law_asked" s__law_asked A.a__law_asked A.d__law_asked
  B__law_asked : Binds K A.d__law_asked ["_law_number", "_law_program", "_law_many", "_law_basin", "_law_volumes", "_law_laps"] []
  mg__law_asked : mg "_law_asked" = some (.ref A.a__law_asked)
  F_turned_back : Fun K "turned_back" "turned_back" s_turned_back A.a_turned_back A.d_turned_back
  B_turned_back : Binds K A.d_turned_back ["program"] []
  mg_turned_back : mg "turned_back" = some (.ref A.a_turned_back)
  F_straightened : Fun K "straightened" "straightened" s_straightened A.a_straightened A.d_straightened
  B_straightened : Binds K A.d_straightened ["one", "other"] []
  mg_straightened : mg "straightened" = some (.ref A.a_straightened)
  F_check_programs : Fun K "check_programs" "check_programs" s_check_programs A.a_check_programs A.d_check_programs
  B_check_programs : Binds K A.d_check_programs ["one", "other"] []
  mg_check_programs : mg "check_programs" = some (.ref A.a_check_programs)
  F_tidy_program : Fun K "tidy_program" "tidy_program" s_tidy_program A.a_tidy_program A.d_tidy_program
  B_tidy_program : Binds K A.d_tidy_program ["program"] []
  mg_tidy_program : mg "tidy_program" = some (.ref A.a_tidy_program)
  F_judge_even : Fun K "judge_even" "judge_even" s_judge_even A.a_judge_even A.d_judge_even
  B_judge_even : Binds K A.d_judge_even ["program"] []
  mg_judge_even : mg "judge_even" = some (.ref A.a_judge_even)
  F_check_start : Fun K "check_start" "check_start" s_check_start A.a_check_start A.d_check_start
  B_check_start : Binds K A.d_check_start ["start", "back"] []
  mg_check_start : mg "check_start" = some (.ref A.a_check_start)
  F_recurrence : Fun K "recurrence" "recurrence" s_recurrence A.a_recurrence A.d_recurrence
  B_recurrence : Binds K A.d_recurrence ["program", "start", "back"] []
  mg_recurrence : mg "recurrence" = some (.ref A.a_recurrence)
  F_judge_programs : Fun K "judge_programs" "judge_programs" s_judge_programs A.a_judge_programs A.d_judge_programs
  B_judge_programs : Binds K A.d_judge_programs ["one", "other"] []
  mg_judge_programs : mg "judge_programs" = some (.ref A.a_judge_programs)
  F_judge_later : Fun K "judge_later" "judge_later" s_judge_later A.a_judge_later A.d_judge_later
  B_judge_later : Binds K A.d_judge_later ["one", "other"] []
  mg_judge_later : mg "judge_later" = some (.ref A.a_judge_later)
  F_amount : Fun K "amount" "amount" s_amount A.a_amount A.d_amount
  B_amount : Binds K A.d_amount ["program", "start", "back", "many"] []
  mg_amount : mg "amount" = some (.ref A.a_amount)
  F_amounts : Fun K "amounts" "amounts" s_amounts A.a_amounts A.d_amounts
  B_amounts : Binds K A.d_amounts ["program", "start", "back", "most"] []
  mg_amounts : mg "amounts" = some (.ref A.a_amounts)
  F_check_kinds : Fun K "check_kinds" "check_kinds" s_check_kinds A.a_check_kinds A.d_check_kinds
  B_check_kinds : Binds K A.d_check_kinds ["kinds"] []
  mg_check_kinds : mg "check_kinds" = some (.ref A.a_check_kinds)
  F_check_all : Fun K "check_all" "check_all" s_check_all A.a_check_all A.d_check_all
  B_check_all : Binds K A.d_check_all ["program", "kinds"] []
  mg_check_all : mg "check_all" = some (.ref A.a_check_all)
  F_few_rounds : Fun K "few_rounds" "few_rounds" s_few_rounds A.a_few_rounds A.d_few_rounds
  B_few_rounds : Binds K A.d_few_rounds ["program", "kinds"] []
  mg_few_rounds : mg "few_rounds" = some (.ref A.a_few_rounds)
  F__law_alone : Fun K "_law_alone" "_law_alone" s__law_alone A.a__law_alone A.d__law_alone
  B__law_alone : Binds K A.d__law_alone ["_law_number", "_law_program"] []
  mg__law_alone : mg "_law_alone" = some (.ref A.a__law_alone)
  F_Program___eq__ : Fun K "__eq__" "Program.__eq__" s_Program___eq__ A.a_Program___eq__ A.d_Program___eq__
  B_Program___eq__ : Binds K A.d_Program___eq__ ["self", "other"] []
  F_Program___add__ : Fun K "__add__" "Program.__add__" s_Program___add__ A.a_Program___add__ A.d_Program___add__
  B_Program___add__ : Binds K A.d_Program___add__ ["self", "other"] []
  F_different_programs : Fun K "different_programs" "different_programs" s_different_programs A.a_different_programs A.d_different_programs
  B_different_programs : Binds K A.d_different_programs ["kinds", "longest"] []
  mg_different_programs : mg "different_programs" = some (.ref A.a_different_programs)
  F__law_mixed : Fun K "_law_mixed" "_law_mixed" s__law_mixed A.a__law_mixed A.d__law_mixed
  B__law_mixed : Binds K A.d__law_mixed ["_law_number", "_law_one", "_law_other"] []
  mg__law_mixed : mg "_law_mixed" = some (.ref A.a__law_mixed)
  F_law : Fun K "law" "law" s_law A.a_law A.d_law
  B_law : Binds K A.d_law ["_law_script"] []
  cl_Program : Cls K (tab A w 0)
  mg_Program : mg "Program" = some (.ref (tab A w 0))
  mk_Program : Mk K (tab A w 0) A.a_Program___init__
  me_Program___add__ : Meth K (tab A w 0) "__add__" A.a_Program___add__
  me_Program___eq__ : Meth K (tab A w 0) "__eq__" A.a_Program___eq__
  sf_Program : PySem.W.selfFirst K (tab A w 0) = true
  nf_Program_Program : PySem.W.notFirst K (tab A w 0) (.ref (tab A w 0)) = true
  at_rounds : ∀ c, Cls K (tab A w c) ∧ NoAttr K (tab A w c) "rounds"
  is_Program : ∀ c b, is_Program c = some b → ClsI K (tab A w c) ∧ PySem.W.kitOne K (.ref (tab A w c)) (.ref (tab A w 0)) = some b
  ni_Program : NoInst K (tab A w 0)
  mg_BadProgram : mg "BadProgram" = some (.ref ((tab A w).ex 0))
  su_BadProgram : ∀ base, SupAt P w K mg base (tab A w) 0 "BadProgram" "place" 1
  em_BadProgram : ∀ n t, ex_BadProgram n = some t → PySem.W.exmOne K (.ref ((tab A w).ex n)) (.ref ((tab A w).ex 0)) = some t
  mg_BadStart : mg "BadStart" = some (.ref ((tab A w).ex 1))
  xc_BadStart : ∀ X : Cx, X.K = K → X.mg = mg → ExCls X (tab A w) 1 "BadStart" "ValueError" "ValueError.__new__" "ValueError.__init__" veMro
  em_BadStart : ∀ n t, ex_BadStart n = some t → PySem.W.exmOne K (.ref ((tab A w).ex n)) (.ref ((tab A w).ex 1)) = some t
  mg_BadNumber : mg "BadNumber" = some (.ref ((tab A w).ex 2))
  xc_BadNumber : ∀ X : Cx, X.K = K → X.mg = mg → ExCls X (tab A w) 2 "BadNumber" "ValueError" "ValueError.__new__" "ValueError.__init__" veMro
  mg_Mixed : mg "Mixed" = some (.ref ((tab A w).ex 3))
  xc_Mixed : ∀ X : Cx, X.K = K → X.mg = mg → ExCls X (tab A w) 3 "Mixed" "ValueError" "ValueError.__new__" "ValueError.__init__" veMro
  em_Mixed : ∀ n t, ex_Mixed n = some t → PySem.W.exmOne K (.ref ((tab A w).ex n)) (.ref ((tab A w).ex 3)) = some t
  xf_BadProgram : XfC K ((tab A w).ex 0)
  xn_BadProgram_place : PySem.W.findIn K (.ref ((tab A w).ex 0)) "place" = some none
  mg_MOST_ROUNDS : mg "MOST_ROUNDS" = some A.u_MOST_ROUNDS
  r_MOST_ROUNDS : RelV A.v_MOST_ROUNDS A.u_MOST_ROUNDS
  q_MOST_ROUNDS : ∀ B, Rep K (tab A w) B (.int 12) A.v_MOST_ROUNDS
  mg_RIGHT : mg "RIGHT" = some A.u_RIGHT
  r_RIGHT : RelV A.v_RIGHT A.u_RIGHT
  q_RIGHT : ∀ B, Rep K (tab A w) B (.tup [(.str "right")]) A.v_RIGHT
  mg_LEFT : mg "LEFT" = some A.u_LEFT
  r_LEFT : RelV A.v_LEFT A.u_LEFT
  q_LEFT : ∀ B, Rep K (tab A w) B (.tup [(.str "left")]) A.v_LEFT
  mg_MOST_EVERY : mg "MOST_EVERY" = some A.u_MOST_EVERY
  r_MOST_EVERY : RelV A.v_MOST_EVERY A.u_MOST_EVERY
  q_MOST_EVERY : ∀ B, Rep K (tab A w) B (.int 4) A.v_MOST_EVERY
  mg_MOST_LENGTH : mg "MOST_LENGTH" = some A.u_MOST_LENGTH
  r_MOST_LENGTH : RelV A.v_MOST_LENGTH A.u_MOST_LENGTH
  q_MOST_LENGTH : ∀ B, Rep K (tab A w) B (.int 400) A.v_MOST_LENGTH
  mg_MOST_LAPS : mg "MOST_LAPS" = some A.u_MOST_LAPS
  r_MOST_LAPS : RelV A.v_MOST_LAPS A.u_MOST_LAPS
  q_MOST_LAPS : ∀ B, Rep K (tab A w) B (.int 200) A.v_MOST_LAPS
  mg_STARTS : mg "STARTS" = some A.u_STARTS
  r_STARTS : RelV A.v_STARTS A.u_STARTS
  q_STARTS : ∀ B, Rep K (tab A w) B (.tup [(.str "ones"), (.str "first"), (.str "last"), (.str "stairs")]) A.v_STARTS
  mg_MOST_KINDS : mg "MOST_KINDS" = some A.u_MOST_KINDS
  r_MOST_KINDS : RelV A.v_MOST_KINDS A.u_MOST_KINDS
  q_MOST_KINDS : ∀ B, Rep K (tab A w) B (.int 5) A.v_MOST_KINDS
  mg_MOST_LONG : mg "MOST_LONG" = some A.u_MOST_LONG
  r_MOST_LONG : RelV A.v_MOST_LONG A.u_MOST_LONG
  q_MOST_LONG : ∀ B, Rep K (tab A w) B (.int 3) A.v_MOST_LONG
section
variable {P : Program} {w : World} {K : PySem.W.Frag} {mg : Str → Option Value} {base : Heap}
theorem sc__law_draw : FnScope ["_law_script", "_law_at", "_law_many", "_law_row", "_law_cell", "_law_turn", "_law_step", "_law_mixed_here"] ["_law_script", "_law_at", "_law_many"] (defScope s__law_draw) := ⟨rfl, rfl, rfl, by decide +kernel, rfl, by decide +kernel, by decide +kernel⟩
theorem fk__law_draw {A : Ads} (T : Txt P w K mg A) : FnOk P w K mg base (L2.CX P w) 1 A.a__law_draw A.d__law_draw ["_law_script", "_law_at", "_law_many"] (spV K (tab A w) false f__law_draw) := by
  have nd := sc__law_draw.nd
  have h := fn_val (P := P) (w := w) (mg := mg) (base := base) (T := tab A w) (k := 0) (fresh := false) (b := b__law_draw) T.F__law_draw sc__law_draw (fun cdv Ar outer s H E hr => by
    have tk : Takes (defCx P w K mg base ["_law_script", "_law_at", "_law_many", "_law_row", "_law_cell", "_law_turn", "_law_step", "_law_mixed_here"] "_law_draw" s__law_draw A.a__law_draw cdv Ar outer s H E) (defW E) := takes_of rfl rfl rfl rfl
    have ow : PassesOwn _ _ (defCx P w K mg base ["_law_script", "_law_at", "_law_many", "_law_row", "_law_cell", "_law_turn", "_law_step", "_law_mixed_here"] "_law_draw" s__law_draw A.a__law_draw cdv Ar outer s H E).env (defCx P w K mg base ["_law_script", "_law_at", "_law_many", "_law_row", "_law_cell", "_law_turn", "_law_step", "_law_mixed_here"] "_law_draw" s__law_draw A.a__law_draw cdv Ar outer s H E).xe := passes_of rfl
    exact (okS_cons (okS_asg (i := 3) nd (OKO.toE (okO_ifExp (okB_cmpT (vT_neS hr.units) (OKE.top (ok_var (i := 0))) (OKE.top (OKO.toE (ok_lst okA_nil)))) (ok_slL (OKE.top (ok_var (i := 0))) okP_no (okP_at ok_int)) (ok_lst (okA_cons ok_int okA_nil)))))
  (okS_cons (okS_par (i := 4) (j := 5) nd rfl (okM_sh (ok_idx (OKE.top (ok_var (i := 3))) (ok_op v_mod (ok_var (i := 1)) (ok_b1 c_len T.n_len (OKE.top (ok_var (i := 3))) (by decide +kernel))))) (okM_sh (ok_op v_div (ok_var (i := 1)) (ok_b1 c_len T.n_len (OKE.top (ok_var (i := 3))) (by decide +kernel)))) rfl)
  (okS_cons (okS_if (okB_cmp v_ge (ok_var (i := 4)) (ok_op v_pow ok_int ok_int)) (okS_cons (okS_asg (i := 4) nd (ok_op v_mod (ok_t1 c_int T.n_int (OKE.top (ok_var (i := 4))) (by decide +kernel)) (ok_op v_pow ok_int ok_int)))
  (okS_cons (okS_for rfl ow (okI_rng1 T.n_range (ok_op v_mod (ok_var (i := 5)) ok_int)) (okG_name (i := 6) nd) (okS_one (okS_asg (i := 4) nd (ok_op v_div (ok_var (i := 4)) ok_int))))
  (okS_one (okS_ret (ok_op v_mod (ok_op v_mod (ok_t1 c_int T.n_int (OKE.top (ok_var (i := 4))) (by decide +kernel)) ok_int) (ok_var (i := 2))))))) okS_nil)
  (okS_cons (okS_asg (i := 7) nd (ok_op v_add (ok_op v_mul (ok_op v_add (ok_op v_add (ok_op v_mod (ok_t1 c_int T.n_int (OKE.top (ok_op v_add (ok_var (i := 4)) (ok_op v_mul ok_int (ok_var (i := 5))))) (by decide +kernel)) ok_int) (ok_op v_mul ok_int (ok_var (i := 1)))) ok_int) ok_int) (ok_op v_mod (ok_t1 c_int T.n_int (OKE.top (ok_op v_div (ok_var (i := 4)) ok_int)) (by decide +kernel)) ok_int)))
  (okS_one (okS_ret (ok_op v_mod (ok_t1 c_int T.n_int (OKE.top (ok_op v_mod (ok_op v_mul (ok_op v_mod (ok_var (i := 7)) ok_int) ok_int) ok_int)) (by decide +kernel)) (ok_var (i := 2))))))))))
  have h2 : FnOk P w K mg base (L2.CX P w) 1 A.a__law_draw A.d__law_draw ["_law_script", "_law_at", "_law_many"] (spV K (tab A w) false f__law_draw) := h
  exact h2

theorem ok__law_draw {A : Ads} (T : Txt P w K mg A) : DefAt P w K mg base 1 A.a__law_draw ["_law_script", "_law_at", "_law_many"] [] (spV K (tab A w) false f__law_draw) := ⟨⟨_, fk__law_draw T, T.B__law_draw⟩, T.F__law_draw.kp⟩

theorem sc__law_rounds : FnScope ["_law_script", "_law_at", "_law_most", "_law_way", "_law_rows", "_law_every", "_law_turn"] ["_law_script", "_law_at", "_law_most", "_law_way"] (defScope s__law_rounds) := ⟨rfl, rfl, rfl, by decide +kernel, rfl, by decide +kernel, by decide +kernel⟩
theorem fk__law_rounds {A : Ads} (T : Txt P w K mg A) : FnOk P w K mg base (L2.CX P w) 2 A.a__law_rounds A.d__law_rounds ["_law_script", "_law_at", "_law_most", "_law_way"] (spV K (tab A w) true f__law_rounds) := by
  have nd := sc__law_rounds.nd
  have h := fn_val (P := P) (w := w) (mg := mg) (base := base) (T := tab A w) (k := 1) (fresh := true) (b := b__law_rounds) T.F__law_rounds sc__law_rounds (fun cdv Ar outer s H E hr => by
    have tk : Takes (defCx P w K mg base ["_law_script", "_law_at", "_law_most", "_law_way", "_law_rows", "_law_every", "_law_turn"] "_law_rounds" s__law_rounds A.a__law_rounds cdv Ar outer s H E) (defW E) := takes_of rfl rfl rfl rfl
    have ow : PassesOwn _ _ (defCx P w K mg base ["_law_script", "_law_at", "_law_most", "_law_way", "_law_rows", "_law_every", "_law_turn"] "_law_rounds" s__law_rounds A.a__law_rounds cdv Ar outer s H E).env (defCx P w K mg base ["_law_script", "_law_at", "_law_most", "_law_way", "_law_rows", "_law_every", "_law_turn"] "_law_rounds" s__law_rounds A.a__law_rounds cdv Ar outer s H E).xe := passes_of rfl
    exact (okS_cons (okS_own (i := 4) nd (ok_lst (okA_cons (ok_tup (okA_cons (ok_var (i := 3)) okA_nil)) (okA_cons (ok_tup (okA_cons ok_str (okA_cons ok_int (okA_cons ok_int okA_nil)))) (okA_cons (ok_tup (okA_cons ok_str (okA_cons ok_int (okA_cons ok_int okA_nil)))) (okA_cons (ok_tup (okA_cons ok_str (okA_cons ok_int (okA_cons ok_int okA_nil)))) (okA_cons (ok_tup (okA_cons ok_str (okA_cons ok_int (okA_cons ok_int okA_nil)))) okA_nil)))))))
  (okS_cons (okS_if (okB_cmpT (vT_eq hr.units) (OKE.top (ok_call (ok__law_draw T) .nil (fun _ => .nil) (hr.mono (by decide)) T.mg__law_draw tk (okA_cons (ok_var (i := 0)) (okA_cons (ok_var (i := 1)) (okA_cons ok_int okA_nil))))) (OKE.top ok_int)) (okS_cons (okS_asg (i := 5) nd (ok_op v_add ok_int (ok_call (ok__law_draw T) .nil (fun _ => .nil) (hr.mono (by decide)) T.mg__law_draw tk (okA_cons (ok_var (i := 0)) (okA_cons (ok_op v_add (ok_var (i := 1)) ok_int) (okA_cons ok_int okA_nil))))))
  (okS_cons (okS_setI (i := 4) (pe_name (i := 4)) ok_int (ok_tup (okA_cons ok_str (okA_cons (ok_var (i := 5)) (okA_cons (ok_call (ok__law_draw T) .nil (fun _ => .nil) (hr.mono (by decide)) T.mg__law_draw tk (okA_cons (ok_var (i := 0)) (okA_cons (ok_op v_add (ok_var (i := 1)) ok_int) (okA_cons (ok_var (i := 5)) okA_nil)))) okA_nil)))))
  (okS_one (okS_setI (i := 4) (pe_name (i := 4)) ok_int (ok_idx (ok_lk (i := 4)) ok_int))))) okS_nil)
  (okS_one (okS_retO (ok_comp nd rfl (okI_rng1 T.n_range (ok_call (ok__law_draw T) .nil (fun _ => .nil) (hr.mono (by decide)) T.mg__law_draw tk (okA_cons (ok_var (i := 0)) (okA_cons (ok_op v_add (ok_var (i := 1)) ok_int) (okA_cons (ok_op v_add (ok_var (i := 2)) ok_int) okA_nil))))) (blkOk_by (own := [("_law_turn", 6)]) (by rfl)) (fun s1 H1 C1 cl1 fp1 => (okG_name (i := 6) nd)) (fun s1 H1 C1 cl1 fp1 => okPs_nil) (fun s1 H1 C1 cl1 fp1 => (ok_idx (ok_lk (i := 4)) (ok_call (ok__law_draw T) .nil (fun _ => .nil) (hr.mono (by decide)) T.mg__law_draw takesNone (okA_cons (ok_var (i := 0)) (okA_cons (ok_op v_add (ok_op v_add (ok_var (i := 1)) ok_int) (ok_var (i := 6))) (okA_cons ok_int okA_nil))))))))))))
  have h2 : FnOk P w K mg base (L2.CX P w) 2 A.a__law_rounds A.d__law_rounds ["_law_script", "_law_at", "_law_most", "_law_way"] (spV K (tab A w) true f__law_rounds) := h
  exact h2

theorem ok__law_rounds {A : Ads} (T : Txt P w K mg A) : DefAt P w K mg base 2 A.a__law_rounds ["_law_script", "_law_at", "_law_most", "_law_way"] [] (spV K (tab A w) true f__law_rounds) := ⟨⟨_, fk__law_rounds T, T.B__law_rounds⟩, T.F__law_rounds.kp⟩

theorem sc_is_whole : FnScope ["thing"] ["thing"] (defScope s_is_whole) := ⟨rfl, rfl, rfl, by decide +kernel, rfl, by decide +kernel, by decide +kernel⟩
theorem fk_is_whole {A : Ads} (T : Txt P w K mg A) : FnOk P w K mg base (L2.CX P w) 1 A.a_is_whole A.d_is_whole ["thing"] (spV K (tab A w) false f_is_whole) := by
  have nd := sc_is_whole.nd
  have h := fn_val (P := P) (w := w) (mg := mg) (base := base) (T := tab A w) (k := 0) (fresh := false) (b := b_is_whole) T.F_is_whole sc_is_whole (fun cdv Ar outer s H E hr => by
    have tk : Takes (defCx P w K mg base ["thing"] "is_whole" s_is_whole A.a_is_whole cdv Ar outer s H E) (defW E) := takes_of rfl rfl rfl rfl
    have ow : PassesOwn _ _ (defCx P w K mg base ["thing"] "is_whole" s_is_whole A.a_is_whole cdv Ar outer s H E).env (defCx P w K mg base ["thing"] "is_whole" s_is_whole A.a_is_whole cdv Ar outer s H E).xe := passes_of rfl
    exact (okS_one (okS_ret (ok_and (ok_isTy (t := "int") (by simp) T.n_isinstance T.n_int (OKE.top (ok_var (i := 0))) (by decide +kernel) (by decide +kernel)) (ok_one (ok_not (ok_isTy (t := "bool") (by simp) T.n_isinstance T.n_bool (OKE.top (ok_var (i := 0))) (by decide +kernel) (by decide +kernel))))))))
  have h2 : FnOk P w K mg base (L2.CX P w) 1 A.a_is_whole A.d_is_whole ["thing"] (spV K (tab A w) false f_is_whole) := h
  exact h2

theorem ok_is_whole {A : Ads} (T : Txt P w K mg A) : DefAt P w K mg base 1 A.a_is_whole ["thing"] [] (spV K (tab A w) false f_is_whole) := ⟨⟨_, fk_is_whole T, T.B_is_whole⟩, T.F_is_whole.kp⟩

theorem sc_is_round : FnScope ["thing"] ["thing"] (defScope s_is_round) := ⟨rfl, rfl, rfl, by decide +kernel, rfl, by decide +kernel, by decide +kernel⟩
theorem fk_is_round {A : Ads} (T : Txt P w K mg A) : FnOk P w K mg base (L2.CX P w) 2 A.a_is_round A.d_is_round ["thing"] (spV K (tab A w) false f_is_round) := by
  have nd := sc_is_round.nd
  have h := fn_val (P := P) (w := w) (mg := mg) (base := base) (T := tab A w) (k := 1) (fresh := false) (b := b_is_round) T.F_is_round sc_is_round (fun cdv Ar outer s H E hr => by
    have tk : Takes (defCx P w K mg base ["thing"] "is_round" s_is_round A.a_is_round cdv Ar outer s H E) (defW E) := takes_of rfl rfl rfl rfl
    have ow : PassesOwn _ _ (defCx P w K mg base ["thing"] "is_round" s_is_round A.a_is_round cdv Ar outer s H E).env (defCx P w K mg base ["thing"] "is_round" s_is_round A.a_is_round cdv Ar outer s H E).xe := passes_of rfl
    exact (okS_cons (okS_if (okB_w (okW_and (okB_bool (ok_isTy (t := "tuple") (by simp) T.n_isinstance T.n_tuple (OKE.top (ok_var (i := 0))) (by decide +kernel) (by decide +kernel))) (okW_and1 (okB_cmpT (vT_in (hu65 hr)) (OKE.top (ok_var (i := 0))) (OKE.top (ok_tup (okA_cons (ok_glob T.mg_RIGHT T.r_RIGHT (T.q_RIGHT)) (okA_cons (ok_glob T.mg_LEFT T.r_LEFT (T.q_LEFT)) okA_nil)))))))) (okS_one (okS_ret ok_bl)) okS_nil)
  (okS_cons (okS_if (okB_w (okW_or (okB_not (okB_bool (ok_isTy (t := "tuple") (by simp) T.n_isinstance T.n_tuple (OKE.top (ok_var (i := 0))) (by decide +kernel) (by decide +kernel)))) (okW_or (okB_cmpT (vT_ne hr.units) (OKE.top (ok_b1 c_len T.n_len (OKE.top (ok_var (i := 0))) (by decide +kernel))) (OKE.top ok_int)) (okW_or1 (okB_cmpT (vT_ne hr.units) (OKE.top (ok_idx (OKE.top (ok_var (i := 0))) ok_int)) (OKE.top ok_str)))))) (okS_one (okS_ret ok_bl)) okS_nil)
  (okS_cons (okS_if (okB_w (okW_or (okB_not (okB_bool (ok_call (ok_is_whole T) .nil (fun _ => .nil) (hr.mono (by decide)) T.mg_is_whole tk (okA_cons (ok_idx (OKE.top (ok_var (i := 0))) ok_int) okA_nil)))) (okW_or1 (okB_not (okB_bool (ok_call (ok_is_whole T) .nil (fun _ => .nil) (hr.mono (by decide)) T.mg_is_whole tk (okA_cons (ok_idx (OKE.top (ok_var (i := 0))) ok_int) okA_nil))))))) (okS_one (okS_ret ok_bl)) okS_nil)
  (okS_one (okS_ret (ok_and (ok_chain v_le v_le ok_int (ok_idx (OKE.top (ok_var (i := 0))) ok_int) (ok_glob T.mg_MOST_EVERY T.r_MOST_EVERY (T.q_MOST_EVERY))) (ok_one (ok_chain v_le v_lt ok_int (ok_idx (OKE.top (ok_var (i := 0))) ok_int) (ok_idx (OKE.top (ok_var (i := 0))) ok_int))))))))))
  have h2 : FnOk P w K mg base (L2.CX P w) 2 A.a_is_round A.d_is_round ["thing"] (spV K (tab A w) false f_is_round) := h
  exact h2

theorem ok_is_round {A : Ads} (T : Txt P w K mg A) : DefAt P w K mg base 2 A.a_is_round ["thing"] [] (spV K (tab A w) false f_is_round) := ⟨⟨_, fk_is_round T, T.B_is_round⟩, T.F_is_round.kp⟩

theorem sc_Program___init__ : FnScope ["self", "rounds", "place", "one"] ["self", "rounds"] (defScope s_Program___init__) := ⟨rfl, rfl, rfl, by decide +kernel, rfl, by decide +kernel, by decide +kernel⟩
theorem fk_Program___init__ {A : Ads} (T : Txt P w K mg A) : FnOk P w K mg base (L2.CX P w) 3 A.a_Program___init__ A.d_Program___init__ ["self", "rounds"] (spIo K (tab A w) false f_Program___init__) := by
  have nd := sc_Program___init__.nd
  have h := fn_io (P := P) (w := w) (mg := mg) (base := base) (T := tab A w) (k := 2) (fresh := false) (b := b_Program___init__) T.F_Program___init__ sc_Program___init__ (fun cdv Ar outer s H E hr => by
    have tk : Takes (defCx P w K mg base ["self", "rounds", "place", "one"] "Program.__init__" s_Program___init__ A.a_Program___init__ cdv Ar outer s H E) (defW E) := takes_of rfl rfl rfl rfl
    have ow : PassesOwn _ _ (defCx P w K mg base ["self", "rounds", "place", "one"] "Program.__init__" s_Program___init__ A.a_Program___init__ cdv Ar outer s H E).env (defCx P w K mg base ["self", "rounds", "place", "one"] "Program.__init__" s_Program___init__ A.a_Program___init__ cdv Ar outer s H E).xe := passes_of rfl
    exact (okS_cons (okS_if (okB_w (okW_or (okB_not (okB_bool (ok_isTy2 (t := "list") (u := "tuple") (by simp) (by simp) T.n_isinstance T.n_list T.n_tuple (ok_var (i := 1)) (by decide +kernel) (by decide +kernel) (by decide +kernel)))) (okW_or1 (okB_cmp v_gt (ok_b1 c_len T.n_len (OKE.top (ok_var (i := 1))) (by decide +kernel)) (ok_glob T.mg_MOST_ROUNDS T.r_MOST_ROUNDS (T.q_MOST_ROUNDS)))))) (okS_one (okS_raise1 (k := 1) rfl tk (T.su_BadProgram _) (hr.mono (by decide)) ok_non)) okS_nil)
  (okS_cons (okS_for rfl ow (okI_enum T.n_enumerate (ok_var (i := 1))) (okG_tup rfl (okGs_cons (okG_name (i := 2) nd) (okGs_cons (okG_name (i := 3) nd) okGs_nil))) (okS_one (okS_if (okB_not (okB_bool (ok_call (ok_is_round T) .nil (fun _ => .nil) (hr.mono (by decide)) T.mg_is_round tk (okA_cons (ok_var (i := 3)) okA_nil)))) (okS_one (okS_raise1 (k := 1) rfl tk (T.su_BadProgram _) (hr.mono (by decide)) (ok_var (i := 2)))) okS_nil)))
  (okS_one (okS_fld (i := 0) (pe_name (i := 0)) (ok_t1 c_tuple T.n_tuple (OKE.top (ok_var (i := 1))) (by decide +kernel)) (fun c _ _ _ => T.at_rounds c))))))
  have h2 : FnOk P w K mg base (L2.CX P w) 3 A.a_Program___init__ A.d_Program___init__ ["self", "rounds"] (spIo K (tab A w) false f_Program___init__) := h
  exact h2

theorem ok_Program___init__ {A : Ads} (T : Txt P w K mg A) : DefAt P w K mg base 3 A.a_Program___init__ ["self", "rounds"] [] (spIo K (tab A w) false f_Program___init__) := ⟨⟨_, fk_Program___init__ T, T.B_Program___init__⟩, T.F_Program___init__.kp⟩

theorem sc_check_program : FnScope ["thing"] ["thing"] (defScope s_check_program) := ⟨rfl, rfl, rfl, by decide +kernel, rfl, by decide +kernel, by decide +kernel⟩
theorem fk_check_program {A : Ads} (T : Txt P w K mg A) : FnOk P w K mg base (L2.CX P w) 3 A.a_check_program A.d_check_program ["thing"] (spV K (tab A w) false f_check_program) := by
  have nd := sc_check_program.nd
  have h := fn_val (P := P) (w := w) (mg := mg) (base := base) (T := tab A w) (k := 2) (fresh := false) (b := b_check_program) T.F_check_program sc_check_program (fun cdv Ar outer s H E hr => by
    have tk : Takes (defCx P w K mg base ["thing"] "check_program" s_check_program A.a_check_program cdv Ar outer s H E) (defW E) := takes_of rfl rfl rfl rfl
    have ow : PassesOwn _ _ (defCx P w K mg base ["thing"] "check_program" s_check_program A.a_check_program cdv Ar outer s H E).env (defCx P w K mg base ["thing"] "check_program" s_check_program A.a_check_program cdv Ar outer s H E).xe := passes_of rfl
    exact (okS_one (okS_if (okB_not (okB_bool (ok_isClG T.n_isinstance T.mg_Program (OKE.top (ok_var (i := 0))) T.is_Program T.ni_Program (by decide +kernel)))) (okS_one (okS_raise1 (k := 1) rfl tk (T.su_BadProgram _) (hr.mono (by decide)) ok_non)) okS_nil)))
  have h2 : FnOk P w K mg base (L2.CX P w) 3 A.a_check_program A.d_check_program ["thing"] (spV K (tab A w) false f_check_program) := h
  exact h2

theorem ok_check_program {A : Ads} (T : Txt P w K mg A) : DefAt P w K mg base 3 A.a_check_program ["thing"] [] (spV K (tab A w) false f_check_program) := ⟨⟨_, fk_check_program T, T.B_check_program⟩, T.F_check_program.kp⟩

theorem sc_check_length : FnScope ["many"] ["many"] (defScope s_check_length) := ⟨rfl, rfl, rfl, by decide +kernel, rfl, by decide +kernel, by decide +kernel⟩
theorem fk_check_length {A : Ads} (T : Txt P w K mg A) : FnOk P w K mg base (L2.CX P w) 2 A.a_check_length A.d_check_length ["many"] (spV K (tab A w) false f_check_length) := by
  have nd := sc_check_length.nd
  have h := fn_val (P := P) (w := w) (mg := mg) (base := base) (T := tab A w) (k := 1) (fresh := false) (b := b_check_length) T.F_check_length sc_check_length (fun cdv Ar outer s H E hr => by
    have tk : Takes (defCx P w K mg base ["many"] "check_length" s_check_length A.a_check_length cdv Ar outer s H E) (defW E) := takes_of rfl rfl rfl rfl
    have ow : PassesOwn _ _ (defCx P w K mg base ["many"] "check_length" s_check_length A.a_check_length cdv Ar outer s H E).env (defCx P w K mg base ["many"] "check_length" s_check_length A.a_check_length cdv Ar outer s H E).xe := passes_of rfl
    exact (okS_one (okS_if (okB_w (okW_or (okB_not (okB_bool (ok_call (ok_is_whole T) .nil (fun _ => .nil) (hr.mono (by decide)) T.mg_is_whole tk (okA_cons (ok_var (i := 0)) okA_nil)))) (okW_or1 (okB_not (okB_chain v_le v_le ok_int (ok_var (i := 0)) (ok_glob T.mg_MOST_LENGTH T.r_MOST_LENGTH (T.q_MOST_LENGTH))))))) (okS_one (okS_raise0 rfl tk (T.xc_BadStart _ rfl rfl) rfl)) okS_nil)))
  have h2 : FnOk P w K mg base (L2.CX P w) 2 A.a_check_length A.d_check_length ["many"] (spV K (tab A w) false f_check_length) := h
  exact h2

theorem ok_check_length {A : Ads} (T : Txt P w K mg A) : DefAt P w K mg base 2 A.a_check_length ["many"] [] (spV K (tab A w) false f_check_length) := ⟨⟨_, fk_check_length T, T.B_check_length⟩, T.F_check_length.kp⟩

theorem sc_check_basin : FnScope ["basin", "many"] ["basin", "many"] (defScope s_check_basin) := ⟨rfl, rfl, rfl, by decide +kernel, rfl, by decide +kernel, by decide +kernel⟩
theorem fk_check_basin {A : Ads} (T : Txt P w K mg A) : FnOk P w K mg base (L2.CX P w) 2 A.a_check_basin A.d_check_basin ["basin", "many"] (spV K (tab A w) false f_check_basin) := by
  have nd := sc_check_basin.nd
  have h := fn_val (P := P) (w := w) (mg := mg) (base := base) (T := tab A w) (k := 1) (fresh := false) (b := b_check_basin) T.F_check_basin sc_check_basin (fun cdv Ar outer s H E hr => by
    have tk : Takes (defCx P w K mg base ["basin", "many"] "check_basin" s_check_basin A.a_check_basin cdv Ar outer s H E) (defW E) := takes_of rfl rfl rfl rfl
    have ow : PassesOwn _ _ (defCx P w K mg base ["basin", "many"] "check_basin" s_check_basin A.a_check_basin cdv Ar outer s H E).env (defCx P w K mg base ["basin", "many"] "check_basin" s_check_basin A.a_check_basin cdv Ar outer s H E).xe := passes_of rfl
    exact (okS_one (okS_if (okB_w (okW_or (okB_not (okB_bool (ok_call (ok_is_whole T) .nil (fun _ => .nil) (hr.mono (by decide)) T.mg_is_whole tk (okA_cons (ok_var (i := 0)) okA_nil)))) (okW_or1 (okB_not (okB_chain v_le v_lt ok_int (ok_var (i := 0)) (ok_var (i := 1))))))) (okS_one (okS_raise0 rfl tk (T.xc_BadStart _ rfl rfl) rfl)) okS_nil)))
  have h2 : FnOk P w K mg base (L2.CX P w) 2 A.a_check_basin A.d_check_basin ["basin", "many"] (spV K (tab A w) false f_check_basin) := h
  exact h2

theorem ok_check_basin {A : Ads} (T : Txt P w K mg A) : DefAt P w K mg base 2 A.a_check_basin ["basin", "many"] [] (spV K (tab A w) false f_check_basin) := ⟨⟨_, fk_check_basin T, T.B_check_basin⟩, T.F_check_basin.kp⟩

theorem sc_gives : FnScope ["program", "many", "basin"] ["program", "many", "basin"] (defScope s_gives) := ⟨rfl, rfl, rfl, by decide +kernel, rfl, by decide +kernel, by decide +kernel⟩
theorem fk_gives {A : Ads} (T : Txt P w K mg A) : FnOk P w K mg base (L2.CX P w) 4 A.a_gives A.d_gives ["program", "many", "basin"] (spV K (tab A w) false f_gives) := by
  have nd := sc_gives.nd
  have h := fn_val (P := P) (w := w) (mg := mg) (base := base) (T := tab A w) (k := 3) (fresh := false) (b := b_gives) T.F_gives sc_gives (fun cdv Ar outer s H E hr => by
    have tk : Takes (defCx P w K mg base ["program", "many", "basin"] "gives" s_gives A.a_gives cdv Ar outer s H E) (defW E) := takes_of rfl rfl rfl rfl
    have ow : PassesOwn _ _ (defCx P w K mg base ["program", "many", "basin"] "gives" s_gives A.a_gives cdv Ar outer s H E).env (defCx P w K mg base ["program", "many", "basin"] "gives" s_gives A.a_gives cdv Ar outer s H E).xe := passes_of rfl
    exact (okS_cons (okS_expr (ok_call (ok_check_program T) .nil (fun _ => .nil) (hr.mono (by decide)) T.mg_check_program tk (okA_cons (ok_var (i := 0)) okA_nil)))
  (okS_cons (okS_expr (ok_call (ok_check_length T) .nil (fun _ => .nil) (hr.mono (by decide)) T.mg_check_length tk (okA_cons (ok_var (i := 1)) okA_nil)))
  (okS_cons (okS_expr (ok_call (ok_check_basin T) .nil (fun _ => .nil) (hr.mono (by decide)) T.mg_check_basin tk (okA_cons (ok_var (i := 2)) (okA_cons (ok_var (i := 1)) okA_nil))))
  okSs_bad))))
  have h2 : FnOk P w K mg base (L2.CX P w) 4 A.a_gives A.d_gives ["program", "many", "basin"] (spV K (tab A w) false f_gives) := h
  exact h2

theorem ok_gives {A : Ads} (T : Txt P w K mg A) : DefAt P w K mg base 4 A.a_gives ["program", "many", "basin"] [] (spV K (tab A w) false f_gives) := ⟨⟨_, fk_gives T, T.B_gives⟩, T.F_gives.kp⟩

theorem sc_got : FnScope ["program", "many", "basin"] ["program", "many", "basin"] (defScope s_got) := ⟨rfl, rfl, rfl, by decide +kernel, rfl, by decide +kernel, by decide +kernel⟩
theorem fk_got {A : Ads} (T : Txt P w K mg A) : FnOk P w K mg base (L2.CX P w) 4 A.a_got A.d_got ["program", "many", "basin"] (spV K (tab A w) false f_got) := by
  have nd := sc_got.nd
  have h := fn_val (P := P) (w := w) (mg := mg) (base := base) (T := tab A w) (k := 3) (fresh := false) (b := b_got) T.F_got sc_got (fun cdv Ar outer s H E hr => by
    have tk : Takes (defCx P w K mg base ["program", "many", "basin"] "got" s_got A.a_got cdv Ar outer s H E) (defW E) := takes_of rfl rfl rfl rfl
    have ow : PassesOwn _ _ (defCx P w K mg base ["program", "many", "basin"] "got" s_got A.a_got cdv Ar outer s H E).env (defCx P w K mg base ["program", "many", "basin"] "got" s_got A.a_got cdv Ar outer s H E).xe := passes_of rfl
    exact (okS_cons (okS_expr (ok_call (ok_check_program T) .nil (fun _ => .nil) (hr.mono (by decide)) T.mg_check_program tk (okA_cons (ok_var (i := 0)) okA_nil)))
  (okS_cons (okS_expr (ok_call (ok_check_length T) .nil (fun _ => .nil) (hr.mono (by decide)) T.mg_check_length tk (okA_cons (ok_var (i := 1)) okA_nil)))
  (okS_cons (okS_expr (ok_call (ok_check_basin T) .nil (fun _ => .nil) (hr.mono (by decide)) T.mg_check_basin tk (okA_cons (ok_var (i := 2)) (okA_cons (ok_var (i := 1)) okA_nil))))
  okSs_bad))))
  have h2 : FnOk P w K mg base (L2.CX P w) 4 A.a_got A.d_got ["program", "many", "basin"] (spV K (tab A w) false f_got) := h
  exact h2

theorem ok_got {A : Ads} (T : Txt P w K mg A) : DefAt P w K mg base 4 A.a_got ["program", "many", "basin"] [] (spV K (tab A w) false f_got) := ⟨⟨_, fk_got T, T.B_got⟩, T.F_got.kp⟩

theorem sc_is_even_handed : FnScope ["program", "many", "rows", "basin", "one", "other"] ["program", "many"] (defScope s_is_even_handed) := ⟨rfl, rfl, rfl, by decide +kernel, rfl, by decide +kernel, by decide +kernel⟩
theorem fk_is_even_handed {A : Ads} (T : Txt P w K mg A) : FnOk P w K mg base (L2.CX P w) 4 A.a_is_even_handed A.d_is_even_handed ["program", "many"] (spV K (tab A w) false f_is_even_handed) := by
  have nd := sc_is_even_handed.nd
  have h := fn_val (P := P) (w := w) (mg := mg) (base := base) (T := tab A w) (k := 3) (fresh := false) (b := b_is_even_handed) T.F_is_even_handed sc_is_even_handed (fun cdv Ar outer s H E hr => by
    have tk : Takes (defCx P w K mg base ["program", "many", "rows", "basin", "one", "other"] "is_even_handed" s_is_even_handed A.a_is_even_handed cdv Ar outer s H E) (defW E) := takes_of rfl rfl rfl rfl
    have ow : PassesOwn _ _ (defCx P w K mg base ["program", "many", "rows", "basin", "one", "other"] "is_even_handed" s_is_even_handed A.a_is_even_handed cdv Ar outer s H E).env (defCx P w K mg base ["program", "many", "rows", "basin", "one", "other"] "is_even_handed" s_is_even_handed A.a_is_even_handed cdv Ar outer s H E).xe := passes_of rfl
    exact (okS_cons (okS_expr (ok_call (ok_check_program T) .nil (fun _ => .nil) (hr.mono (by decide)) T.mg_check_program tk (okA_cons (ok_var (i := 0)) okA_nil)))
  (okS_cons (okS_expr (ok_call (ok_check_length T) .nil (fun _ => .nil) (hr.mono (by decide)) T.mg_check_length tk (okA_cons (ok_var (i := 1)) okA_nil)))
  okSs_bad)))
  have h2 : FnOk P w K mg base (L2.CX P w) 4 A.a_is_even_handed A.d_is_even_handed ["program", "many"] (spV K (tab A w) false f_is_even_handed) := h
  exact h2

theorem ok_is_even_handed {A : Ads} (T : Txt P w K mg A) : DefAt P w K mg base 4 A.a_is_even_handed ["program", "many"] [] (spV K (tab A w) false f_is_even_handed) := ⟨⟨_, fk_is_even_handed T, T.B_is_even_handed⟩, T.F_is_even_handed.kp⟩

theorem sc_stretches : FnScope ["program", "many", "opened", "found", "first", "weir"] ["program", "many"] (defScope s_stretches) := ⟨rfl, rfl, rfl, by decide +kernel, rfl, by decide +kernel, by decide +kernel⟩
theorem fk_stretches {A : Ads} (T : Txt P w K mg A) : FnOk P w K mg base (L2.CX P w) 4 A.a_stretches A.d_stretches ["program", "many"] (spV K (tab A w) false f_stretches) := by
  have nd := sc_stretches.nd
  have h := fn_val (P := P) (w := w) (mg := mg) (base := base) (T := tab A w) (k := 3) (fresh := false) (b := b_stretches) T.F_stretches sc_stretches (fun cdv Ar outer s H E hr => by
    have tk : Takes (defCx P w K mg base ["program", "many", "opened", "found", "first", "weir"] "stretches" s_stretches A.a_stretches cdv Ar outer s H E) (defW E) := takes_of rfl rfl rfl rfl
    have ow : PassesOwn _ _ (defCx P w K mg base ["program", "many", "opened", "found", "first", "weir"] "stretches" s_stretches A.a_stretches cdv Ar outer s H E).env (defCx P w K mg base ["program", "many", "opened", "found", "first", "weir"] "stretches" s_stretches A.a_stretches cdv Ar outer s H E).xe := passes_of rfl
    exact (okS_cons (okS_expr (ok_call (ok_check_program T) .nil (fun _ => .nil) (hr.mono (by decide)) T.mg_check_program tk (okA_cons (ok_var (i := 0)) okA_nil)))
  (okS_cons (okS_expr (ok_call (ok_check_length T) .nil (fun _ => .nil) (hr.mono (by decide)) T.mg_check_length tk (okA_cons (ok_var (i := 1)) okA_nil)))
  okSs_bad)))
  have h2 : FnOk P w K mg base (L2.CX P w) 4 A.a_stretches A.d_stretches ["program", "many"] (spV K (tab A w) false f_stretches) := h
  exact h2

theorem ok_stretches {A : Ads} (T : Txt P w K mg A) : DefAt P w K mg base 4 A.a_stretches ["program", "many"] [] (spV K (tab A w) false f_stretches) := ⟨⟨_, fk_stretches T, T.B_stretches⟩, T.F_stretches.kp⟩

theorem sc_check_laps : FnScope ["laps"] ["laps"] (defScope s_check_laps) := ⟨rfl, rfl, rfl, by decide +kernel, rfl, by decide +kernel, by decide +kernel⟩
theorem fk_check_laps {A : Ads} (T : Txt P w K mg A) : FnOk P w K mg base (L2.CX P w) 2 A.a_check_laps A.d_check_laps ["laps"] (spV K (tab A w) false f_check_laps) := by
  have nd := sc_check_laps.nd
  have h := fn_val (P := P) (w := w) (mg := mg) (base := base) (T := tab A w) (k := 1) (fresh := false) (b := b_check_laps) T.F_check_laps sc_check_laps (fun cdv Ar outer s H E hr => by
    have tk : Takes (defCx P w K mg base ["laps"] "check_laps" s_check_laps A.a_check_laps cdv Ar outer s H E) (defW E) := takes_of rfl rfl rfl rfl
    have ow : PassesOwn _ _ (defCx P w K mg base ["laps"] "check_laps" s_check_laps A.a_check_laps cdv Ar outer s H E).env (defCx P w K mg base ["laps"] "check_laps" s_check_laps A.a_check_laps cdv Ar outer s H E).xe := passes_of rfl
    exact (okS_one (okS_if (okB_w (okW_or (okB_not (okB_bool (ok_call (ok_is_whole T) .nil (fun _ => .nil) (hr.mono (by decide)) T.mg_is_whole tk (okA_cons (ok_var (i := 0)) okA_nil)))) (okW_or1 (okB_not (okB_chain v_le v_le ok_int (ok_var (i := 0)) (ok_glob T.mg_MOST_LAPS T.r_MOST_LAPS (T.q_MOST_LAPS))))))) (okS_one (okS_raise0 rfl tk (T.xc_BadStart _ rfl rfl) rfl)) okS_nil)))
  have h2 : FnOk P w K mg base (L2.CX P w) 2 A.a_check_laps A.d_check_laps ["laps"] (spV K (tab A w) false f_check_laps) := h
  exact h2

theorem ok_check_laps {A : Ads} (T : Txt P w K mg A) : DefAt P w K mg base 2 A.a_check_laps ["laps"] [] (spV K (tab A w) false f_check_laps) := ⟨⟨_, fk_check_laps T, T.B_check_laps⟩, T.F_check_laps.kp⟩

theorem sc_left_behind : FnScope ["program", "many", "laps", "found", "basin", "told", "limit", "one", "other", "off"] ["program", "many", "laps"] (defScope s_left_behind) := ⟨rfl, rfl, rfl, by decide +kernel, rfl, by decide +kernel, by decide +kernel⟩
theorem fk_left_behind {A : Ads} (T : Txt P w K mg A) : FnOk P w K mg base (L2.CX P w) 4 A.a_left_behind A.d_left_behind ["program", "many", "laps"] (spV K (tab A w) false f_left_behind) := by
  have nd := sc_left_behind.nd
  have h := fn_val (P := P) (w := w) (mg := mg) (base := base) (T := tab A w) (k := 3) (fresh := false) (b := b_left_behind) T.F_left_behind sc_left_behind (fun cdv Ar outer s H E hr => by
    have tk : Takes (defCx P w K mg base ["program", "many", "laps", "found", "basin", "told", "limit", "one", "other", "off"] "left_behind" s_left_behind A.a_left_behind cdv Ar outer s H E) (defW E) := takes_of rfl rfl rfl rfl
    have ow : PassesOwn _ _ (defCx P w K mg base ["program", "many", "laps", "found", "basin", "told", "limit", "one", "other", "off"] "left_behind" s_left_behind A.a_left_behind cdv Ar outer s H E).env (defCx P w K mg base ["program", "many", "laps", "found", "basin", "told", "limit", "one", "other", "off"] "left_behind" s_left_behind A.a_left_behind cdv Ar outer s H E).xe := passes_of rfl
    exact (okS_cons (okS_expr (ok_call (ok_check_program T) .nil (fun _ => .nil) (hr.mono (by decide)) T.mg_check_program tk (okA_cons (ok_var (i := 0)) okA_nil)))
  (okS_cons (okS_expr (ok_call (ok_check_length T) .nil (fun _ => .nil) (hr.mono (by decide)) T.mg_check_length tk (okA_cons (ok_var (i := 1)) okA_nil)))
  (okS_cons (okS_expr (ok_call (ok_check_laps T) .nil (fun _ => .nil) (hr.mono (by decide)) T.mg_check_laps tk (okA_cons (ok_var (i := 2)) okA_nil)))
  okSs_bad))))
  have h2 : FnOk P w K mg base (L2.CX P w) 4 A.a_left_behind A.d_left_behind ["program", "many", "laps"] (spV K (tab A w) false f_left_behind) := h
  exact h2

theorem ok_left_behind {A : Ads} (T : Txt P w K mg A) : DefAt P w K mg base 4 A.a_left_behind ["program", "many", "laps"] [] (spV K (tab A w) false f_left_behind) := ⟨⟨_, fk_left_behind T, T.B_left_behind⟩, T.F_left_behind.kp⟩

theorem sc_judge_laps : FnScope ["program", "many", "basin", "told", "late", "limit", "place", "laps"] ["program", "many"] (defScope s_judge_laps) := ⟨rfl, rfl, rfl, by decide +kernel, rfl, by decide +kernel, by decide +kernel⟩
theorem fk_judge_laps {A : Ads} (T : Txt P w K mg A) : FnOk P w K mg base (L2.CX P w) 4 A.a_judge_laps A.d_judge_laps ["program", "many"] (spV K (tab A w) false f_judge_laps) := by
  have nd := sc_judge_laps.nd
  have h := fn_val (P := P) (w := w) (mg := mg) (base := base) (T := tab A w) (k := 3) (fresh := false) (b := b_judge_laps) T.F_judge_laps sc_judge_laps (fun cdv Ar outer s H E hr => by
    have tk : Takes (defCx P w K mg base ["program", "many", "basin", "told", "late", "limit", "place", "laps"] "judge_laps" s_judge_laps A.a_judge_laps cdv Ar outer s H E) (defW E) := takes_of rfl rfl rfl rfl
    have ow : PassesOwn _ _ (defCx P w K mg base ["program", "many", "basin", "told", "late", "limit", "place", "laps"] "judge_laps" s_judge_laps A.a_judge_laps cdv Ar outer s H E).env (defCx P w K mg base ["program", "many", "basin", "told", "late", "limit", "place", "laps"] "judge_laps" s_judge_laps A.a_judge_laps cdv Ar outer s H E).xe := passes_of rfl
    exact (okS_cons (okS_expr (ok_call (ok_check_program T) .nil (fun _ => .nil) (hr.mono (by decide)) T.mg_check_program tk (okA_cons (ok_var (i := 0)) okA_nil)))
  (okS_cons (okS_expr (ok_call (ok_check_length T) .nil (fun _ => .nil) (hr.mono (by decide)) T.mg_check_length tk (okA_cons (ok_var (i := 1)) okA_nil)))
  okSs_bad)))
  have h2 : FnOk P w K mg base (L2.CX P w) 4 A.a_judge_laps A.d_judge_laps ["program", "many"] (spV K (tab A w) false f_judge_laps) := h
  exact h2

theorem ok_judge_laps {A : Ads} (T : Txt P w K mg A) : DefAt P w K mg base 4 A.a_judge_laps ["program", "many"] [] (spV K (tab A w) false f_judge_laps) := ⟨⟨_, fk_judge_laps T, T.B_judge_laps⟩, T.F_judge_laps.kp⟩

theorem sc_is_part : FnScope ["thing"] ["thing"] (defScope s_is_part) := ⟨rfl, rfl, rfl, by decide +kernel, rfl, by decide +kernel, by decide +kernel⟩
theorem fk_is_part {A : Ads} (T : Txt P w K mg A) : FnOk P w K mg base (L2.CX P w) 2 A.a_is_part A.d_is_part ["thing"] (spV K (tab A w) false f_is_part) := by
  have nd := sc_is_part.nd
  have h := fn_val (P := P) (w := w) (mg := mg) (base := base) (T := tab A w) (k := 1) (fresh := false) (b := b_is_part) T.F_is_part sc_is_part (fun cdv Ar outer s H E hr => by
    have tk : Takes (defCx P w K mg base ["thing"] "is_part" s_is_part A.a_is_part cdv Ar outer s H E) (defW E) := takes_of rfl rfl rfl rfl
    have ow : PassesOwn _ _ (defCx P w K mg base ["thing"] "is_part" s_is_part A.a_is_part cdv Ar outer s H E).env (defCx P w K mg base ["thing"] "is_part" s_is_part A.a_is_part cdv Ar outer s H E).xe := passes_of rfl
    exact (okS_cons (okS_if (okB_bool (ok_isTy (t := "tuple") (by simp) T.n_isinstance T.n_tuple (OKE.top (ok_var (i := 0))) (by decide +kernel) (by decide +kernel))) (okS_one (okS_ret (ok_and (ok_cmpT (vT_eq hr.units) (OKE.top (ok_b1 c_len T.n_len (OKE.top (ok_var (i := 0))) (by decide +kernel))) (OKE.top ok_int)) (ok_and (ok_call (ok_is_whole T) .nil (fun _ => .nil) (hr.mono (by decide)) T.mg_is_whole tk (okA_cons (ok_idx (OKE.top (ok_var (i := 0))) ok_int) okA_nil)) (ok_and (ok_call (ok_is_whole T) .nil (fun _ => .nil) (hr.mono (by decide)) T.mg_is_whole tk (okA_cons (ok_idx (OKE.top (ok_var (i := 0))) ok_int) okA_nil)) (ok_one (ok_cmp v_ge (ok_idx (OKE.top (ok_var (i := 0))) ok_int) ok_int))))))) okS_nil)
  (okS_one (okS_ret (ok_call (ok_is_whole T) .nil (fun _ => .nil) (hr.mono (by decide)) T.mg_is_whole tk (okA_cons (ok_var (i := 0)) okA_nil))))))
  have h2 : FnOk P w K mg base (L2.CX P w) 2 A.a_is_part A.d_is_part ["thing"] (spV K (tab A w) false f_is_part) := h
  exact h2

theorem ok_is_part {A : Ads} (T : Txt P w K mg A) : DefAt P w K mg base 2 A.a_is_part ["thing"] [] (spV K (tab A w) false f_is_part) := ⟨⟨_, fk_is_part T, T.B_is_part⟩, T.F_is_part.kp⟩

theorem sc_common : FnScope ["one", "other"] ["one", "other"] (defScope s_common) := ⟨rfl, rfl, rfl, by decide +kernel, rfl, by decide +kernel, by decide +kernel⟩
theorem fk_common {A : Ads} (T : Txt P w K mg A) : FnOk P w K mg base (L2.CX P w) 1 A.a_common A.d_common ["one", "other"] (spV K (tab A w) false f_common) := by
  have nd := sc_common.nd
  have h := fn_val (P := P) (w := w) (mg := mg) (base := base) (T := tab A w) (k := 0) (fresh := false) (b := b_common) T.F_common sc_common (fun cdv Ar outer s H E hr => by
    have tk : Takes (defCx P w K mg base ["one", "other"] "common" s_common A.a_common cdv Ar outer s H E) (defW E) := takes_of rfl rfl rfl rfl
    have ow : PassesOwn _ _ (defCx P w K mg base ["one", "other"] "common" s_common A.a_common cdv Ar outer s H E).env (defCx P w K mg base ["one", "other"] "common" s_common A.a_common cdv Ar outer s H E).xe := passes_of rfl
    exact (okS_cons (okS_while (n := 1000) ow (okB_cmpT (vT_ne hr.units) (OKE.top (ok_var (i := 1))) (OKE.top ok_int)) (okS_one (okS_par (i := 0) (j := 1) nd rfl (okM_sh (ok_var (i := 1))) (okM_sh (ok_op v_mod (ok_var (i := 0)) (ok_var (i := 1)))) rfl)))
  (okS_one (okS_ret (ok_var (i := 0))))))
  have h2 : FnOk P w K mg base (L2.CX P w) 1 A.a_common A.d_common ["one", "other"] (spV K (tab A w) false f_common) := h
  exact h2

theorem ok_common {A : Ads} (T : Txt P w K mg A) : DefAt P w K mg base 1 A.a_common ["one", "other"] [] (spV K (tab A w) false f_common) := ⟨⟨_, fk_common T, T.B_common⟩, T.F_common.kp⟩

theorem sc_part : FnScope ["top", "below", "least"] ["top", "below"] (defScope s_part) := ⟨rfl, rfl, rfl, by decide +kernel, rfl, by decide +kernel, by decide +kernel⟩
theorem fk_part {A : Ads} (T : Txt P w K mg A) : FnOk P w K mg base (L2.CX P w) 2 A.a_part A.d_part ["top", "below"] (spV K (tab A w) false f_part) := by
  have nd := sc_part.nd
  have h := fn_valD (P := P) (w := w) (mg := mg) (base := base) (T := tab A w) (k := 1) (fresh := false) (b := b_part) T.F_part sc_part (fun cdv Ar outer s H E hr => by
    have tk : Takes (defCx P w K mg base ["top", "below", "least"] "part" s_part A.a_part cdv Ar outer s H E) (defW E) := takes_of rfl rfl rfl rfl
    have ow : PassesOwn _ _ (defCx P w K mg base ["top", "below", "least"] "part" s_part A.a_part cdv Ar outer s H E).env (defCx P w K mg base ["top", "below", "least"] "part" s_part A.a_part cdv Ar outer s H E).xe := passes_of rfl
    exact (okS_cons (okS_if (okB_cmp v_lt (ok_var (i := 1)) ok_int) (okS_one (okS_par (i := 0) (j := 1) nd rfl (okM_sh (ok_neg (ok_var (i := 0)))) (okM_sh (ok_neg (ok_var (i := 1)))) rfl)) okS_nil)
  (okS_cons (okS_asg (i := 2) nd (ok_call (ok_common T) .nil (fun _ => .nil) (hr.mono (by decide)) T.mg_common tk (okA_cons (ok_b1 c_abs T.n_abs (OKE.top (ok_var (i := 0))) (by decide +kernel)) (okA_cons (ok_var (i := 1)) okA_nil))))
  (okS_one (okS_ret (ok_tup (okA_cons (ok_op v_div (ok_var (i := 0)) (ok_var (i := 2))) (okA_cons (ok_op v_div (ok_var (i := 1)) (ok_var (i := 2))) okA_nil))))))))
  have h2 : FnOk P w K mg base (L2.CX P w) 2 A.a_part A.d_part ["top", "below"] (spV K (tab A w) false f_part) := h
  exact h2

theorem ok_part {A : Ads} (T : Txt P w K mg A) : DefAt P w K mg base 2 A.a_part ["top", "below"] [] (spV K (tab A w) false f_part) := ⟨⟨_, fk_part T, T.B_part⟩, T.F_part.kp⟩
theorem okd1_part {A : Ads} (T : Txt P w K mg A) : DefAtD P w K mg base 2 A.a_part ["top", "below"] [A.vd_part_0] (spV K (tab A w) false f_part) := by
  obtain ⟨ds, h1, h2⟩ := T.Bd1_part
  exact ⟨ds, h1, ⟨⟨_, fk_part T, h2⟩, T.F_part.kp⟩⟩

theorem sc_as_part : FnScope ["thing"] ["thing"] (defScope s_as_part) := ⟨rfl, rfl, rfl, by decide +kernel, rfl, by decide +kernel, by decide +kernel⟩
theorem fk_as_part {A : Ads} (T : Txt P w K mg A) : FnOk P w K mg base (L2.CX P w) 3 A.a_as_part A.d_as_part ["thing"] (spV K (tab A w) false f_as_part) := by
  have nd := sc_as_part.nd
  have h := fn_val (P := P) (w := w) (mg := mg) (base := base) (T := tab A w) (k := 2) (fresh := false) (b := b_as_part) T.F_as_part sc_as_part (fun cdv Ar outer s H E hr => by
    have tk : Takes (defCx P w K mg base ["thing"] "as_part" s_as_part A.a_as_part cdv Ar outer s H E) (defW E) := takes_of rfl rfl rfl rfl
    have ow : PassesOwn _ _ (defCx P w K mg base ["thing"] "as_part" s_as_part A.a_as_part cdv Ar outer s H E).env (defCx P w K mg base ["thing"] "as_part" s_as_part A.a_as_part cdv Ar outer s H E).xe := passes_of rfl
    exact (okS_cons (okS_if (okB_not (okB_bool (ok_call (ok_is_part T) .nil (fun _ => .nil) (hr.mono (by decide)) T.mg_is_part tk (okA_cons (ok_var (i := 0)) okA_nil)))) (okS_one (okS_raise0 rfl tk (T.xc_BadNumber _ rfl rfl) rfl)) okS_nil)
  (okS_one (okS_ret (ok_ifExp (okB_bool (ok_isTy (t := "tuple") (by simp) T.n_isinstance T.n_tuple (OKE.top (ok_var (i := 0))) (by decide +kernel) (by decide +kernel))) (ok_call (ok_part T) .nil (fun _ => .nil) (hr.mono (by decide)) T.mg_part tk (okA_cons (ok_idx (OKE.top (ok_var (i := 0))) ok_int) (okA_cons (ok_idx (OKE.top (ok_var (i := 0))) ok_int) okA_nil))) (ok_callD (okd1_part T) (fun B => (.cons (T.qd_part_0 B) .nil)) (hr.mono (by decide)) T.mg_part tk (okA_cons (ok_var (i := 0)) okA_nil)))))))
  have h2 : FnOk P w K mg base (L2.CX P w) 3 A.a_as_part A.d_as_part ["thing"] (spV K (tab A w) false f_as_part) := h
  exact h2

theorem ok_as_part {A : Ads} (T : Txt P w K mg A) : DefAt P w K mg base 3 A.a_as_part ["thing"] [] (spV K (tab A w) false f_as_part) := ⟨⟨_, fk_as_part T, T.B_as_part⟩, T.F_as_part.kp⟩

theorem sc_check_volumes : FnScope ["volumes", "one"] ["volumes"] (defScope s_check_volumes) := ⟨rfl, rfl, rfl, by decide +kernel, rfl, by decide +kernel, by decide +kernel⟩
theorem fk_check_volumes {A : Ads} (T : Txt P w K mg A) : FnOk P w K mg base (L2.CX P w) 4 A.a_check_volumes A.d_check_volumes ["volumes"] (spV K (tab A w) false f_check_volumes) := by
  have nd := sc_check_volumes.nd
  have h := fn_val (P := P) (w := w) (mg := mg) (base := base) (T := tab A w) (k := 3) (fresh := false) (b := b_check_volumes) T.F_check_volumes sc_check_volumes (fun cdv Ar outer s H E hr => by
    have tk : Takes (defCx P w K mg base ["volumes", "one"] "check_volumes" s_check_volumes A.a_check_volumes cdv Ar outer s H E) (defW E) := takes_of rfl rfl rfl rfl
    have ow : PassesOwn _ _ (defCx P w K mg base ["volumes", "one"] "check_volumes" s_check_volumes A.a_check_volumes cdv Ar outer s H E).env (defCx P w K mg base ["volumes", "one"] "check_volumes" s_check_volumes A.a_check_volumes cdv Ar outer s H E).xe := passes_of rfl
    exact (okS_cons (okS_if (okB_w (okW_or (okB_not (okB_bool (ok_isTy2 (t := "list") (u := "tuple") (by simp) (by simp) T.n_isinstance T.n_list T.n_tuple (ok_var (i := 0)) (by decide +kernel) (by decide +kernel) (by decide +kernel)))) (okW_or1 (okB_not (okB_bool (ok_b1 (c_all rfl) T.n_all (OKE.top (OKO.toE (ok_comp nd rfl (okI_seq (ok_var (i := 0))) (blkOk_by (own := [("one", 1)]) (by rfl)) (fun s1 H1 C1 cl1 fp1 => (okG_name (i := 1) nd)) (fun s1 H1 C1 cl1 fp1 => okPs_nil) (fun s1 H1 C1 cl1 fp1 => (ok_call (ok_is_part T) .nil (fun _ => .nil) (hr.mono (by decide)) T.mg_is_part takesNone (okA_cons (ok_var (i := 1)) okA_nil)))))) (by decide +kernel))))))) (okS_one (okS_raise0 rfl tk (T.xc_BadStart _ rfl rfl) rfl)) okS_nil)
  (okS_cons (okS_expr (ok_call (ok_check_length T) .nil (fun _ => .nil) (hr.mono (by decide)) T.mg_check_length tk (okA_cons (ok_b1 c_len T.n_len (OKE.top (ok_var (i := 0))) (by decide +kernel)) okA_nil)))
  (okS_one (okS_ret (ok_t1 c_tuple T.n_tuple (OKE.top (OKO.toE (ok_comp nd rfl (okI_seq (ok_var (i := 0))) (blkOk_by (own := [("one", 1)]) (by rfl)) (fun s1 H1 C1 cl1 fp1 => (okG_name (i := 1) nd)) (fun s1 H1 C1 cl1 fp1 => okPs_nil) (fun s1 H1 C1 cl1 fp1 => (ok_call (ok_as_part T) .nil (fun _ => .nil) (hr.mono (by decide)) T.mg_as_part takesNone (okA_cons (ok_var (i := 1)) okA_nil)))))) (by decide +kernel)))))))
  have h2 : FnOk P w K mg base (L2.CX P w) 4 A.a_check_volumes A.d_check_volumes ["volumes"] (spV K (tab A w) false f_check_volumes) := h
  exact h2

theorem ok_check_volumes {A : Ads} (T : Txt P w K mg A) : DefAt P w K mg base 4 A.a_check_volumes ["volumes"] [] (spV K (tab A w) false f_check_volumes) := ⟨⟨_, fk_check_volumes T, T.B_check_volumes⟩, T.F_check_volumes.kp⟩

theorem sc_lapped : FnScope ["program", "volumes", "laps", "told", "_"] ["program", "volumes", "laps"] (defScope s_lapped) := ⟨rfl, rfl, rfl, by decide +kernel, rfl, by decide +kernel, by decide +kernel⟩
theorem fk_lapped {A : Ads} (T : Txt P w K mg A) : FnOk P w K mg base (L2.CX P w) 5 A.a_lapped A.d_lapped ["program", "volumes", "laps"] (spV K (tab A w) false f_lapped) := by
  have nd := sc_lapped.nd
  have h := fn_val (P := P) (w := w) (mg := mg) (base := base) (T := tab A w) (k := 4) (fresh := false) (b := b_lapped) T.F_lapped sc_lapped (fun cdv Ar outer s H E hr => by
    have tk : Takes (defCx P w K mg base ["program", "volumes", "laps", "told", "_"] "lapped" s_lapped A.a_lapped cdv Ar outer s H E) (defW E) := takes_of rfl rfl rfl rfl
    have ow : PassesOwn _ _ (defCx P w K mg base ["program", "volumes", "laps", "told", "_"] "lapped" s_lapped A.a_lapped cdv Ar outer s H E).env (defCx P w K mg base ["program", "volumes", "laps", "told", "_"] "lapped" s_lapped A.a_lapped cdv Ar outer s H E).xe := passes_of rfl
    exact (okS_cons (okS_expr (ok_call (ok_check_program T) .nil (fun _ => .nil) (hr.mono (by decide)) T.mg_check_program tk (okA_cons (ok_var (i := 0)) okA_nil)))
  (okS_cons (okS_asg (i := 3) nd (ok_call (ok_check_volumes T) .nil (fun _ => .nil) (hr.mono (by decide)) T.mg_check_volumes tk (okA_cons (ok_var (i := 1)) okA_nil)))
  (okS_cons (okS_expr (ok_call (ok_check_laps T) .nil (fun _ => .nil) (hr.mono (by decide)) T.mg_check_laps tk (okA_cons (ok_var (i := 2)) okA_nil)))
  (okS_cons (okS_for rfl ow (okI_rng1 T.n_range (ok_var (i := 2))) (okG_name (i := 4) nd) okSs_bad)
  (okS_one (okS_ret (ok_var (i := 3)))))))))
  have h2 : FnOk P w K mg base (L2.CX P w) 5 A.a_lapped A.d_lapped ["program", "volumes", "laps"] (spV K (tab A w) false f_lapped) := h
  exact h2

theorem ok_lapped {A : Ads} (T : Txt P w K mg A) : DefAt P w K mg base 5 A.a_lapped ["program", "volumes", "laps"] [] (spV K (tab A w) false f_lapped) := ⟨⟨_, fk_lapped T, T.B_lapped⟩, T.F_lapped.kp⟩

theorem sc_lap_limit : FnScope ["program", "volumes", "told", "found", "first", "last", "whole"] ["program", "volumes"] (defScope s_lap_limit) := ⟨rfl, rfl, rfl, by decide +kernel, rfl, by decide +kernel, by decide +kernel⟩
theorem fk_lap_limit {A : Ads} (T : Txt P w K mg A) : FnOk P w K mg base (L2.CX P w) 5 A.a_lap_limit A.d_lap_limit ["program", "volumes"] (spV K (tab A w) false f_lap_limit) := by
  have nd := sc_lap_limit.nd
  have h := fn_val (P := P) (w := w) (mg := mg) (base := base) (T := tab A w) (k := 4) (fresh := false) (b := b_lap_limit) T.F_lap_limit sc_lap_limit (fun cdv Ar outer s H E hr => by
    have tk : Takes (defCx P w K mg base ["program", "volumes", "told", "found", "first", "last", "whole"] "lap_limit" s_lap_limit A.a_lap_limit cdv Ar outer s H E) (defW E) := takes_of rfl rfl rfl rfl
    have ow : PassesOwn _ _ (defCx P w K mg base ["program", "volumes", "told", "found", "first", "last", "whole"] "lap_limit" s_lap_limit A.a_lap_limit cdv Ar outer s H E).env (defCx P w K mg base ["program", "volumes", "told", "found", "first", "last", "whole"] "lap_limit" s_lap_limit A.a_lap_limit cdv Ar outer s H E).xe := passes_of rfl
    exact (okS_cons (okS_expr (ok_call (ok_check_program T) .nil (fun _ => .nil) (hr.mono (by decide)) T.mg_check_program tk (okA_cons (ok_var (i := 0)) okA_nil)))
  (okS_cons (okS_par (i := 2) (j := 3) nd rfl (okM_sh (ok_call (ok_check_volumes T) .nil (fun _ => .nil) (hr.mono (by decide)) T.mg_check_volumes tk (okA_cons (ok_var (i := 1)) okA_nil))) (okM_sh (OKO.toE (ok_lst okA_nil))) rfl)
  okSs_bad)))
  have h2 : FnOk P w K mg base (L2.CX P w) 5 A.a_lap_limit A.d_lap_limit ["program", "volumes"] (spV K (tab A w) false f_lap_limit) := h
  exact h2

theorem ok_lap_limit {A : Ads} (T : Txt P w K mg A) : DefAt P w K mg base 5 A.a_lap_limit ["program", "volumes"] [] (spV K (tab A w) false f_lap_limit) := ⟨⟨_, fk_lap_limit T, T.B_lap_limit⟩, T.F_lap_limit.kp⟩

theorem sc_moved : FnScope ["program", "volumes", "laps", "told", "found", "_", "late", "change", "one", "other"] ["program", "volumes", "laps"] (defScope s_moved) := ⟨rfl, rfl, rfl, by decide +kernel, rfl, by decide +kernel, by decide +kernel⟩
theorem fk_moved {A : Ads} (T : Txt P w K mg A) : FnOk P w K mg base (L2.CX P w) 5 A.a_moved A.d_moved ["program", "volumes", "laps"] (spV K (tab A w) false f_moved) := by
  have nd := sc_moved.nd
  have h := fn_val (P := P) (w := w) (mg := mg) (base := base) (T := tab A w) (k := 4) (fresh := false) (b := b_moved) T.F_moved sc_moved (fun cdv Ar outer s H E hr => by
    have tk : Takes (defCx P w K mg base ["program", "volumes", "laps", "told", "found", "_", "late", "change", "one", "other"] "moved" s_moved A.a_moved cdv Ar outer s H E) (defW E) := takes_of rfl rfl rfl rfl
    have ow : PassesOwn _ _ (defCx P w K mg base ["program", "volumes", "laps", "told", "found", "_", "late", "change", "one", "other"] "moved" s_moved A.a_moved cdv Ar outer s H E).env (defCx P w K mg base ["program", "volumes", "laps", "told", "found", "_", "late", "change", "one", "other"] "moved" s_moved A.a_moved cdv Ar outer s H E).xe := passes_of rfl
    exact (okS_cons (okS_expr (ok_call (ok_check_program T) .nil (fun _ => .nil) (hr.mono (by decide)) T.mg_check_program tk (okA_cons (ok_var (i := 0)) okA_nil)))
  (okS_cons (okS_par (i := 3) (j := 4) nd rfl (okM_sh (ok_call (ok_check_volumes T) .nil (fun _ => .nil) (hr.mono (by decide)) T.mg_check_volumes tk (okA_cons (ok_var (i := 1)) okA_nil))) (okM_sh (OKO.toE (ok_lst okA_nil))) rfl)
  (okS_cons (okS_expr (ok_call (ok_check_laps T) .nil (fun _ => .nil) (hr.mono (by decide)) T.mg_check_laps tk (okA_cons (ok_var (i := 2)) okA_nil)))
  okSs_bad))))
  have h2 : FnOk P w K mg base (L2.CX P w) 5 A.a_moved A.d_moved ["program", "volumes", "laps"] (spV K (tab A w) false f_moved) := h
  exact h2

theorem ok_moved {A : Ads} (T : Txt P w K mg A) : DefAt P w K mg base 5 A.a_moved ["program", "volumes", "laps"] [] (spV K (tab A w) false f_moved) := ⟨⟨_, fk_moved T, T.B_moved⟩, T.F_moved.kp⟩

theorem sc_lap_recurrence : FnScope ["program", "volumes", "basin", "told", "rows", "factors"] ["program", "volumes", "basin"] (defScope s_lap_recurrence) := ⟨rfl, rfl, rfl, by decide +kernel, rfl, by decide +kernel, by decide +kernel⟩
theorem fk_lap_recurrence {A : Ads} (T : Txt P w K mg A) : FnOk P w K mg base (L2.CX P w) 5 A.a_lap_recurrence A.d_lap_recurrence ["program", "volumes", "basin"] (spV K (tab A w) false f_lap_recurrence) := by
  have nd := sc_lap_recurrence.nd
  have h := fn_val (P := P) (w := w) (mg := mg) (base := base) (T := tab A w) (k := 4) (fresh := false) (b := b_lap_recurrence) T.F_lap_recurrence sc_lap_recurrence (fun cdv Ar outer s H E hr => by
    have tk : Takes (defCx P w K mg base ["program", "volumes", "basin", "told", "rows", "factors"] "lap_recurrence" s_lap_recurrence A.a_lap_recurrence cdv Ar outer s H E) (defW E) := takes_of rfl rfl rfl rfl
    have ow : PassesOwn _ _ (defCx P w K mg base ["program", "volumes", "basin", "told", "rows", "factors"] "lap_recurrence" s_lap_recurrence A.a_lap_recurrence cdv Ar outer s H E).env (defCx P w K mg base ["program", "volumes", "basin", "told", "rows", "factors"] "lap_recurrence" s_lap_recurrence A.a_lap_recurrence cdv Ar outer s H E).xe := passes_of rfl
    exact (okS_cons (okS_expr (ok_call (ok_check_program T) .nil (fun _ => .nil) (hr.mono (by decide)) T.mg_check_program tk (okA_cons (ok_var (i := 0)) okA_nil)))
  (okS_cons (okS_asg (i := 3) nd (ok_call (ok_check_volumes T) .nil (fun _ => .nil) (hr.mono (by decide)) T.mg_check_volumes tk (okA_cons (ok_var (i := 1)) okA_nil)))
  (okS_cons (okS_expr (ok_call (ok_check_basin T) .nil (fun _ => .nil) (hr.mono (by decide)) T.mg_check_basin tk (okA_cons (ok_var (i := 2)) (okA_cons (ok_b1 c_len T.n_len (OKE.top (ok_var (i := 3))) (by decide +kernel)) okA_nil))))
  okSs_bad))))
  have h2 : FnOk P w K mg base (L2.CX P w) 5 A.a_lap_recurrence A.d_lap_recurrence ["program", "volumes", "basin"] (spV K (tab A w) false f_lap_recurrence) := h
  exact h2

theorem ok_lap_recurrence {A : Ads} (T : Txt P w K mg A) : DefAt P w K mg base 5 A.a_lap_recurrence ["program", "volumes", "basin"] [] (spV K (tab A w) false f_lap_recurrence) := ⟨⟨_, fk_lap_recurrence T, T.B_lap_recurrence⟩, T.F_lap_recurrence.kp⟩

theorem sc__law_asked : FnScope ["_law_number", "_law_program", "_law_many", "_law_basin", "_law_volumes", "_law_laps"] ["_law_number", "_law_program", "_law_many", "_law_basin", "_law_volumes", "_law_laps"] (defScope s__law_asked) := ⟨rfl, rfl, rfl, by decide +kernel, rfl, by decide +kernel, by decide +kernel⟩
theorem fk__law_asked {A : Ads} (T : Txt P w K mg A) : FnOk P w K mg base (L2.CX P w) 6 A.a__law_asked A.d__law_asked ["_law_number", "_law_program", "_law_many", "_law_basin", "_law_volumes", "_law_laps"] (spV K (tab A w) false f__law_asked) := by
  have nd := sc__law_asked.nd
  have h := fn_val (P := P) (w := w) (mg := mg) (base := base) (T := tab A w) (k := 5) (fresh := false) (b := b__law_asked) T.F__law_asked sc__law_asked (fun cdv Ar outer s H E hr => by
    have tk : Takes (defCx P w K mg base ["_law_number", "_law_program", "_law_many", "_law_basin", "_law_volumes", "_law_laps"] "_law_asked" s__law_asked A.a__law_asked cdv Ar outer s H E) (defW E) := takes_of rfl rfl rfl rfl
    have ow : PassesOwn _ _ (defCx P w K mg base ["_law_number", "_law_program", "_law_many", "_law_basin", "_law_volumes", "_law_laps"] "_law_asked" s__law_asked A.a__law_asked cdv Ar outer s H E).env (defCx P w K mg base ["_law_number", "_law_program", "_law_many", "_law_basin", "_law_volumes", "_law_laps"] "_law_asked" s__law_asked A.a__law_asked cdv Ar outer s H E).xe := passes_of rfl
    exact (okS_cons (okS_if (okB_cmp v_lt (ok_var (i := 0)) ok_int) (okS_cons (okS_if (okB_cmp v_lt (ok_var (i := 0)) ok_int) (okS_one (okS_ret (ok_ifExp (okB_cmpT (vT_eq hr.units) (OKE.top (ok_var (i := 0))) (OKE.top ok_int)) (ok_call (ok_gives T) .nil (fun _ => .nil) (hr.mono (by decide)) T.mg_gives tk (okA_cons (ok_var (i := 1)) (okA_cons (ok_var (i := 2)) (okA_cons (ok_var (i := 3)) okA_nil)))) (ok_call (ok_got T) .nil (fun _ => .nil) (hr.mono (by decide)) T.mg_got tk (okA_cons (ok_var (i := 1)) (okA_cons (ok_var (i := 2)) (okA_cons (ok_var (i := 3)) okA_nil))))))) okS_nil)
  (okS_one (okS_ret (ok_ifExp (okB_cmpT (vT_eq hr.units) (OKE.top (ok_var (i := 0))) (OKE.top ok_int)) (ok_call (ok_is_even_handed T) .nil (fun _ => .nil) (hr.mono (by decide)) T.mg_is_even_handed tk (okA_cons (ok_var (i := 1)) (okA_cons (ok_var (i := 2)) okA_nil))) (ok_call (ok_stretches T) .nil (fun _ => .nil) (hr.mono (by decide)) T.mg_stretches tk (okA_cons (ok_var (i := 1)) (okA_cons (ok_var (i := 2)) okA_nil))))))) okS_nil)
  (okS_cons (okS_if (okB_cmp v_lt (ok_var (i := 0)) ok_int) (okS_cons (okS_if (okB_cmp v_lt (ok_var (i := 0)) ok_int) (okS_one (okS_ret (ok_ifExp (okB_cmpT (vT_eq hr.units) (OKE.top (ok_var (i := 0))) (OKE.top ok_int)) (ok_call (ok_left_behind T) .nil (fun _ => .nil) (hr.mono (by decide)) T.mg_left_behind tk (okA_cons (ok_var (i := 1)) (okA_cons (ok_var (i := 2)) (okA_cons (ok_var (i := 5)) okA_nil)))) (ok_call (ok_judge_laps T) .nil (fun _ => .nil) (hr.mono (by decide)) T.mg_judge_laps tk (okA_cons (ok_var (i := 1)) (okA_cons (ok_var (i := 2)) okA_nil)))))) okS_nil)
  (okS_one (okS_ret (ok_ifExp (okB_cmpT (vT_eq hr.units) (OKE.top (ok_var (i := 0))) (OKE.top ok_int)) (ok_call (ok_lapped T) .nil (fun _ => .nil) (hr.mono (by decide)) T.mg_lapped tk (okA_cons (ok_var (i := 1)) (okA_cons (ok_var (i := 4)) (okA_cons (ok_var (i := 5)) okA_nil)))) (ok_call (ok_lap_limit T) .nil (fun _ => .nil) (hr.mono (by decide)) T.mg_lap_limit tk (okA_cons (ok_var (i := 1)) (okA_cons (ok_var (i := 4)) okA_nil))))))) okS_nil)
  (okS_one (okS_ret (ok_ifExp (okB_cmpT (vT_eq hr.units) (OKE.top (ok_var (i := 0))) (OKE.top ok_int)) (ok_call (ok_moved T) .nil (fun _ => .nil) (hr.mono (by decide)) T.mg_moved tk (okA_cons (ok_var (i := 1)) (okA_cons (ok_var (i := 4)) (okA_cons (ok_var (i := 5)) okA_nil)))) (ok_call (ok_lap_recurrence T) .nil (fun _ => .nil) (hr.mono (by decide)) T.mg_lap_recurrence tk (okA_cons (ok_var (i := 1)) (okA_cons (ok_var (i := 4)) (okA_cons (ok_var (i := 3)) okA_nil))))))))))
  have h2 : FnOk P w K mg base (L2.CX P w) 6 A.a__law_asked A.d__law_asked ["_law_number", "_law_program", "_law_many", "_law_basin", "_law_volumes", "_law_laps"] (spV K (tab A w) false f__law_asked) := h
  exact h2

theorem ok__law_asked {A : Ads} (T : Txt P w K mg A) : DefAt P w K mg base 6 A.a__law_asked ["_law_number", "_law_program", "_law_many", "_law_basin", "_law_volumes", "_law_laps"] [] (spV K (tab A w) false f__law_asked) := ⟨⟨_, fk__law_asked T, T.B__law_asked⟩, T.F__law_asked.kp⟩

theorem sc_turned_back : FnScope ["program", "other", "told"] ["program"] (defScope s_turned_back) := ⟨rfl, rfl, rfl, by decide +kernel, rfl, by decide +kernel, by decide +kernel⟩
theorem fk_turned_back {A : Ads} (T : Txt P w K mg A) : FnOk P w K mg base (L2.CX P w) 4 A.a_turned_back A.d_turned_back ["program"] (spV K (tab A w) false f_turned_back) := by
  have nd := sc_turned_back.nd
  have h := fn_val (P := P) (w := w) (mg := mg) (base := base) (T := tab A w) (k := 3) (fresh := false) (b := b_turned_back) T.F_turned_back sc_turned_back (fun cdv Ar outer s H E hr => by
    have tk : Takes (defCx P w K mg base ["program", "other", "told"] "turned_back" s_turned_back A.a_turned_back cdv Ar outer s H E) (defW E) := takes_of rfl rfl rfl rfl
    have ow : PassesOwn _ _ (defCx P w K mg base ["program", "other", "told"] "turned_back" s_turned_back A.a_turned_back cdv Ar outer s H E).env (defCx P w K mg base ["program", "other", "told"] "turned_back" s_turned_back A.a_turned_back cdv Ar outer s H E).xe := passes_of rfl
    exact (okS_cons (okS_expr (ok_call (ok_check_program T) .nil (fun _ => .nil) (hr.mono (by decide)) T.mg_check_program tk (okA_cons (ok_var (i := 0)) okA_nil)))
  okSs_bad))
  have h2 : FnOk P w K mg base (L2.CX P w) 4 A.a_turned_back A.d_turned_back ["program"] (spV K (tab A w) false f_turned_back) := h
  exact h2

theorem ok_turned_back {A : Ads} (T : Txt P w K mg A) : DefAt P w K mg base 4 A.a_turned_back ["program"] [] (spV K (tab A w) false f_turned_back) := ⟨⟨_, fk_turned_back T, T.B_turned_back⟩, T.F_turned_back.kp⟩

theorem sc_straightened : FnScope ["one", "other", "rounds"] ["one", "other"] (defScope s_straightened) := ⟨rfl, rfl, rfl, by decide +kernel, rfl, by decide +kernel, by decide +kernel⟩
theorem fk_straightened {A : Ads} (T : Txt P w K mg A) : FnOk P w K mg base (L2.CX P w) 1 A.a_straightened A.d_straightened ["one", "other"] (spV K (tab A w) false f_straightened) := by
  have nd := sc_straightened.nd
  have h := fn_val (P := P) (w := w) (mg := mg) (base := base) (T := tab A w) (k := 0) (fresh := false) (b := b_straightened) T.F_straightened sc_straightened (fun cdv Ar outer s H E hr => by
    have tk : Takes (defCx P w K mg base ["one", "other", "rounds"] "straightened" s_straightened A.a_straightened cdv Ar outer s H E) (defW E) := takes_of rfl rfl rfl rfl
    have ow : PassesOwn _ _ (defCx P w K mg base ["one", "other", "rounds"] "straightened" s_straightened A.a_straightened cdv Ar outer s H E).env (defCx P w K mg base ["one", "other", "rounds"] "straightened" s_straightened A.a_straightened cdv Ar outer s H E).xe := passes_of rfl
    exact (okS_cons (okS_asg (i := 2) nd (ok_tup (okA_star (OKE.top (ok_attr (OKE.top (ok_var (i := 0))) (fun c _ _ _ => T.at_rounds c))) (okA_star (OKE.top (ok_attr (OKE.top (ok_var (i := 1))) (fun c _ _ _ => T.at_rounds c))) okA_nil))))
  (okS_cons (okS_if (okB_w (okW_and (okB_cmpT (vT_in (hu65 hr)) (OKE.top (ok_glob T.mg_RIGHT T.r_RIGHT (T.q_RIGHT))) (OKE.top (ok_var (i := 2)))) (okW_and1 (okB_cmpT (vT_in (hu65 hr)) (OKE.top (ok_glob T.mg_LEFT T.r_LEFT (T.q_LEFT))) (OKE.top (ok_var (i := 2))))))) (okS_one (okS_raise0 rfl tk (T.xc_Mixed _ rfl rfl) rfl)) okS_nil)
  okSs_bad)))
  have h2 : FnOk P w K mg base (L2.CX P w) 1 A.a_straightened A.d_straightened ["one", "other"] (spV K (tab A w) false f_straightened) := h
  exact h2

theorem ok_straightened {A : Ads} (T : Txt P w K mg A) : DefAt P w K mg base 1 A.a_straightened ["one", "other"] [] (spV K (tab A w) false f_straightened) := ⟨⟨_, fk_straightened T, T.B_straightened⟩, T.F_straightened.kp⟩

theorem sc_check_programs : FnScope ["one", "other"] ["one", "other"] (defScope s_check_programs) := ⟨rfl, rfl, rfl, by decide +kernel, rfl, by decide +kernel, by decide +kernel⟩
theorem fk_check_programs {A : Ads} (T : Txt P w K mg A) : FnOk P w K mg base (L2.CX P w) 4 A.a_check_programs A.d_check_programs ["one", "other"] (spV K (tab A w) false f_check_programs) := by
  have nd := sc_check_programs.nd
  have h := fn_val (P := P) (w := w) (mg := mg) (base := base) (T := tab A w) (k := 3) (fresh := false) (b := b_check_programs) T.F_check_programs sc_check_programs (fun cdv Ar outer s H E hr => by
    have tk : Takes (defCx P w K mg base ["one", "other"] "check_programs" s_check_programs A.a_check_programs cdv Ar outer s H E) (defW E) := takes_of rfl rfl rfl rfl
    have ow : PassesOwn _ _ (defCx P w K mg base ["one", "other"] "check_programs" s_check_programs A.a_check_programs cdv Ar outer s H E).env (defCx P w K mg base ["one", "other"] "check_programs" s_check_programs A.a_check_programs cdv Ar outer s H E).xe := passes_of rfl
    exact (okS_cons (okS_expr (ok_call (ok_check_program T) .nil (fun _ => .nil) (hr.mono (by decide)) T.mg_check_program tk (okA_cons (ok_var (i := 0)) okA_nil)))
  (okS_cons (okS_expr (ok_call (ok_check_program T) .nil (fun _ => .nil) (hr.mono (by decide)) T.mg_check_program tk (okA_cons (ok_var (i := 1)) okA_nil)))
  (okS_one (okS_expr (ok_call (ok_straightened T) .nil (fun _ => .nil) (hr.mono (by decide)) T.mg_straightened tk (okA_cons (ok_var (i := 0)) (okA_cons (ok_var (i := 1)) okA_nil))))))))
  have h2 : FnOk P w K mg base (L2.CX P w) 4 A.a_check_programs A.d_check_programs ["one", "other"] (spV K (tab A w) false f_check_programs) := h
  exact h2

theorem ok_check_programs {A : Ads} (T : Txt P w K mg A) : DefAt P w K mg base 4 A.a_check_programs ["one", "other"] [] (spV K (tab A w) false f_check_programs) := ⟨⟨_, fk_check_programs T, T.B_check_programs⟩, T.F_check_programs.kp⟩

theorem sc_tidy_program : FnScope ["program", "at", "rounds", "less"] ["program"] (defScope s_tidy_program) := ⟨rfl, rfl, rfl, by decide +kernel, rfl, by decide +kernel, by decide +kernel⟩
theorem fk_tidy_program {A : Ads} (T : Txt P w K mg A) : FnOk P w K mg base (L2.CX P w) 5 A.a_tidy_program A.d_tidy_program ["program"] (spV K (tab A w) false f_tidy_program) := by
  have nd := sc_tidy_program.nd
  have h := fn_val (P := P) (w := w) (mg := mg) (base := base) (T := tab A w) (k := 4) (fresh := false) (b := b_tidy_program) T.F_tidy_program sc_tidy_program (fun cdv Ar outer s H E hr => by
    have tk : Takes (defCx P w K mg base ["program", "at", "rounds", "less"] "tidy_program" s_tidy_program A.a_tidy_program cdv Ar outer s H E) (defW E) := takes_of rfl rfl rfl rfl
    have ow : PassesOwn _ _ (defCx P w K mg base ["program", "at", "rounds", "less"] "tidy_program" s_tidy_program A.a_tidy_program cdv Ar outer s H E).env (defCx P w K mg base ["program", "at", "rounds", "less"] "tidy_program" s_tidy_program A.a_tidy_program cdv Ar outer s H E).xe := passes_of rfl
    exact (okS_cons (okS_expr (ok_call (ok_check_programs T) .nil (fun _ => .nil) (hr.mono (by decide)) T.mg_check_programs tk (okA_cons (ok_var (i := 0)) (okA_cons (ok_var (i := 0)) okA_nil))))
  okSs_bad))
  have h2 : FnOk P w K mg base (L2.CX P w) 5 A.a_tidy_program A.d_tidy_program ["program"] (spV K (tab A w) false f_tidy_program) := h
  exact h2

theorem ok_tidy_program {A : Ads} (T : Txt P w K mg A) : DefAt P w K mg base 5 A.a_tidy_program ["program"] [] (spV K (tab A w) false f_tidy_program) := ⟨⟨_, fk_tidy_program T, T.B_tidy_program⟩, T.F_tidy_program.kp⟩

theorem sc_judge_even : FnScope ["program", "weir", "found", "rest", "one", "number"] ["program"] (defScope s_judge_even) := ⟨rfl, rfl, rfl, by decide +kernel, rfl, by decide +kernel, by decide +kernel⟩
theorem fk_judge_even {A : Ads} (T : Txt P w K mg A) : FnOk P w K mg base (L2.CX P w) 4 A.a_judge_even A.d_judge_even ["program"] (spV K (tab A w) false f_judge_even) := by
  have nd := sc_judge_even.nd
  have h := fn_val (P := P) (w := w) (mg := mg) (base := base) (T := tab A w) (k := 3) (fresh := false) (b := b_judge_even) T.F_judge_even sc_judge_even (fun cdv Ar outer s H E hr => by
    have tk : Takes (defCx P w K mg base ["program", "weir", "found", "rest", "one", "number"] "judge_even" s_judge_even A.a_judge_even cdv Ar outer s H E) (defW E) := takes_of rfl rfl rfl rfl
    have ow : PassesOwn _ _ (defCx P w K mg base ["program", "weir", "found", "rest", "one", "number"] "judge_even" s_judge_even A.a_judge_even cdv Ar outer s H E).env (defCx P w K mg base ["program", "weir", "found", "rest", "one", "number"] "judge_even" s_judge_even A.a_judge_even cdv Ar outer s H E).xe := passes_of rfl
    exact (okS_cons (okS_expr (ok_call (ok_check_program T) .nil (fun _ => .nil) (hr.mono (by decide)) T.mg_check_program tk (okA_cons (ok_var (i := 0)) okA_nil)))
  okSs_bad))
  have h2 : FnOk P w K mg base (L2.CX P w) 4 A.a_judge_even A.d_judge_even ["program"] (spV K (tab A w) false f_judge_even) := h
  exact h2

theorem ok_judge_even {A : Ads} (T : Txt P w K mg A) : DefAt P w K mg base 4 A.a_judge_even ["program"] [] (spV K (tab A w) false f_judge_even) := ⟨⟨_, fk_judge_even T, T.B_judge_even⟩, T.F_judge_even.kp⟩

theorem sc_check_start : FnScope ["start", "back"] ["start", "back"] (defScope s_check_start) := ⟨rfl, rfl, rfl, by decide +kernel, rfl, by decide +kernel, by decide +kernel⟩
theorem fk_check_start {A : Ads} (T : Txt P w K mg A) : FnOk P w K mg base (L2.CX P w) 2 A.a_check_start A.d_check_start ["start", "back"] (spV K (tab A w) false f_check_start) := by
  have nd := sc_check_start.nd
  have h := fn_val (P := P) (w := w) (mg := mg) (base := base) (T := tab A w) (k := 1) (fresh := false) (b := b_check_start) T.F_check_start sc_check_start (fun cdv Ar outer s H E hr => by
    have tk : Takes (defCx P w K mg base ["start", "back"] "check_start" s_check_start A.a_check_start cdv Ar outer s H E) (defW E) := takes_of rfl rfl rfl rfl
    have ow : PassesOwn _ _ (defCx P w K mg base ["start", "back"] "check_start" s_check_start A.a_check_start cdv Ar outer s H E).env (defCx P w K mg base ["start", "back"] "check_start" s_check_start A.a_check_start cdv Ar outer s H E).xe := passes_of rfl
    exact (okS_cons (okS_if (okB_w (okW_or (okB_not (okB_bool (ok_isTy (t := "str") (by simp) T.n_isinstance T.n_str (OKE.top (ok_var (i := 0))) (by decide +kernel) (by decide +kernel)))) (okW_or1 (okB_cmpT (vT_notIn (hu65 hr)) (OKE.top (ok_var (i := 0))) (OKE.top (ok_glob T.mg_STARTS T.r_STARTS (T.q_STARTS))))))) (okS_one (okS_raise0 rfl tk (T.xc_BadStart _ rfl rfl) rfl)) okS_nil)
  (okS_one (okS_if (okB_w (okW_or (okB_not (okB_bool (ok_call (ok_is_whole T) .nil (fun _ => .nil) (hr.mono (by decide)) T.mg_is_whole tk (okA_cons (ok_var (i := 1)) okA_nil)))) (okW_or1 (okB_not (okB_chain v_le v_le ok_int (ok_var (i := 1)) ok_int))))) (okS_one (okS_raise0 rfl tk (T.xc_BadStart _ rfl rfl) rfl)) okS_nil))))
  have h2 : FnOk P w K mg base (L2.CX P w) 2 A.a_check_start A.d_check_start ["start", "back"] (spV K (tab A w) false f_check_start) := h
  exact h2

theorem ok_check_start {A : Ads} (T : Txt P w K mg A) : DefAt P w K mg base 2 A.a_check_start ["start", "back"] [] (spV K (tab A w) false f_check_start) := ⟨⟨_, fk_check_start T, T.B_check_start⟩, T.F_check_start.kp⟩

theorem sc_recurrence : FnScope ["program", "start", "back", "told", "factors"] ["program", "start", "back"] (defScope s_recurrence) := ⟨rfl, rfl, rfl, by decide +kernel, rfl, by decide +kernel, by decide +kernel⟩
theorem fk_recurrence {A : Ads} (T : Txt P w K mg A) : FnOk P w K mg base (L2.CX P w) 4 A.a_recurrence A.d_recurrence ["program", "start", "back"] (spV K (tab A w) false f_recurrence) := by
  have nd := sc_recurrence.nd
  have h := fn_val (P := P) (w := w) (mg := mg) (base := base) (T := tab A w) (k := 3) (fresh := false) (b := b_recurrence) T.F_recurrence sc_recurrence (fun cdv Ar outer s H E hr => by
    have tk : Takes (defCx P w K mg base ["program", "start", "back", "told", "factors"] "recurrence" s_recurrence A.a_recurrence cdv Ar outer s H E) (defW E) := takes_of rfl rfl rfl rfl
    have ow : PassesOwn _ _ (defCx P w K mg base ["program", "start", "back", "told", "factors"] "recurrence" s_recurrence A.a_recurrence cdv Ar outer s H E).env (defCx P w K mg base ["program", "start", "back", "told", "factors"] "recurrence" s_recurrence A.a_recurrence cdv Ar outer s H E).xe := passes_of rfl
    exact (okS_cons (okS_expr (ok_call (ok_check_program T) .nil (fun _ => .nil) (hr.mono (by decide)) T.mg_check_program tk (okA_cons (ok_var (i := 0)) okA_nil)))
  (okS_cons (okS_expr (ok_call (ok_check_start T) .nil (fun _ => .nil) (hr.mono (by decide)) T.mg_check_start tk (okA_cons (ok_var (i := 1)) (okA_cons (ok_var (i := 2)) okA_nil))))
  okSs_bad)))
  have h2 : FnOk P w K mg base (L2.CX P w) 4 A.a_recurrence A.d_recurrence ["program", "start", "back"] (spV K (tab A w) false f_recurrence) := h
  exact h2

theorem ok_recurrence {A : Ads} (T : Txt P w K mg A) : DefAt P w K mg base 4 A.a_recurrence ["program", "start", "back"] [] (spV K (tab A w) false f_recurrence) := ⟨⟨_, fk_recurrence T, T.B_recurrence⟩, T.F_recurrence.kp⟩

theorem sc_judge_programs : FnScope ["one", "other", "found"] ["one", "other"] (defScope s_judge_programs) := ⟨rfl, rfl, rfl, by decide +kernel, rfl, by decide +kernel, by decide +kernel⟩
theorem fk_judge_programs {A : Ads} (T : Txt P w K mg A) : FnOk P w K mg base (L2.CX P w) 5 A.a_judge_programs A.d_judge_programs ["one", "other"] (spV K (tab A w) false f_judge_programs) := by
  have nd := sc_judge_programs.nd
  have h := fn_val (P := P) (w := w) (mg := mg) (base := base) (T := tab A w) (k := 4) (fresh := false) (b := b_judge_programs) T.F_judge_programs sc_judge_programs (fun cdv Ar outer s H E hr => by
    have tk : Takes (defCx P w K mg base ["one", "other", "found"] "judge_programs" s_judge_programs A.a_judge_programs cdv Ar outer s H E) (defW E) := takes_of rfl rfl rfl rfl
    have ow : PassesOwn _ _ (defCx P w K mg base ["one", "other", "found"] "judge_programs" s_judge_programs A.a_judge_programs cdv Ar outer s H E).env (defCx P w K mg base ["one", "other", "found"] "judge_programs" s_judge_programs A.a_judge_programs cdv Ar outer s H E).xe := passes_of rfl
    exact (okS_cons (okS_expr (ok_call (ok_check_programs T) .nil (fun _ => .nil) (hr.mono (by decide)) T.mg_check_programs tk (okA_cons (ok_var (i := 0)) (okA_cons (ok_var (i := 1)) okA_nil))))
  okSs_bad))
  have h2 : FnOk P w K mg base (L2.CX P w) 5 A.a_judge_programs A.d_judge_programs ["one", "other"] (spV K (tab A w) false f_judge_programs) := h
  exact h2

theorem ok_judge_programs {A : Ads} (T : Txt P w K mg A) : DefAt P w K mg base 5 A.a_judge_programs ["one", "other"] [] (spV K (tab A w) false f_judge_programs) := ⟨⟨_, fk_judge_programs T, T.B_judge_programs⟩, T.F_judge_programs.kp⟩

theorem sc_judge_later : FnScope ["one", "other"] ["one", "other"] (defScope s_judge_later) := ⟨rfl, rfl, rfl, by decide +kernel, rfl, by decide +kernel, by decide +kernel⟩
theorem fk_judge_later {A : Ads} (T : Txt P w K mg A) : FnOk P w K mg base (L2.CX P w) 5 A.a_judge_later A.d_judge_later ["one", "other"] (spV K (tab A w) false f_judge_later) := by
  have nd := sc_judge_later.nd
  have h := fn_val (P := P) (w := w) (mg := mg) (base := base) (T := tab A w) (k := 4) (fresh := false) (b := b_judge_later) T.F_judge_later sc_judge_later (fun cdv Ar outer s H E hr => by
    have tk : Takes (defCx P w K mg base ["one", "other"] "judge_later" s_judge_later A.a_judge_later cdv Ar outer s H E) (defW E) := takes_of rfl rfl rfl rfl
    have ow : PassesOwn _ _ (defCx P w K mg base ["one", "other"] "judge_later" s_judge_later A.a_judge_later cdv Ar outer s H E).env (defCx P w K mg base ["one", "other"] "judge_later" s_judge_later A.a_judge_later cdv Ar outer s H E).xe := passes_of rfl
    exact (okS_cons (okS_expr (ok_call (ok_check_programs T) .nil (fun _ => .nil) (hr.mono (by decide)) T.mg_check_programs tk (okA_cons (ok_var (i := 0)) (okA_cons (ok_var (i := 1)) okA_nil))))
  okSs_bad))
  have h2 : FnOk P w K mg base (L2.CX P w) 5 A.a_judge_later A.d_judge_later ["one", "other"] (spV K (tab A w) false f_judge_later) := h
  exact h2

theorem ok_judge_later {A : Ads} (T : Txt P w K mg A) : DefAt P w K mg base 5 A.a_judge_later ["one", "other"] [] (spV K (tab A w) false f_judge_later) := ⟨⟨_, fk_judge_later T, T.B_judge_later⟩, T.F_judge_later.kp⟩

theorem sc_amount : FnScope ["program", "start", "back", "many"] ["program", "start", "back", "many"] (defScope s_amount) := ⟨rfl, rfl, rfl, by decide +kernel, rfl, by decide +kernel, by decide +kernel⟩
theorem fk_amount {A : Ads} (T : Txt P w K mg A) : FnOk P w K mg base (L2.CX P w) 4 A.a_amount A.d_amount ["program", "start", "back", "many"] (spV K (tab A w) false f_amount) := by
  have nd := sc_amount.nd
  have h := fn_val (P := P) (w := w) (mg := mg) (base := base) (T := tab A w) (k := 3) (fresh := false) (b := b_amount) T.F_amount sc_amount (fun cdv Ar outer s H E hr => by
    have tk : Takes (defCx P w K mg base ["program", "start", "back", "many"] "amount" s_amount A.a_amount cdv Ar outer s H E) (defW E) := takes_of rfl rfl rfl rfl
    have ow : PassesOwn _ _ (defCx P w K mg base ["program", "start", "back", "many"] "amount" s_amount A.a_amount cdv Ar outer s H E).env (defCx P w K mg base ["program", "start", "back", "many"] "amount" s_amount A.a_amount cdv Ar outer s H E).xe := passes_of rfl
    exact (okS_cons (okS_expr (ok_call (ok_check_program T) .nil (fun _ => .nil) (hr.mono (by decide)) T.mg_check_program tk (okA_cons (ok_var (i := 0)) okA_nil)))
  (okS_cons (okS_expr (ok_call (ok_check_start T) .nil (fun _ => .nil) (hr.mono (by decide)) T.mg_check_start tk (okA_cons (ok_var (i := 1)) (okA_cons (ok_var (i := 2)) okA_nil))))
  okSs_bad)))
  have h2 : FnOk P w K mg base (L2.CX P w) 4 A.a_amount A.d_amount ["program", "start", "back", "many"] (spV K (tab A w) false f_amount) := h
  exact h2

theorem ok_amount {A : Ads} (T : Txt P w K mg A) : DefAt P w K mg base 4 A.a_amount ["program", "start", "back", "many"] [] (spV K (tab A w) false f_amount) := ⟨⟨_, fk_amount T, T.B_amount⟩, T.F_amount.kp⟩

theorem sc_amounts : FnScope ["program", "start", "back", "most", "many"] ["program", "start", "back", "most"] (defScope s_amounts) := ⟨rfl, rfl, rfl, by decide +kernel, rfl, by decide +kernel, by decide +kernel⟩
theorem fk_amounts {A : Ads} (T : Txt P w K mg A) : FnOk P w K mg base (L2.CX P w) 5 A.a_amounts A.d_amounts ["program", "start", "back", "most"] (spV K (tab A w) true f_amounts) := by
  have nd := sc_amounts.nd
  have h := fn_val (P := P) (w := w) (mg := mg) (base := base) (T := tab A w) (k := 4) (fresh := true) (b := b_amounts) T.F_amounts sc_amounts (fun cdv Ar outer s H E hr => by
    have tk : Takes (defCx P w K mg base ["program", "start", "back", "most", "many"] "amounts" s_amounts A.a_amounts cdv Ar outer s H E) (defW E) := takes_of rfl rfl rfl rfl
    have ow : PassesOwn _ _ (defCx P w K mg base ["program", "start", "back", "most", "many"] "amounts" s_amounts A.a_amounts cdv Ar outer s H E).env (defCx P w K mg base ["program", "start", "back", "most", "many"] "amounts" s_amounts A.a_amounts cdv Ar outer s H E).xe := passes_of rfl
    exact (okS_one (okS_retO (ok_compX rfl rfl tk nd rfl (okI_rng2 T.n_range (ok_op v_add (ok_var (i := 2)) ok_int) (ok_op v_add (ok_op v_add (ok_var (i := 2)) ok_int) (ok_var (i := 3)))) (blkOk_by (own := [("many", 4)]) (by rfl)) (fun s1 H1 C1 cl1 fp1 => (okG_name (i := 4) nd)) (fun s1 H1 C1 cl1 fp1 => okPs_nil) (fun s1 H1 C1 cl1 fp1 xe1 hx1 => (ok_callC (ok_amount T) .nil (fun _ => .nil) (hr.mono (by decide)) T.mg_amount hx1 (okA_cons (ok_var (i := 0)) (okA_cons (ok_var (i := 1)) (okA_cons (ok_var (i := 2)) (okA_cons (ok_var (i := 4)) okA_nil))))))))))
  have h2 : FnOk P w K mg base (L2.CX P w) 5 A.a_amounts A.d_amounts ["program", "start", "back", "most"] (spV K (tab A w) true f_amounts) := h
  exact h2

theorem ok_amounts {A : Ads} (T : Txt P w K mg A) : DefAt P w K mg base 5 A.a_amounts ["program", "start", "back", "most"] [] (spV K (tab A w) true f_amounts) := ⟨⟨_, fk_amounts T, T.B_amounts⟩, T.F_amounts.kp⟩

theorem sc_check_kinds : FnScope ["kinds", "place", "one"] ["kinds"] (defScope s_check_kinds) := ⟨rfl, rfl, rfl, by decide +kernel, rfl, by decide +kernel, by decide +kernel⟩
theorem fk_check_kinds {A : Ads} (T : Txt P w K mg A) : FnOk P w K mg base (L2.CX P w) 3 A.a_check_kinds A.d_check_kinds ["kinds"] (spV K (tab A w) false f_check_kinds) := by
  have nd := sc_check_kinds.nd
  have h := fn_val (P := P) (w := w) (mg := mg) (base := base) (T := tab A w) (k := 2) (fresh := false) (b := b_check_kinds) T.F_check_kinds sc_check_kinds (fun cdv Ar outer s H E hr => by
    have tk : Takes (defCx P w K mg base ["kinds", "place", "one"] "check_kinds" s_check_kinds A.a_check_kinds cdv Ar outer s H E) (defW E) := takes_of rfl rfl rfl rfl
    have ow : PassesOwn _ _ (defCx P w K mg base ["kinds", "place", "one"] "check_kinds" s_check_kinds A.a_check_kinds cdv Ar outer s H E).env (defCx P w K mg base ["kinds", "place", "one"] "check_kinds" s_check_kinds A.a_check_kinds cdv Ar outer s H E).xe := passes_of rfl
    exact (okS_cons (okS_if (okB_w (okW_or (okB_not (okB_bool (ok_isTy2 (t := "list") (u := "tuple") (by simp) (by simp) T.n_isinstance T.n_list T.n_tuple (ok_var (i := 0)) (by decide +kernel) (by decide +kernel) (by decide +kernel)))) (okW_or1 (okB_cmp v_gt (ok_b1 c_len T.n_len (OKE.top (ok_var (i := 0))) (by decide +kernel)) (ok_glob T.mg_MOST_KINDS T.r_MOST_KINDS (T.q_MOST_KINDS)))))) (okS_one (okS_raise1 (k := 1) rfl tk (T.su_BadProgram _) (hr.mono (by decide)) ok_non)) okS_nil)
  (okS_one (okS_for rfl ow (okI_enum T.n_enumerate (ok_var (i := 0))) (okG_tup rfl (okGs_cons (okG_name (i := 1) nd) (okGs_cons (okG_name (i := 2) nd) okGs_nil))) (okS_one (okS_if (okB_w (okW_or (okB_not (okB_bool (ok_call (ok_is_round T) .nil (fun _ => .nil) (hr.mono (by decide)) T.mg_is_round tk (okA_cons (ok_var (i := 2)) okA_nil)))) (okW_or1 (okB_cmp (OpTV.toV (vT_in (hu65 hr))) (ok_var (i := 2)) (OKO.toE (ok_slL (OKE.top (ok_var (i := 0))) okP_no (okP_at (ok_var (i := 1))))))))) (okS_one (okS_raise1 (k := 1) rfl tk (T.su_BadProgram _) (hr.mono (by decide)) (ok_var (i := 1)))) okS_nil))))))
  have h2 : FnOk P w K mg base (L2.CX P w) 3 A.a_check_kinds A.d_check_kinds ["kinds"] (spV K (tab A w) false f_check_kinds) := h
  exact h2

theorem ok_check_kinds {A : Ads} (T : Txt P w K mg A) : DefAt P w K mg base 3 A.a_check_kinds ["kinds"] [] (spV K (tab A w) false f_check_kinds) := ⟨⟨_, fk_check_kinds T, T.B_check_kinds⟩, T.F_check_kinds.kp⟩

theorem sc_check_all : FnScope ["program", "kinds"] ["program", "kinds"] (defScope s_check_all) := ⟨rfl, rfl, rfl, by decide +kernel, rfl, by decide +kernel, by decide +kernel⟩
theorem fk_check_all {A : Ads} (T : Txt P w K mg A) : FnOk P w K mg base (L2.CX P w) 5 A.a_check_all A.d_check_all ["program", "kinds"] (spV K (tab A w) false f_check_all) := by
  have nd := sc_check_all.nd
  have h := fn_val (P := P) (w := w) (mg := mg) (base := base) (T := tab A w) (k := 4) (fresh := false) (b := b_check_all) T.F_check_all sc_check_all (fun cdv Ar outer s H E hr => by
    have tk : Takes (defCx P w K mg base ["program", "kinds"] "check_all" s_check_all A.a_check_all cdv Ar outer s H E) (defW E) := takes_of rfl rfl rfl rfl
    have ow : PassesOwn _ _ (defCx P w K mg base ["program", "kinds"] "check_all" s_check_all A.a_check_all cdv Ar outer s H E).env (defCx P w K mg base ["program", "kinds"] "check_all" s_check_all A.a_check_all cdv Ar outer s H E).xe := passes_of rfl
    exact (okS_one (okS_expr (ok_call (ok_check_programs T) .nil (fun _ => .nil) (hr.mono (by decide)) T.mg_check_programs tk (okA_cons (ok_var (i := 0)) (okA_cons (OKO.toE (ok_new (T := tab A w) (c := 0) ⟨⟨_, T.mk_Program, ok_Program___init__ T⟩⟩ .nil (fun _ => .nil) (hr.mono (by decide)) T.mg_Program tk (okA_cons (ok_var (i := 1)) okA_nil))) okA_nil))))))
  have h2 : FnOk P w K mg base (L2.CX P w) 5 A.a_check_all A.d_check_all ["program", "kinds"] (spV K (tab A w) false f_check_all) := h
  exact h2

theorem ok_check_all {A : Ads} (T : Txt P w K mg A) : DefAt P w K mg base 5 A.a_check_all ["program", "kinds"] [] (spV K (tab A w) false f_check_all) := ⟨⟨_, fk_check_all T, T.B_check_all⟩, T.F_check_all.kp⟩

theorem sc_few_rounds : FnScope ["program", "kinds", "against", "rounds", "found", "one"] ["program", "kinds"] (defScope s_few_rounds) := ⟨rfl, rfl, rfl, by decide +kernel, rfl, by decide +kernel, by decide +kernel⟩
theorem fk_few_rounds {A : Ads} (T : Txt P w K mg A) : FnOk P w K mg base (L2.CX P w) 6 A.a_few_rounds A.d_few_rounds ["program", "kinds"] (spV K (tab A w) false f_few_rounds) := by
  have nd := sc_few_rounds.nd
  have h := fn_val (P := P) (w := w) (mg := mg) (base := base) (T := tab A w) (k := 5) (fresh := false) (b := b_few_rounds) T.F_few_rounds sc_few_rounds (fun cdv Ar outer s H E hr => by
    have tk : Takes (defCx P w K mg base ["program", "kinds", "against", "rounds", "found", "one"] "few_rounds" s_few_rounds A.a_few_rounds cdv Ar outer s H E) (defW E) := takes_of rfl rfl rfl rfl
    have ow : PassesOwn _ _ (defCx P w K mg base ["program", "kinds", "against", "rounds", "found", "one"] "few_rounds" s_few_rounds A.a_few_rounds cdv Ar outer s H E).env (defCx P w K mg base ["program", "kinds", "against", "rounds", "found", "one"] "few_rounds" s_few_rounds A.a_few_rounds cdv Ar outer s H E).xe := passes_of rfl
    exact (okS_cons (okS_expr (ok_call (ok_check_kinds T) .nil (fun _ => .nil) (hr.mono (by decide)) T.mg_check_kinds tk (okA_cons (ok_var (i := 1)) okA_nil)))
  (okS_cons (okS_expr (ok_call (ok_check_all T) .nil (fun _ => .nil) (hr.mono (by decide)) T.mg_check_all tk (okA_cons (ok_var (i := 0)) (okA_cons (ok_var (i := 1)) okA_nil))))
  okSs_bad)))
  have h2 : FnOk P w K mg base (L2.CX P w) 6 A.a_few_rounds A.d_few_rounds ["program", "kinds"] (spV K (tab A w) false f_few_rounds) := h
  exact h2

theorem ok_few_rounds {A : Ads} (T : Txt P w K mg A) : DefAt P w K mg base 6 A.a_few_rounds ["program", "kinds"] [] (spV K (tab A w) false f_few_rounds) := ⟨⟨_, fk_few_rounds T, T.B_few_rounds⟩, T.F_few_rounds.kp⟩

theorem sc__law_alone : FnScope ["_law_number", "_law_program"] ["_law_number", "_law_program"] (defScope s__law_alone) := ⟨rfl, rfl, rfl, by decide +kernel, rfl, by decide +kernel, by decide +kernel⟩
theorem fk__law_alone {A : Ads} (T : Txt P w K mg A) : FnOk P w K mg base (L2.CX P w) 7 A.a__law_alone A.d__law_alone ["_law_number", "_law_program"] (spV K (tab A w) false f__law_alone) := by
  have nd := sc__law_alone.nd
  have h := fn_val (P := P) (w := w) (mg := mg) (base := base) (T := tab A w) (k := 6) (fresh := false) (b := b__law_alone) T.F__law_alone sc__law_alone (fun cdv Ar outer s H E hr => by
    have tk : Takes (defCx P w K mg base ["_law_number", "_law_program"] "_law_alone" s__law_alone A.a__law_alone cdv Ar outer s H E) (defW E) := takes_of rfl rfl rfl rfl
    have ow : PassesOwn _ _ (defCx P w K mg base ["_law_number", "_law_program"] "_law_alone" s__law_alone A.a__law_alone cdv Ar outer s H E).env (defCx P w K mg base ["_law_number", "_law_program"] "_law_alone" s__law_alone A.a__law_alone cdv Ar outer s H E).xe := passes_of rfl
    exact (okS_cons (okS_if (okB_cmp v_lt (ok_var (i := 0)) ok_int) (okS_one (okS_ret (ok_ifExp (okB_cmpT (vT_eq hr.units) (OKE.top (ok_var (i := 0))) (OKE.top ok_int)) (ok_call (ok_turned_back T) .nil (fun _ => .nil) (hr.mono (by decide)) T.mg_turned_back tk (okA_cons (ok_var (i := 1)) okA_nil)) (ok_ifExp (okB_cmpT (vT_eq hr.units) (OKE.top (ok_var (i := 0))) (OKE.top ok_int)) (ok_call (ok_tidy_program T) .nil (fun _ => .nil) (hr.mono (by decide)) T.mg_tidy_program tk (okA_cons (ok_var (i := 1)) okA_nil)) (ok_ifExp (okB_cmpT (vT_eq hr.units) (OKE.top (ok_var (i := 0))) (OKE.top ok_int)) (ok_call (ok_judge_even T) .nil (fun _ => .nil) (hr.mono (by decide)) T.mg_judge_even tk (okA_cons (ok_var (i := 1)) okA_nil)) (ok_call (ok_recurrence T) .nil (fun _ => .nil) (hr.mono (by decide)) T.mg_recurrence tk (okA_cons (ok_var (i := 1)) (okA_cons ok_str (okA_cons ok_int okA_nil))))))))) okS_nil)
  (okS_cons (okS_if (okB_cmp v_lt (ok_var (i := 0)) ok_int) (okS_one (okS_ret (ok_ifExp (okB_cmpT (vT_eq hr.units) (OKE.top (ok_var (i := 0))) (OKE.top ok_int)) (ok_call (ok_judge_programs T) .nil (fun _ => .nil) (hr.mono (by decide)) T.mg_judge_programs tk (okA_cons (ok_var (i := 1)) (okA_cons (OKO.toE (ok_new (T := tab A w) (c := 0) ⟨⟨_, T.mk_Program, ok_Program___init__ T⟩⟩ .nil (fun _ => .nil) (hr.mono (by decide)) T.mg_Program tk (okA_cons (OKO.toE (ok_lst okA_nil)) okA_nil))) okA_nil))) (ok_ifExp (okB_cmpT (vT_eq hr.units) (OKE.top (ok_var (i := 0))) (OKE.top ok_int)) (ok_call (ok_judge_later T) .nil (fun _ => .nil) (hr.mono (by decide)) T.mg_judge_later tk (okA_cons (OKO.toE (ok_new (T := tab A w) (c := 0) ⟨⟨_, T.mk_Program, ok_Program___init__ T⟩⟩ .nil (fun _ => .nil) (hr.mono (by decide)) T.mg_Program tk (okA_cons (OKO.toE (ok_lst okA_nil)) okA_nil))) (okA_cons (ok_var (i := 1)) okA_nil))) (ok_call (ok_amount T) .nil (fun _ => .nil) (hr.mono (by decide)) T.mg_amount tk (okA_cons (ok_var (i := 1)) (okA_cons ok_str (okA_cons ok_int (okA_cons ok_int okA_nil))))))))) okS_nil)
  (okS_one (okS_ret (ok_ifExp (okB_cmpT (vT_eq hr.units) (OKE.top (ok_var (i := 0))) (OKE.top ok_int)) (OKO.toE (okO_call (ok_amounts T) .nil (fun _ => .nil) (hr.mono (by decide)) T.mg_amounts tk (okA_cons (ok_var (i := 1)) (okA_cons ok_str (okA_cons ok_int (okA_cons ok_int okA_nil)))))) (ok_call (ok_few_rounds T) .nil (fun _ => .nil) (hr.mono (by decide)) T.mg_few_rounds tk (okA_cons (ok_var (i := 1)) (okA_cons (OKO.toE (ok_lst (okA_cons (ok_tup (okA_cons ok_str (okA_cons ok_int (okA_cons ok_int okA_nil)))) okA_nil))) okA_nil)))))))))
  have h2 : FnOk P w K mg base (L2.CX P w) 7 A.a__law_alone A.d__law_alone ["_law_number", "_law_program"] (spV K (tab A w) false f__law_alone) := h
  exact h2

theorem ok__law_alone {A : Ads} (T : Txt P w K mg A) : DefAt P w K mg base 7 A.a__law_alone ["_law_number", "_law_program"] [] (spV K (tab A w) false f__law_alone) := ⟨⟨_, fk__law_alone T, T.B__law_alone⟩, T.F__law_alone.kp⟩

theorem sc_Program___eq__ : FnScope ["self", "other"] ["self", "other"] (defScope s_Program___eq__) := ⟨rfl, rfl, rfl, by decide +kernel, rfl, by decide +kernel, by decide +kernel⟩
theorem fk_Program___eq__ {A : Ads} (T : Txt P w K mg A) : FnOk P w K mg base (L2.CX P w) 1 A.a_Program___eq__ A.d_Program___eq__ ["self", "other"] (spV K (tab A w) false f_Program___eq__) := by
  have nd := sc_Program___eq__.nd
  have h := fn_val (P := P) (w := w) (mg := mg) (base := base) (T := tab A w) (k := 0) (fresh := false) (b := b_Program___eq__) T.F_Program___eq__ sc_Program___eq__ (fun cdv Ar outer s H E hr => by
    have tk : Takes (defCx P w K mg base ["self", "other"] "Program.__eq__" s_Program___eq__ A.a_Program___eq__ cdv Ar outer s H E) (defW E) := takes_of rfl rfl rfl rfl
    have ow : PassesOwn _ _ (defCx P w K mg base ["self", "other"] "Program.__eq__" s_Program___eq__ A.a_Program___eq__ cdv Ar outer s H E).env (defCx P w K mg base ["self", "other"] "Program.__eq__" s_Program___eq__ A.a_Program___eq__ cdv Ar outer s H E).xe := passes_of rfl
    exact (okS_one (okS_ret (ok_and (ok_isCl T.n_isinstance T.mg_Program (OKE.top (ok_var (i := 1))) T.is_Program (by decide +kernel)) (ok_one (ok_cmpT (vT_eq hr.units) (OKE.top (ok_attr (OKE.top (ok_var (i := 0))) (fun c _ _ _ => T.at_rounds c))) (OKE.top (ok_attr (OKE.top (ok_var (i := 1))) (fun c _ _ _ => T.at_rounds c)))))))))
  have h2 : FnOk P w K mg base (L2.CX P w) 1 A.a_Program___eq__ A.d_Program___eq__ ["self", "other"] (spV K (tab A w) false f_Program___eq__) := h
  exact h2

theorem ok_Program___eq__ {A : Ads} (T : Txt P w K mg A) : DefAt P w K mg base 1 A.a_Program___eq__ ["self", "other"] [] (spV K (tab A w) false f_Program___eq__) := ⟨⟨_, fk_Program___eq__ T, T.B_Program___eq__⟩, T.F_Program___eq__.kp⟩

theorem sc_Program___add__ : FnScope ["self", "other"] ["self", "other"] (defScope s_Program___add__) := ⟨rfl, rfl, rfl, by decide +kernel, rfl, by decide +kernel, by decide +kernel⟩
theorem fk_Program___add__ {A : Ads} (T : Txt P w K mg A) : FnOk P w K mg base (L2.CX P w) 5 A.a_Program___add__ A.d_Program___add__ ["self", "other"] (spV K (tab A w) false f_Program___add__) := by
  have nd := sc_Program___add__.nd
  have h := fn_val (P := P) (w := w) (mg := mg) (base := base) (T := tab A w) (k := 4) (fresh := false) (b := b_Program___add__) T.F_Program___add__ sc_Program___add__ (fun cdv Ar outer s H E hr => by
    have tk : Takes (defCx P w K mg base ["self", "other"] "Program.__add__" s_Program___add__ A.a_Program___add__ cdv Ar outer s H E) (defW E) := takes_of rfl rfl rfl rfl
    have ow : PassesOwn _ _ (defCx P w K mg base ["self", "other"] "Program.__add__" s_Program___add__ A.a_Program___add__ cdv Ar outer s H E).env (defCx P w K mg base ["self", "other"] "Program.__add__" s_Program___add__ A.a_Program___add__ cdv Ar outer s H E).xe := passes_of rfl
    exact (okS_cons (okS_if (okB_not (okB_bool (ok_isCl T.n_isinstance T.mg_Program (OKE.top (ok_var (i := 1))) T.is_Program (by decide +kernel)))) (okS_one okS_bad) okS_nil)
  (okS_one (okS_ret (OKO.toE (ok_new (T := tab A w) (c := 0) ⟨⟨_, T.mk_Program, ok_Program___init__ T⟩⟩ .nil (fun _ => .nil) (hr.mono (by decide)) T.mg_Program tk (okA_cons (OKO.toE (ok_lst (okA_star (OKE.top (ok_attr (OKE.top (ok_var (i := 0))) (fun c _ _ _ => T.at_rounds c))) (okA_star (OKE.top (ok_attr (OKE.top (ok_var (i := 1))) (fun c _ _ _ => T.at_rounds c))) okA_nil)))) okA_nil)))))))
  have h2 : FnOk P w K mg base (L2.CX P w) 5 A.a_Program___add__ A.d_Program___add__ ["self", "other"] (spV K (tab A w) false f_Program___add__) := h
  exact h2

theorem ok_Program___add__ {A : Ads} (T : Txt P w K mg A) : DefAt P w K mg base 5 A.a_Program___add__ ["self", "other"] [] (spV K (tab A w) false f_Program___add__) := ⟨⟨_, fk_Program___add__ T, T.B_Program___add__⟩, T.F_Program___add__.kp⟩

theorem sc_different_programs : FnScope ["kinds", "longest", "found", "known", "rounds", "key", "other"] ["kinds", "longest"] (defScope s_different_programs) := ⟨rfl, rfl, rfl, by decide +kernel, rfl, by decide +kernel, by decide +kernel⟩
theorem fk_different_programs {A : Ads} (T : Txt P w K mg A) : FnOk P w K mg base (L2.CX P w) 6 A.a_different_programs A.d_different_programs ["kinds", "longest"] (spV K (tab A w) false f_different_programs) := by
  have nd := sc_different_programs.nd
  have h := fn_val (P := P) (w := w) (mg := mg) (base := base) (T := tab A w) (k := 5) (fresh := false) (b := b_different_programs) T.F_different_programs sc_different_programs (fun cdv Ar outer s H E hr => by
    have tk : Takes (defCx P w K mg base ["kinds", "longest", "found", "known", "rounds", "key", "other"] "different_programs" s_different_programs A.a_different_programs cdv Ar outer s H E) (defW E) := takes_of rfl rfl rfl rfl
    have ow : PassesOwn _ _ (defCx P w K mg base ["kinds", "longest", "found", "known", "rounds", "key", "other"] "different_programs" s_different_programs A.a_different_programs cdv Ar outer s H E).env (defCx P w K mg base ["kinds", "longest", "found", "known", "rounds", "key", "other"] "different_programs" s_different_programs A.a_different_programs cdv Ar outer s H E).xe := passes_of rfl
    exact (okS_cons (okS_expr (ok_call (ok_check_kinds T) .nil (fun _ => .nil) (hr.mono (by decide)) T.mg_check_kinds tk (okA_cons (ok_var (i := 0)) okA_nil)))
  (okS_cons (okS_if (okB_w (okW_or (okB_not (okB_bool (ok_call (ok_is_whole T) .nil (fun _ => .nil) (hr.mono (by decide)) T.mg_is_whole tk (okA_cons (ok_var (i := 1)) okA_nil)))) (okW_or1 (okB_not (okB_chain v_le v_le ok_int (ok_var (i := 1)) (ok_glob T.mg_MOST_LONG T.r_MOST_LONG (T.q_MOST_LONG))))))) (okS_one (okS_raise0 rfl tk (T.xc_BadStart _ rfl rfl) rfl)) okS_nil)
  (okS_cons (okS_expr (ok_call (ok_check_all T) .nil (fun _ => .nil) (hr.mono (by decide)) T.mg_check_all tk (okA_cons (OKO.toE (ok_new (T := tab A w) (c := 0) ⟨⟨_, T.mk_Program, ok_Program___init__ T⟩⟩ .nil (fun _ => .nil) (hr.mono (by decide)) T.mg_Program tk (okA_cons (OKO.toE (ok_lst okA_nil)) okA_nil))) (okA_cons (ok_var (i := 0)) okA_nil))))
  okSs_bad))))
  have h2 : FnOk P w K mg base (L2.CX P w) 6 A.a_different_programs A.d_different_programs ["kinds", "longest"] (spV K (tab A w) false f_different_programs) := h
  exact h2

theorem ok_different_programs {A : Ads} (T : Txt P w K mg A) : DefAt P w K mg base 6 A.a_different_programs ["kinds", "longest"] [] (spV K (tab A w) false f_different_programs) := ⟨⟨_, fk_different_programs T, T.B_different_programs⟩, T.F_different_programs.kp⟩

theorem sc__law_mixed : FnScope ["_law_number", "_law_one", "_law_other"] ["_law_number", "_law_one", "_law_other"] (defScope s__law_mixed) := ⟨rfl, rfl, rfl, by decide +kernel, rfl, by decide +kernel, by decide +kernel⟩
theorem fk__law_mixed {A : Ads} (T : Txt P w K mg A) : FnOk P w K mg base (L2.CX P w) 7 A.a__law_mixed A.d__law_mixed ["_law_number", "_law_one", "_law_other"] (spV K (tab A w) false f__law_mixed) := by
  have nd := sc__law_mixed.nd
  have h := fn_val (P := P) (w := w) (mg := mg) (base := base) (T := tab A w) (k := 6) (fresh := false) (b := b__law_mixed) T.F__law_mixed sc__law_mixed (fun cdv Ar outer s H E hr => by
    have tk : Takes (defCx P w K mg base ["_law_number", "_law_one", "_law_other"] "_law_mixed" s__law_mixed A.a__law_mixed cdv Ar outer s H E) (defW E) := takes_of rfl rfl rfl rfl
    have ow : PassesOwn _ _ (defCx P w K mg base ["_law_number", "_law_one", "_law_other"] "_law_mixed" s__law_mixed A.a__law_mixed cdv Ar outer s H E).env (defCx P w K mg base ["_law_number", "_law_one", "_law_other"] "_law_mixed" s__law_mixed A.a__law_mixed cdv Ar outer s H E).xe := passes_of rfl
    exact (okS_cons (okS_if (okB_cmp v_lt (ok_var (i := 0)) ok_int) (okS_one (okS_ret (ok_ifExp (okB_cmpT (vT_eq hr.units) (OKE.top (ok_var (i := 0))) (OKE.top ok_int)) (ok_call (ok_judge_programs T) .nil (fun _ => .nil) (hr.mono (by decide)) T.mg_judge_programs tk (okA_cons (ok_var (i := 1)) (okA_cons (ok_var (i := 2)) okA_nil))) (ok_ifExp (okB_cmpT (vT_eq hr.units) (OKE.top (ok_var (i := 0))) (OKE.top ok_int)) (ok_call (ok_judge_later T) .nil (fun _ => .nil) (hr.mono (by decide)) T.mg_judge_later tk (okA_cons (ok_var (i := 1)) (okA_cons (ok_var (i := 2)) okA_nil))) (ok_call (ok_tidy_program T) .nil (fun _ => .nil) (hr.mono (by decide)) T.mg_tidy_program tk (okA_cons (ok_addO (T := tab A w) (k := 5) (c := 0) ⟨_, _, T.me_Program___add__.at_, T.me_Program___add__.fn, (ok_Program___add__ T).mono (k := 5) (by decide)⟩ T.sf_Program (hr.mono (by decide)) (ok_var (i := 1)) (ok_var (i := 2))) okA_nil)))))) okS_nil)
  (okS_one (okS_ret (ok_ifExp (okB_cmpT (vT_eq hr.units) (OKE.top (ok_var (i := 0))) (OKE.top ok_int)) (ok_call (ok_few_rounds T) .nil (fun _ => .nil) (hr.mono (by decide)) T.mg_few_rounds tk (okA_cons (ok_var (i := 1)) (okA_cons (OKO.toE (ok_lst (okA_cons (ok_tup (okA_cons ok_str (okA_cons ok_int (okA_cons ok_int okA_nil)))) (okA_cons (ok_tup (okA_cons ok_str okA_nil)) okA_nil)))) okA_nil))) (ok_call (ok_different_programs T) .nil (fun _ => .nil) (hr.mono (by decide)) T.mg_different_programs tk (okA_cons (OKO.toE (ok_lst (okA_cons (ok_tup (okA_cons ok_str okA_nil)) (okA_cons (ok_tup (okA_cons ok_str okA_nil)) okA_nil)))) (okA_cons ok_int okA_nil))))))))
  have h2 : FnOk P w K mg base (L2.CX P w) 7 A.a__law_mixed A.d__law_mixed ["_law_number", "_law_one", "_law_other"] (spV K (tab A w) false f__law_mixed) := h
  exact h2

theorem ok__law_mixed {A : Ads} (T : Txt P w K mg A) : DefAt P w K mg base 7 A.a__law_mixed ["_law_number", "_law_one", "_law_other"] [] (spV K (tab A w) false f__law_mixed) := ⟨⟨_, fk__law_mixed T, T.B__law_mixed⟩, T.F__law_mixed.kp⟩

theorem sc_law : FnScope ["_law_script", "_law_program", "_law_many", "_law_volumes", "_law_bad", "_law_number", "error", "_law_right", "_law_left", "_law_one", "_law_other", "_law_at"] ["_law_script"] (defScope s_law) := ⟨rfl, rfl, rfl, by decide +kernel, rfl, by decide +kernel, by decide +kernel⟩
theorem fk_law {A : Ads} (T : Txt P w K mg A) : FnOk P w K mg base (L2.CX P w) 8 A.a_law A.d_law ["_law_script"] (spV K (tab A w) false f_law) := by
  have nd := sc_law.nd
  have h := fn_val (P := P) (w := w) (mg := mg) (base := base) (T := tab A w) (k := 7) (fresh := false) (b := b_law) T.F_law sc_law (fun cdv Ar outer s H E hr => by
    have tk : Takes (defCx P w K mg base ["_law_script", "_law_program", "_law_many", "_law_volumes", "_law_bad", "_law_number", "error", "_law_right", "_law_left", "_law_one", "_law_other", "_law_at"] "law" s_law A.a_law cdv Ar outer s H E) (defW E) := takes_of rfl rfl rfl rfl
    have ow : PassesOwn _ _ (defCx P w K mg base ["_law_script", "_law_program", "_law_many", "_law_volumes", "_law_bad", "_law_number", "error", "_law_right", "_law_left", "_law_one", "_law_other", "_law_at"] "law" s_law A.a_law cdv Ar outer s H E).env (defCx P w K mg base ["_law_script", "_law_program", "_law_many", "_law_volumes", "_law_bad", "_law_number", "error", "_law_right", "_law_left", "_law_one", "_law_other", "_law_at"] "law" s_law A.a_law cdv Ar outer s H E).xe := passes_of rfl
    exact (okS_cons (okS_asg (i := 1) nd (OKO.toE (ok_new (T := tab A w) (c := 0) ⟨⟨_, T.mk_Program, ok_Program___init__ T⟩⟩ .nil (fun _ => .nil) (hr.mono (by decide)) T.mg_Program tk (okA_cons (OKO.toE (okO_call (ok__law_rounds T) .nil (fun _ => .nil) (hr.mono (by decide)) T.mg__law_rounds tk (okA_cons (ok_var (i := 0)) (okA_cons ok_int (okA_cons ok_int (okA_cons ok_str okA_nil)))))) okA_nil))))
  (okS_cons (okS_asg (i := 2) nd (ok_op v_add ok_int (ok_call (ok__law_draw T) .nil (fun _ => .nil) (hr.mono (by decide)) T.mg__law_draw tk (okA_cons (ok_var (i := 0)) (okA_cons ok_int (okA_cons ok_int okA_nil))))))
  (okS_cons (okS_comp (m := false) (i := 3) nd rfl (okI_rng1 T.n_range (ok_var (i := 2))) (blkOk_by (own := [("_law_at", 11)]) (by rfl)) rfl (fun s1 H1 C1 cl1 fp1 => (okG_name (i := 11) nd)) (fun s1 H1 C1 cl1 fp1 => okPs_nil) (fun s1 H1 C1 cl1 fp1 => (ok_call (ok__law_draw T) .nil (fun _ => .nil) (hr.mono (by decide)) T.mg__law_draw takesNone (okA_cons (ok_var (i := 0)) (okA_cons (ok_op v_add ok_int (ok_var (i := 11))) (okA_cons ok_int okA_nil))))))
  (okS_cons (okS_for rfl ow (okI_seq (ok_tup (okA_cons ok_non (okA_cons ok_int (okA_cons (OKO.toE (ok_lst (okA_cons (ok_tup (okA_cons ok_str okA_nil)) okA_nil))) (okA_cons (ok_tup (okA_cons (ok_tup (okA_cons ok_str okA_nil)) okA_nil)) (okA_cons ok_str okA_nil))))))) (okG_name (i := 4) nd) (okS_cons (okS_for rfl ow (okI_seq (ok_tup (okA_cons (ok_call (ok__law_draw T) .nil (fun _ => .nil) (hr.mono (by decide)) T.mg__law_draw tk (okA_cons (ok_var (i := 0)) (okA_cons ok_int (okA_cons ok_int okA_nil)))) (okA_cons (ok_call (ok__law_draw T) .nil (fun _ => .nil) (hr.mono (by decide)) T.mg__law_draw tk (okA_cons (ok_var (i := 0)) (okA_cons ok_int (okA_cons ok_int okA_nil)))) okA_nil)))) (okG_name (i := 5) nd) (okS_one (okS_try nd tk (fun Wt pt xt tk ow => (okS_cons (okS_expr (ok_call (ok__law_asked T) .nil (fun _ => .nil) (hr.mono (by decide)) T.mg__law_asked tk (okA_cons (ok_var (i := 5)) (okA_cons (ok_var (i := 4)) (okA_cons ok_int (okA_cons ok_int (okA_cons (OKO.toE (ok_lst okA_nil)) (okA_cons (ok_neg ok_int) okA_nil))))))))
  (okS_one (okS_ret ok_bl)))) (.named (i := 6) (c0 := 0) ⟨rfl, by decide, .inl T.mg_BadProgram⟩ rfl rfl T.em_BadProgram (tab_only rfl) (fun ea eo ed ep fs zc zf => (okX_if (okX_cmp (OpTV.toV vT_isNotN) (okX_fld T.xf_BadProgram T.xn_BadProgram_place zc zf) ok_non) (okS_one (okS_ret ok_bl)) okS_nil)) .nil))))
  (okS_one (okS_try nd tk (fun Wt pt xt tk ow => (okS_cons (okS_expr (ok_call (ok__law_alone T) .nil (fun _ => .nil) (hr.mono (by decide)) T.mg__law_alone tk (okA_cons (ok_call (ok__law_draw T) .nil (fun _ => .nil) (hr.mono (by decide)) T.mg__law_draw tk (okA_cons (ok_var (i := 0)) (okA_cons ok_int (okA_cons ok_int okA_nil)))) (okA_cons (ok_var (i := 4)) okA_nil))))
  (okS_one (okS_ret ok_bl)))) (.named (i := 6) (c0 := 0) ⟨rfl, by decide, .inl T.mg_BadProgram⟩ rfl rfl T.em_BadProgram (tab_only rfl) (fun ea eo ed ep fs zc zf => (okX_if (okX_cmp (OpTV.toV vT_isNotN) (okX_fld T.xf_BadProgram T.xn_BadProgram_place zc zf) ok_non) (okS_one (okS_ret ok_bl)) okS_nil)) .nil)))))
  (okS_cons (okS_for rfl ow (okI_seq (ok_tup (okA_cons ok_int (okA_cons ok_int (okA_cons ok_non (okA_cons ok_bl (okA_cons (ok_neg ok_int) (okA_cons ok_str okA_nil)))))))) (okG_name (i := 4) nd) (okS_one (okS_try nd tk (fun Wt pt xt tk ow => (okS_cons (okS_expr (ok_call (ok__law_asked T) .nil (fun _ => .nil) (hr.mono (by decide)) T.mg__law_asked tk (okA_cons (ok_call (ok__law_draw T) .nil (fun _ => .nil) (hr.mono (by decide)) T.mg__law_draw tk (okA_cons (ok_var (i := 0)) (okA_cons ok_int (okA_cons ok_int okA_nil)))) (okA_cons (ok_var (i := 1)) (okA_cons (ok_var (i := 4)) (okA_cons ok_int (okA_cons (ok_var (i := 3)) (okA_cons ok_int okA_nil))))))))
  (okS_one (okS_ret ok_bl)))) (.cons ⟨rfl, by decide, .inl T.mg_BadStart⟩ T.em_BadStart (fun ea eo ep => (okS_one okS_pass)) .nil))))
  (okS_cons (okS_for rfl ow (okI_seq (ok_tup (okA_cons (ok_var (i := 2)) (okA_cons (ok_neg ok_int) (okA_cons ok_non (okA_cons ok_bl okA_nil)))))) (okG_name (i := 4) nd) (okS_one (okS_for rfl ow (okI_seq (ok_tup (okA_cons ok_int (okA_cons ok_int (okA_cons ok_int okA_nil))))) (okG_name (i := 5) nd) (okS_one (okS_try nd tk (fun Wt pt xt tk ow => (okS_cons (okS_expr (ok_call (ok__law_asked T) .nil (fun _ => .nil) (hr.mono (by decide)) T.mg__law_asked tk (okA_cons (ok_var (i := 5)) (okA_cons (ok_var (i := 1)) (okA_cons (ok_var (i := 2)) (okA_cons (ok_var (i := 4)) (okA_cons (ok_var (i := 3)) (okA_cons ok_int okA_nil))))))))
  (okS_one (okS_ret ok_bl)))) (.cons ⟨rfl, by decide, .inl T.mg_BadStart⟩ T.em_BadStart (fun ea eo ep => (okS_one okS_pass)) .nil))))))
  (okS_cons (okS_for rfl ow (okI_seq (ok_tup (okA_cons (OKO.toE (ok_lst okA_nil)) (okA_cons ok_non (okA_cons (OKO.toE (ok_lst (okA_cons ok_int (okA_cons ok_str okA_nil)))) (okA_cons (OKO.toE (ok_lst (okA_cons (ok_tup (okA_cons ok_int (okA_cons ok_int okA_nil))) okA_nil))) (okA_cons ok_int (okA_cons (ok_dicI1 ok_int (fun _ => rfl)) okA_nil)))))))) (okG_name (i := 4) nd) (okS_one (okS_try nd tk (fun Wt pt xt tk ow => (okS_cons (okS_expr (ok_call (ok__law_asked T) .nil (fun _ => .nil) (hr.mono (by decide)) T.mg__law_asked tk (okA_cons (ok_op v_add ok_int (ok_call (ok__law_draw T) .nil (fun _ => .nil) (hr.mono (by decide)) T.mg__law_draw tk (okA_cons (ok_var (i := 0)) (okA_cons ok_int (okA_cons ok_int okA_nil))))) (okA_cons (ok_var (i := 1)) (okA_cons (ok_var (i := 2)) (okA_cons ok_int (okA_cons (ok_var (i := 4)) (okA_cons ok_int okA_nil))))))))
  (okS_one (okS_ret ok_bl)))) (.cons ⟨rfl, by decide, .inl T.mg_BadStart⟩ T.em_BadStart (fun ea eo ep => (okS_one okS_pass)) .nil))))
  (okS_cons (okS_for rfl ow (okI_seq (ok_tup (okA_cons (ok_neg ok_int) (okA_cons ok_int (okA_cons ok_non (okA_cons ok_bl okA_nil)))))) (okG_name (i := 4) nd) (okS_one (okS_try nd tk (fun Wt pt xt tk ow => (okS_cons (okS_expr (ok_call (ok__law_asked T) .nil (fun _ => .nil) (hr.mono (by decide)) T.mg__law_asked tk (okA_cons (ok_idx (OKE.top (ok_tup (okA_cons ok_int (okA_cons ok_int (okA_cons ok_int okA_nil))))) (ok_call (ok__law_draw T) .nil (fun _ => .nil) (hr.mono (by decide)) T.mg__law_draw tk (okA_cons (ok_var (i := 0)) (okA_cons ok_int (okA_cons ok_int okA_nil))))) (okA_cons (ok_var (i := 1)) (okA_cons (ok_var (i := 2)) (okA_cons ok_int (okA_cons (ok_var (i := 3)) (okA_cons (ok_var (i := 4)) okA_nil))))))))
  (okS_one (okS_ret ok_bl)))) (.cons ⟨rfl, by decide, .inl T.mg_BadStart⟩ T.em_BadStart (fun ea eo ep => (okS_one okS_pass)) .nil))))
  (okS_cons (okS_for rfl ow (okI_seq (ok_tup (okA_cons (ok_tup (okA_cons ok_str okA_nil)) (okA_cons ok_str (okA_cons ok_non (okA_cons ok_int (okA_cons ok_str (okA_cons (OKO.toE (ok_lst (okA_cons ok_str okA_nil))) okA_nil)))))))) (okG_name (i := 4) nd) (okS_one (okS_try nd tk (fun Wt pt xt tk ow => (okS_cons (okS_expr (ok_call (ok_recurrence T) .nil (fun _ => .nil) (hr.mono (by decide)) T.mg_recurrence tk (okA_cons (OKO.toE (ok_new (T := tab A w) (c := 0) ⟨⟨_, T.mk_Program, ok_Program___init__ T⟩⟩ .nil (fun _ => .nil) (hr.mono (by decide)) T.mg_Program tk (okA_cons (OKO.toE (ok_slL (OKE.top (OKO.toE (ok_lst (okA_cons (ok_tup (okA_cons ok_str okA_nil)) (okA_cons (ok_tup (okA_cons ok_str (okA_cons ok_int (okA_cons ok_int okA_nil)))) okA_nil))))) okP_no (okP_at (ok_call (ok__law_draw T) .nil (fun _ => .nil) (hr.mono (by decide)) T.mg__law_draw tk (okA_cons (ok_var (i := 0)) (okA_cons ok_int (okA_cons ok_int okA_nil))))))) okA_nil))) (okA_cons (ok_var (i := 4)) (okA_cons ok_int okA_nil)))))
  (okS_one (okS_ret ok_bl)))) (.cons ⟨rfl, by decide, .inl T.mg_BadStart⟩ T.em_BadStart (fun ea eo ep => (okS_one okS_pass)) .nil))))
  (okS_cons (okS_par (i := 7) (j := 8) nd rfl (okM_sh (OKO.toE (ok_new (T := tab A w) (c := 0) ⟨⟨_, T.mk_Program, ok_Program___init__ T⟩⟩ .nil (fun _ => .nil) (hr.mono (by decide)) T.mg_Program tk (okA_cons (OKO.toE (ok_lst (okA_cons (ok_tup (okA_cons ok_str okA_nil)) (okA_cons (ok_tup (okA_cons ok_str (okA_cons ok_int (okA_cons ok_int okA_nil)))) okA_nil)))) okA_nil)))) (okM_sh (OKO.toE (ok_new (T := tab A w) (c := 0) ⟨⟨_, T.mk_Program, ok_Program___init__ T⟩⟩ .nil (fun _ => .nil) (hr.mono (by decide)) T.mg_Program tk (okA_cons (OKO.toE (ok_lst (okA_cons (ok_tup (okA_cons ok_str okA_nil)) okA_nil))) okA_nil)))) rfl)
  (okS_cons (okS_for rfl ow (okI_seq (ok_tup (okA_cons (ok_tup (okA_cons (ok_var (i := 7)) (okA_cons (ok_var (i := 8)) okA_nil))) (okA_cons (ok_tup (okA_cons (ok_var (i := 8)) (okA_cons (ok_var (i := 7)) okA_nil))) okA_nil)))) (okG_tup rfl (okGs_cons (okG_name (i := 9) nd) (okGs_cons (okG_name (i := 10) nd) okGs_nil))) (okS_one (okS_try nd tk (fun Wt pt xt tk ow => (okS_cons (okS_expr (ok_call (ok__law_mixed T) .nil (fun _ => .nil) (hr.mono (by decide)) T.mg__law_mixed tk (okA_cons (ok_ifExp (okB_eqO (k := 1) (spec_cons ⟨_, _, T.me_Program___eq__.at_, T.me_Program___eq__.fn, (ok_Program___eq__ T).mono (k := 1) (by decide)⟩ spec_nil) (nf2 (nf_cons (nf_cons T.nf_Program_Program nf_nil) nf_nil)) hr.units (hr.mono (by decide)) (ok_var (i := 9)) (ok_var (i := 7))) (ok_call (ok__law_draw T) .nil (fun _ => .nil) (hr.mono (by decide)) T.mg__law_draw tk (okA_cons (ok_var (i := 0)) (okA_cons ok_int (okA_cons ok_int okA_nil)))) (ok_call (ok__law_draw T) .nil (fun _ => .nil) (hr.mono (by decide)) T.mg__law_draw tk (okA_cons (ok_var (i := 0)) (okA_cons ok_int (okA_cons ok_int okA_nil))))) (okA_cons (ok_var (i := 9)) (okA_cons (ok_var (i := 10)) okA_nil)))))
  (okS_one (okS_ret ok_bl)))) (.cons ⟨rfl, by decide, .inl T.mg_Mixed⟩ T.em_Mixed (fun ea eo ep => (okS_one okS_pass)) .nil))))
  (okS_one (okS_ret (ok_cmp (OpTV.toV (vT_eq hr.units)) (ok_call (ok_lapped T) .nil (fun _ => .nil) (hr.mono (by decide)) T.mg_lapped tk (okA_cons (ok_addO (T := tab A w) (k := 5) (c := 0) ⟨_, _, T.me_Program___add__.at_, T.me_Program___add__.fn, (ok_Program___add__ T).mono (k := 5) (by decide)⟩ T.sf_Program (hr.mono (by decide)) (ok_var (i := 8)) (ok_var (i := 7))) (okA_cons (ok_var (i := 3)) (okA_cons ok_int okA_nil)))) (ok_call (ok_lapped T) .nil (fun _ => .nil) (hr.mono (by decide)) T.mg_lapped tk (okA_cons (OKO.toE (ok_new (T := tab A w) (c := 0) ⟨⟨_, T.mk_Program, ok_Program___init__ T⟩⟩ .nil (fun _ => .nil) (hr.mono (by decide)) T.mg_Program tk (okA_cons (OKO.toE (ok_lst okA_nil)) okA_nil))) (okA_cons (ok_var (i := 3)) (okA_cons ok_int okA_nil)))))))))))))))))))
  have h2 : FnOk P w K mg base (L2.CX P w) 8 A.a_law A.d_law ["_law_script"] (spV K (tab A w) false f_law) := h
  exact h2

end
end K18
end

section
set_option maxHeartbeats 4000000
namespace K18
open PySem L2 VL
section
variable {w : World} {K : PySem.W.Frag} {h : Heap} {mg : Str → Option Value}
theorem all_mk {l : PySem.W.OpenLaw} {fa : Addr} (X : K.In h) (G : h.Ns mainGlobals mg) (hfa : mg "law" = some (.ref fa))
    {k_Program : Addr}
    {z__law_draw : Addr}
    {od__law_draw an__law_draw : Option Addr} {sl__law_draw : Array (Option Value)} {oc__law_draw kV__law_draw dc__law_draw pm__law_draw cd__law_draw ct__law_draw : Value}
    {z__law_rounds : Addr}
    {od__law_rounds an__law_rounds : Option Addr} {sl__law_rounds : Array (Option Value)} {oc__law_rounds kV__law_rounds dc__law_rounds pm__law_rounds cd__law_rounds ct__law_rounds : Value}
    {z_is_whole : Addr}
    {od_is_whole an_is_whole : Option Addr} {sl_is_whole : Array (Option Value)} {oc_is_whole kV_is_whole dc_is_whole pm_is_whole cd_is_whole ct_is_whole : Value}
    {z_is_round : Addr}
    {od_is_round an_is_round : Option Addr} {sl_is_round : Array (Option Value)} {oc_is_round kV_is_round dc_is_round pm_is_round cd_is_round ct_is_round : Value}
    {z_Program___init__ : Addr}
    {od_Program___init__ an_Program___init__ : Option Addr} {sl_Program___init__ : Array (Option Value)} {oc_Program___init__ kV_Program___init__ dc_Program___init__ pm_Program___init__ cd_Program___init__ ct_Program___init__ : Value}
    {z_check_program : Addr}
    {od_check_program an_check_program : Option Addr} {sl_check_program : Array (Option Value)} {oc_check_program kV_check_program dc_check_program pm_check_program cd_check_program ct_check_program : Value}
    {z_check_length : Addr}
    {od_check_length an_check_length : Option Addr} {sl_check_length : Array (Option Value)} {oc_check_length kV_check_length dc_check_length pm_check_length cd_check_length ct_check_length : Value}
    {z_check_basin : Addr}
    {od_check_basin an_check_basin : Option Addr} {sl_check_basin : Array (Option Value)} {oc_check_basin kV_check_basin dc_check_basin pm_check_basin cd_check_basin ct_check_basin : Value}
    {z_gives : Addr}
    {od_gives an_gives : Option Addr} {sl_gives : Array (Option Value)} {oc_gives kV_gives dc_gives pm_gives cd_gives ct_gives : Value}
    {z_got : Addr}
    {od_got an_got : Option Addr} {sl_got : Array (Option Value)} {oc_got kV_got dc_got pm_got cd_got ct_got : Value}
    {z_is_even_handed : Addr}
    {od_is_even_handed an_is_even_handed : Option Addr} {sl_is_even_handed : Array (Option Value)} {oc_is_even_handed kV_is_even_handed dc_is_even_handed pm_is_even_handed cd_is_even_handed ct_is_even_handed : Value}
    {z_stretches : Addr}
    {od_stretches an_stretches : Option Addr} {sl_stretches : Array (Option Value)} {oc_stretches kV_stretches dc_stretches pm_stretches cd_stretches ct_stretches : Value}
    {z_check_laps : Addr}
    {od_check_laps an_check_laps : Option Addr} {sl_check_laps : Array (Option Value)} {oc_check_laps kV_check_laps dc_check_laps pm_check_laps cd_check_laps ct_check_laps : Value}
    {z_left_behind : Addr}
    {od_left_behind an_left_behind : Option Addr} {sl_left_behind : Array (Option Value)} {oc_left_behind kV_left_behind dc_left_behind pm_left_behind cd_left_behind ct_left_behind : Value}
    {z_judge_laps : Addr}
    {od_judge_laps an_judge_laps : Option Addr} {sl_judge_laps : Array (Option Value)} {oc_judge_laps kV_judge_laps dc_judge_laps pm_judge_laps cd_judge_laps ct_judge_laps : Value}
    {z_is_part : Addr}
    {od_is_part an_is_part : Option Addr} {sl_is_part : Array (Option Value)} {oc_is_part kV_is_part dc_is_part pm_is_part cd_is_part ct_is_part : Value}
    {z_common : Addr}
    {od_common an_common : Option Addr} {sl_common : Array (Option Value)} {oc_common kV_common dc_common pm_common cd_common ct_common : Value}
    {z_part : Addr}
    {od_part an_part : Option Addr} {sl_part : Array (Option Value)} {oc_part kV_part dc_part pm_part cd_part ct_part : Value}
    {dt_part : Addr} {dxd_part : Option Addr} {dxn_part : Nat} {dxs_part : Array (Option Value)}
    {td_part_0 : Tok}
    {z_as_part : Addr}
    {od_as_part an_as_part : Option Addr} {sl_as_part : Array (Option Value)} {oc_as_part kV_as_part dc_as_part pm_as_part cd_as_part ct_as_part : Value}
    {z_check_volumes : Addr}
    {od_check_volumes an_check_volumes : Option Addr} {sl_check_volumes : Array (Option Value)} {oc_check_volumes kV_check_volumes dc_check_volumes pm_check_volumes cd_check_volumes ct_check_volumes : Value}
    {z_lapped : Addr}
    {od_lapped an_lapped : Option Addr} {sl_lapped : Array (Option Value)} {oc_lapped kV_lapped dc_lapped pm_lapped cd_lapped ct_lapped : Value}
    {z_lap_limit : Addr}
    {od_lap_limit an_lap_limit : Option Addr} {sl_lap_limit : Array (Option Value)} {oc_lap_limit kV_lap_limit dc_lap_limit pm_lap_limit cd_lap_limit ct_lap_limit : Value}
    {z_moved : Addr}
    {od_moved an_moved : Option Addr} {sl_moved : Array (Option Value)} {oc_moved kV_moved dc_moved pm_moved cd_moved ct_moved : Value}
    {z_lap_recurrence : Addr}
    {od_lap_recurrence an_lap_recurrence : Option Addr} {sl_lap_recurrence : Array (Option Value)} {oc_lap_recurrence kV_lap_recurrence dc_lap_recurrence pm_lap_recurrence cd_lap_recurrence ct_lap_recurrence : Value}
    {z__law_asked : Addr}
    {od__law_asked an__law_asked : Option Addr} {sl__law_asked : Array (Option Value)} {oc__law_asked kV__law_asked dc__law_asked pm__law_asked cd__law_asked ct__law_asked : Value}
    {z_turned_back : Addr}
    {od_turned_back an_turned_back : Option Addr} {sl_turned_back : Array (Option Value)} {oc_turned_back kV_turned_back dc_turned_back pm_turned_back cd_turned_back ct_turned_back : Value}
    {z_straightened : Addr}
    {od_straightened an_straightened : Option Addr} {sl_straightened : Array (Option Value)} {oc_straightened kV_straightened dc_straightened pm_straightened cd_straightened ct_straightened : Value}
    {z_check_programs : Addr}
    {od_check_programs an_check_programs : Option Addr} {sl_check_programs : Array (Option Value)} {oc_check_programs kV_check_programs dc_check_programs pm_check_programs cd_check_programs ct_check_programs : Value}
    {z_tidy_program : Addr}
    {od_tidy_program an_tidy_program : Option Addr} {sl_tidy_program : Array (Option Value)} {oc_tidy_program kV_tidy_program dc_tidy_program pm_tidy_program cd_tidy_program ct_tidy_program : Value}
    {z_judge_even : Addr}
    {od_judge_even an_judge_even : Option Addr} {sl_judge_even : Array (Option Value)} {oc_judge_even kV_judge_even dc_judge_even pm_judge_even cd_judge_even ct_judge_even : Value}
    {z_check_start : Addr}
    {od_check_start an_check_start : Option Addr} {sl_check_start : Array (Option Value)} {oc_check_start kV_check_start dc_check_start pm_check_start cd_check_start ct_check_start : Value}
    {z_recurrence : Addr}
    {od_recurrence an_recurrence : Option Addr} {sl_recurrence : Array (Option Value)} {oc_recurrence kV_recurrence dc_recurrence pm_recurrence cd_recurrence ct_recurrence : Value}
    {z_judge_programs : Addr}
    {od_judge_programs an_judge_programs : Option Addr} {sl_judge_programs : Array (Option Value)} {oc_judge_programs kV_judge_programs dc_judge_programs pm_judge_programs cd_judge_programs ct_judge_programs : Value}
    {z_judge_later : Addr}
    {od_judge_later an_judge_later : Option Addr} {sl_judge_later : Array (Option Value)} {oc_judge_later kV_judge_later dc_judge_later pm_judge_later cd_judge_later ct_judge_later : Value}
    {z_amount : Addr}
    {od_amount an_amount : Option Addr} {sl_amount : Array (Option Value)} {oc_amount kV_amount dc_amount pm_amount cd_amount ct_amount : Value}
    {z_amounts : Addr}
    {od_amounts an_amounts : Option Addr} {sl_amounts : Array (Option Value)} {oc_amounts kV_amounts dc_amounts pm_amounts cd_amounts ct_amounts : Value}
    {z_check_kinds : Addr}
    {od_check_kinds an_check_kinds : Option Addr} {sl_check_kinds : Array (Option Value)} {oc_check_kinds kV_check_kinds dc_check_kinds pm_check_kinds cd_check_kinds ct_check_kinds : Value}
    {z_check_all : Addr}
    {od_check_all an_check_all : Option Addr} {sl_check_all : Array (Option Value)} {oc_check_all kV_check_all dc_check_all pm_check_all cd_check_all ct_check_all : Value}
    {z_few_rounds : Addr}
    {od_few_rounds an_few_rounds : Option Addr} {sl_few_rounds : Array (Option Value)} {oc_few_rounds kV_few_rounds dc_few_rounds pm_few_rounds cd_few_rounds ct_few_rounds : Value}
    {z__law_alone : Addr}
    {od__law_alone an__law_alone : Option Addr} {sl__law_alone : Array (Option Value)} {oc__law_alone kV__law_alone dc__law_alone pm__law_alone cd__law_alone ct__law_alone : Value}
    {z_Program___eq__ : Addr}
    {od_Program___eq__ an_Program___eq__ : Option Addr} {sl_Program___eq__ : Array (Option Value)} {oc_Program___eq__ kV_Program___eq__ dc_Program___eq__ pm_Program___eq__ cd_Program___eq__ ct_Program___eq__ : Value}
    {z_Program___add__ : Addr}
    {od_Program___add__ an_Program___add__ : Option Addr} {sl_Program___add__ : Array (Option Value)} {oc_Program___add__ kV_Program___add__ dc_Program___add__ pm_Program___add__ cd_Program___add__ ct_Program___add__ : Value}
    {z_different_programs : Addr}
    {od_different_programs an_different_programs : Option Addr} {sl_different_programs : Array (Option Value)} {oc_different_programs kV_different_programs dc_different_programs pm_different_programs cd_different_programs ct_different_programs : Value}
    {z__law_mixed : Addr}
    {od__law_mixed an__law_mixed : Option Addr} {sl__law_mixed : Array (Option Value)} {oc__law_mixed kV__law_mixed dc__law_mixed pm__law_mixed cd__law_mixed ct__law_mixed : Value}
    {od_law an_law : Option Addr} {sl_law : Array (Option Value)} {oc_law kV_law dc_law pm_law cd_law ct_law : Value}
    {z_law : Addr}
    {k_BadProgram : Addr}
    {k_BadStart : Addr}
    {k_BadNumber : Addr}
    {k_Mixed : Addr}
    {b_WeirError_BadProgram : Addr}
    {nm_BadProgram qn_BadProgram : Str} {N_BadProgram z_BadProgram cc_BadProgram cda_BadProgram : Addr} {bs_BadProgram sub_BadProgram : List Value} {sn_BadProgram : List Str} {ab_BadProgram : Bool} {col_BadProgram : Option Bool} {dd_BadProgram odi_BadProgram cdd_BadProgram cld_BadProgram an_BadProgram : Option Addr} {m0_BadProgram m1_BadProgram m2_BadProgram m3_BadProgram m5_BadProgram : Option Value} {oci_BadProgram ccl_BadProgram cl_BadProgram dc_BadProgram pm_BadProgram ct_BadProgram kV_BadProgram : Value} {osl_BadProgram ccs_BadProgram csl_BadProgram : Array (Option Value)} {vs_BadProgram : Array Value} {fl_BadProgram : Str} {tf_BadProgram : Tok}
    {t_MOST_ROUNDS : Tok}
    {x_RIGHT : Addr} {xd_RIGHT : Option Addr} {xn_RIGHT : Nat} {xs_RIGHT : Array (Option Value)} {t_RIGHT_0 : Tok}
    {x_LEFT : Addr} {xd_LEFT : Option Addr} {xn_LEFT : Nat} {xs_LEFT : Array (Option Value)} {t_LEFT_0 : Tok}
    {t_MOST_EVERY : Tok}
    {t_MOST_LENGTH : Tok}
    {t_MOST_LAPS : Tok}
    {x_STARTS : Addr} {xd_STARTS : Option Addr} {xn_STARTS : Nat} {xs_STARTS : Array (Option Value)} {t_STARTS_0 : Tok} {t_STARTS_1 : Tok} {t_STARTS_2 : Tok} {t_STARTS_3 : Tok}
    {t_MOST_KINDS : Tok}
    {t_MOST_LONG : Tok}
    (aC_Program : PySem.W.nsIn K mainGlobals "Program" = some (some (.ref k_Program)))
    (a__law_draw : PySem.W.nsIn K mainGlobals "_law_draw" = some (some (.ref z__law_draw)))
    (l__law_draw : K.lookup z__law_draw = some ⟨oc__law_draw, od__law_draw, .func (PySem.W.fnOf "_law_draw" "_law_draw" (defArgs s__law_draw) (defBody s__law_draw) (defScope s__law_draw) .none kV__law_draw dc__law_draw pm__law_draw an__law_draw cd__law_draw ct__law_draw), sl__law_draw⟩)
    (c__law_draw : PySem.W.codeIn K cd__law_draw "_law_draw" = true)
    (h__law_draw : PySem.W.keepIn K (.ref z__law_draw) = true)
    (a__law_rounds : PySem.W.nsIn K mainGlobals "_law_rounds" = some (some (.ref z__law_rounds)))
    (l__law_rounds : K.lookup z__law_rounds = some ⟨oc__law_rounds, od__law_rounds, .func (PySem.W.fnOf "_law_rounds" "_law_rounds" (defArgs s__law_rounds) (defBody s__law_rounds) (defScope s__law_rounds) .none kV__law_rounds dc__law_rounds pm__law_rounds an__law_rounds cd__law_rounds ct__law_rounds), sl__law_rounds⟩)
    (c__law_rounds : PySem.W.codeIn K cd__law_rounds "_law_rounds" = true)
    (h__law_rounds : PySem.W.keepIn K (.ref z__law_rounds) = true)
    (a_is_whole : PySem.W.nsIn K mainGlobals "is_whole" = some (some (.ref z_is_whole)))
    (l_is_whole : K.lookup z_is_whole = some ⟨oc_is_whole, od_is_whole, .func (PySem.W.fnOf "is_whole" "is_whole" (defArgs s_is_whole) (defBody s_is_whole) (defScope s_is_whole) .none kV_is_whole dc_is_whole pm_is_whole an_is_whole cd_is_whole ct_is_whole), sl_is_whole⟩)
    (c_is_whole : PySem.W.codeIn K cd_is_whole "is_whole" = true)
    (h_is_whole : PySem.W.keepIn K (.ref z_is_whole) = true)
    (a_is_round : PySem.W.nsIn K mainGlobals "is_round" = some (some (.ref z_is_round)))
    (l_is_round : K.lookup z_is_round = some ⟨oc_is_round, od_is_round, .func (PySem.W.fnOf "is_round" "is_round" (defArgs s_is_round) (defBody s_is_round) (defScope s_is_round) .none kV_is_round dc_is_round pm_is_round an_is_round cd_is_round ct_is_round), sl_is_round⟩)
    (c_is_round : PySem.W.codeIn K cd_is_round "is_round" = true)
    (h_is_round : PySem.W.keepIn K (.ref z_is_round) = true)
    (a_Program___init__ : PySem.W.findIn K (.ref k_Program) "__init__" = some (some (.ref z_Program___init__)))
    (i_Program___init__ : PySem.W.isFn K (.ref z_Program___init__) = true)
    (l_Program___init__ : K.lookup z_Program___init__ = some ⟨oc_Program___init__, od_Program___init__, .func (PySem.W.fnOf "__init__" "Program.__init__" (defArgs s_Program___init__) (defBody s_Program___init__) (defScope s_Program___init__) .none kV_Program___init__ dc_Program___init__ pm_Program___init__ an_Program___init__ cd_Program___init__ ct_Program___init__), sl_Program___init__⟩)
    (c_Program___init__ : PySem.W.codeIn K cd_Program___init__ "Program.__init__" = true)
    (h_Program___init__ : PySem.W.keepIn K (.ref z_Program___init__) = true)
    (a_check_program : PySem.W.nsIn K mainGlobals "check_program" = some (some (.ref z_check_program)))
    (l_check_program : K.lookup z_check_program = some ⟨oc_check_program, od_check_program, .func (PySem.W.fnOf "check_program" "check_program" (defArgs s_check_program) (defBody s_check_program) (defScope s_check_program) .none kV_check_program dc_check_program pm_check_program an_check_program cd_check_program ct_check_program), sl_check_program⟩)
    (c_check_program : PySem.W.codeIn K cd_check_program "check_program" = true)
    (h_check_program : PySem.W.keepIn K (.ref z_check_program) = true)
    (a_check_length : PySem.W.nsIn K mainGlobals "check_length" = some (some (.ref z_check_length)))
    (l_check_length : K.lookup z_check_length = some ⟨oc_check_length, od_check_length, .func (PySem.W.fnOf "check_length" "check_length" (defArgs s_check_length) (defBody s_check_length) (defScope s_check_length) .none kV_check_length dc_check_length pm_check_length an_check_length cd_check_length ct_check_length), sl_check_length⟩)
    (c_check_length : PySem.W.codeIn K cd_check_length "check_length" = true)
    (h_check_length : PySem.W.keepIn K (.ref z_check_length) = true)
    (a_check_basin : PySem.W.nsIn K mainGlobals "check_basin" = some (some (.ref z_check_basin)))
    (l_check_basin : K.lookup z_check_basin = some ⟨oc_check_basin, od_check_basin, .func (PySem.W.fnOf "check_basin" "check_basin" (defArgs s_check_basin) (defBody s_check_basin) (defScope s_check_basin) .none kV_check_basin dc_check_basin pm_check_basin an_check_basin cd_check_basin ct_check_basin), sl_check_basin⟩)
    (c_check_basin : PySem.W.codeIn K cd_check_basin "check_basin" = true)
    (h_check_basin : PySem.W.keepIn K (.ref z_check_basin) = true)
    (a_gives : PySem.W.nsIn K mainGlobals "gives" = some (some (.ref z_gives)))
    (l_gives : K.lookup z_gives = some ⟨oc_gives, od_gives, .func (PySem.W.fnOf "gives" "gives" (defArgs s_gives) (defBody s_gives) (defScope s_gives) .none kV_gives dc_gives pm_gives an_gives cd_gives ct_gives), sl_gives⟩)
    (c_gives : PySem.W.codeIn K cd_gives "gives" = true)
    (h_gives : PySem.W.keepIn K (.ref z_gives) = true)
    (a_got : PySem.W.nsIn K mainGlobals "got" = some (some (.ref z_got)))
    (l_got : K.lookup z_got = some ⟨oc_got, od_got, .func (PySem.W.fnOf "got" "got" (defArgs s_got) (defBody s_got) (defScope s_got) .none kV_got dc_got pm_got an_got cd_got ct_got), sl_got⟩)
    (c_got : PySem.W.codeIn K cd_got "got" = true)
    (h_got : PySem.W.keepIn K (.ref z_got) = true)
    (a_is_even_handed : PySem.W.nsIn K mainGlobals "is_even_handed" = some (some (.ref z_is_even_handed)))
    (l_is_even_handed : K.lookup z_is_even_handed = some ⟨oc_is_even_handed, od_is_even_handed, .func (PySem.W.fnOf "is_even_handed" "is_even_handed" (defArgs s_is_even_handed) (defBody s_is_even_handed) (defScope s_is_even_handed) .none kV_is_even_handed dc_is_even_handed pm_is_even_handed an_is_even_handed cd_is_even_handed ct_is_even_handed), sl_is_even_handed⟩)
    (c_is_even_handed : PySem.W.codeIn K cd_is_even_handed "is_even_handed" = true)
    (h_is_even_handed : PySem.W.keepIn K (.ref z_is_even_handed) = true)
    (a_stretches : PySem.W.nsIn K mainGlobals "stretches" = some (some (.ref z_stretches)))
    (l_stretches : K.lookup z_stretches = some ⟨oc_stretches, od_stretches, .func (PySem.W.fnOf "stretches" "stretches" (defArgs s_stretches) (defBody s_stretches) (defScope s_stretches) .none kV_stretches dc_stretches pm_stretches an_stretches cd_stretches ct_stretches), sl_stretches⟩)
    (c_stretches : PySem.W.codeIn K cd_stretches "stretches" = true)
    (h_stretches : PySem.W.keepIn K (.ref z_stretches) = true)
    (a_check_laps : PySem.W.nsIn K mainGlobals "check_laps" = some (some (.ref z_check_laps)))
    (l_check_laps : K.lookup z_check_laps = some ⟨oc_check_laps, od_check_laps, .func (PySem.W.fnOf "check_laps" "check_laps" (defArgs s_check_laps) (defBody s_check_laps) (defScope s_check_laps) .none kV_check_laps dc_check_laps pm_check_laps an_check_laps cd_check_laps ct_check_laps), sl_check_laps⟩)
    (c_check_laps : PySem.W.codeIn K cd_check_laps "check_laps" = true)
    (h_check_laps : PySem.W.keepIn K (.ref z_check_laps) = true)
    (a_left_behind : PySem.W.nsIn K mainGlobals "left_behind" = some (some (.ref z_left_behind)))
    (l_left_behind : K.lookup z_left_behind = some ⟨oc_left_behind, od_left_behind, .func (PySem.W.fnOf "left_behind" "left_behind" (defArgs s_left_behind) (defBody s_left_behind) (defScope s_left_behind) .none kV_left_behind dc_left_behind pm_left_behind an_left_behind cd_left_behind ct_left_behind), sl_left_behind⟩)
    (c_left_behind : PySem.W.codeIn K cd_left_behind "left_behind" = true)
    (h_left_behind : PySem.W.keepIn K (.ref z_left_behind) = true)
    (a_judge_laps : PySem.W.nsIn K mainGlobals "judge_laps" = some (some (.ref z_judge_laps)))
    (l_judge_laps : K.lookup z_judge_laps = some ⟨oc_judge_laps, od_judge_laps, .func (PySem.W.fnOf "judge_laps" "judge_laps" (defArgs s_judge_laps) (defBody s_judge_laps) (defScope s_judge_laps) .none kV_judge_laps dc_judge_laps pm_judge_laps an_judge_laps cd_judge_laps ct_judge_laps), sl_judge_laps⟩)
    (c_judge_laps : PySem.W.codeIn K cd_judge_laps "judge_laps" = true)
    (h_judge_laps : PySem.W.keepIn K (.ref z_judge_laps) = true)
    (a_is_part : PySem.W.nsIn K mainGlobals "is_part" = some (some (.ref z_is_part)))
    (l_is_part : K.lookup z_is_part = some ⟨oc_is_part, od_is_part, .func (PySem.W.fnOf "is_part" "is_part" (defArgs s_is_part) (defBody s_is_part) (defScope s_is_part) .none kV_is_part dc_is_part pm_is_part an_is_part cd_is_part ct_is_part), sl_is_part⟩)
    (c_is_part : PySem.W.codeIn K cd_is_part "is_part" = true)
    (h_is_part : PySem.W.keepIn K (.ref z_is_part) = true)
    (a_common : PySem.W.nsIn K mainGlobals "common" = some (some (.ref z_common)))
    (l_common : K.lookup z_common = some ⟨oc_common, od_common, .func (PySem.W.fnOf "common" "common" (defArgs s_common) (defBody s_common) (defScope s_common) .none kV_common dc_common pm_common an_common cd_common ct_common), sl_common⟩)
    (c_common : PySem.W.codeIn K cd_common "common" = true)
    (h_common : PySem.W.keepIn K (.ref z_common) = true)
    (a_part : PySem.W.nsIn K mainGlobals "part" = some (some (.ref z_part)))
    (l_part : K.lookup z_part = some ⟨oc_part, od_part, .func (PySem.W.fnOf "part" "part" (defArgs s_part) (defBody s_part) (defScope s_part) (.ref dt_part) kV_part dc_part pm_part an_part cd_part ct_part), sl_part⟩)
    (t_part : K.lookup dt_part = some ⟨.type "tuple", dxd_part, .seq #[.int 1 td_part_0] dxn_part, dxs_part⟩)
    (c_part : PySem.W.codeIn K cd_part "part" = true)
    (h_part : PySem.W.keepIn K (.ref z_part) = true)
    (a_as_part : PySem.W.nsIn K mainGlobals "as_part" = some (some (.ref z_as_part)))
    (l_as_part : K.lookup z_as_part = some ⟨oc_as_part, od_as_part, .func (PySem.W.fnOf "as_part" "as_part" (defArgs s_as_part) (defBody s_as_part) (defScope s_as_part) .none kV_as_part dc_as_part pm_as_part an_as_part cd_as_part ct_as_part), sl_as_part⟩)
    (c_as_part : PySem.W.codeIn K cd_as_part "as_part" = true)
    (h_as_part : PySem.W.keepIn K (.ref z_as_part) = true)
    (a_check_volumes : PySem.W.nsIn K mainGlobals "check_volumes" = some (some (.ref z_check_volumes)))
    (l_check_volumes : K.lookup z_check_volumes = some ⟨oc_check_volumes, od_check_volumes, .func (PySem.W.fnOf "check_volumes" "check_volumes" (defArgs s_check_volumes) (defBody s_check_volumes) (defScope s_check_volumes) .none kV_check_volumes dc_check_volumes pm_check_volumes an_check_volumes cd_check_volumes ct_check_volumes), sl_check_volumes⟩)
    (c_check_volumes : PySem.W.codeIn K cd_check_volumes "check_volumes" = true)
    (h_check_volumes : PySem.W.keepIn K (.ref z_check_volumes) = true)
    (a_lapped : PySem.W.nsIn K mainGlobals "lapped" = some (some (.ref z_lapped)))
    (l_lapped : K.lookup z_lapped = some ⟨oc_lapped, od_lapped, .func (PySem.W.fnOf "lapped" "lapped" (defArgs s_lapped) (defBody s_lapped) (defScope s_lapped) .none kV_lapped dc_lapped pm_lapped an_lapped cd_lapped ct_lapped), sl_lapped⟩)
    (c_lapped : PySem.W.codeIn K cd_lapped "lapped" = true)
    (h_lapped : PySem.W.keepIn K (.ref z_lapped) = true)
    (a_lap_limit : PySem.W.nsIn K mainGlobals "lap_limit" = some (some (.ref z_lap_limit)))
    (l_lap_limit : K.lookup z_lap_limit = some ⟨oc_lap_limit, od_lap_limit, .func (PySem.W.fnOf "lap_limit" "lap_limit" (defArgs s_lap_limit) (defBody s_lap_limit) (defScope s_lap_limit) .none kV_lap_limit dc_lap_limit pm_lap_limit an_lap_limit cd_lap_limit ct_lap_limit), sl_lap_limit⟩)
    (c_lap_limit : PySem.W.codeIn K cd_lap_limit "lap_limit" = true)
    (h_lap_limit : PySem.W.keepIn K (.ref z_lap_limit) = true)
    (a_moved : PySem.W.nsIn K mainGlobals "moved" = some (some (.ref z_moved)))
    (l_moved : K.lookup z_moved = some ⟨oc_moved, od_moved, .func (PySem.W.fnOf "moved" "moved" (defArgs s_moved) (defBody s_moved) (defScope s_moved) .none kV_moved dc_moved pm_moved an_moved cd_moved ct_moved), sl_moved⟩)
    (c_moved : PySem.W.codeIn K cd_moved "moved" = true)
    (h_moved : PySem.W.keepIn K (.ref z_moved) = true)
    (a_lap_recurrence : PySem.W.nsIn K mainGlobals "lap_recurrence" = some (some (.ref z_lap_recurrence)))
    (l_lap_recurrence : K.lookup z_lap_recurrence = some ⟨oc_lap_recurrence, od_lap_recurrence, .func (PySem.W.fnOf "lap_recurrence" "lap_recurrence" (defArgs s_lap_recurrence) (defBody s_lap_recurrence) (defScope s_lap_recurrence) .none kV_lap_recurrence dc_lap_recurrence pm_lap_recurrence an_lap_recurrence cd_lap_recurrence ct_lap_recurrence), sl_lap_recurrence⟩)
    (c_lap_recurrence : PySem.W.codeIn K cd_lap_recurrence "lap_recurrence" = true)
    (h_lap_recurrence : PySem.W.keepIn K (.ref z_lap_recurrence) = true)
    (a__law_asked : PySem.W.nsIn K mainGlobals "_law_asked" = some (some (.ref z__law_asked)))
    (l__law_asked : K.lookup z__law_asked = some ⟨oc__law_asked, od__law_asked, .func (PySem.W.fnOf "_law_asked" "_law_asked" (defArgs s__law_asked) (defBody s__law_asked) (defScope s__law_asked) .none kV__law_asked dc__law_asked pm__law_asked an__law_asked cd__law_asked ct__law_asked), sl__law_asked⟩)
    (c__law_asked : PySem.W.codeIn K cd__law_asked "_law_asked" = true)
    (h__law_asked : PySem.W.keepIn K (.ref z__law_asked) = true)
    (a_turned_back : PySem.W.nsIn K mainGlobals "turned_back" = some (some (.ref z_turned_back)))
    (l_turned_back : K.lookup z_turned_back = some ⟨oc_turned_back, od_turned_back, .func (PySem.W.fnOf "turned_back" "turned_back" (defArgs s_turned_back) (defBody s_turned_back) (defScope s_turned_back) .none kV_turned_back dc_turned_back pm_turned_back an_turned_back cd_turned_back ct_turned_back), sl_turned_back⟩)
    (c_turned_back : PySem.W.codeIn K cd_turned_back "turned_back" = true)
    (h_turned_back : PySem.W.keepIn K (.ref z_turned_back) = true)
    (a_straightened : PySem.W.nsIn K mainGlobals "straightened" = some (some (.ref z_straightened)))
    (l_straightened : K.lookup z_straightened = some ⟨oc_straightened, od_straightened, .func (PySem.W.fnOf "straightened" "straightened" (defArgs s_straightened) (defBody s_straightened) (defScope s_straightened) .none kV_straightened dc_straightened pm_straightened an_straightened cd_straightened ct_straightened), sl_straightened⟩)
    (c_straightened : PySem.W.codeIn K cd_straightened "straightened" = true)
    (h_straightened : PySem.W.keepIn K (.ref z_straightened) = true)
    (a_check_programs : PySem.W.nsIn K mainGlobals "check_programs" = some (some (.ref z_check_programs)))
    (l_check_programs : K.lookup z_check_programs = some ⟨oc_check_programs, od_check_programs, .func (PySem.W.fnOf "check_programs" "check_programs" (defArgs s_check_programs) (defBody s_check_programs) (defScope s_check_programs) .none kV_check_programs dc_check_programs pm_check_programs an_check_programs cd_check_programs ct_check_programs), sl_check_programs⟩)
    (c_check_programs : PySem.W.codeIn K cd_check_programs "check_programs" = true)
    (h_check_programs : PySem.W.keepIn K (.ref z_check_programs) = true)
    (a_tidy_program : PySem.W.nsIn K mainGlobals "tidy_program" = some (some (.ref z_tidy_program)))
    (l_tidy_program : K.lookup z_tidy_program = some ⟨oc_tidy_program, od_tidy_program, .func (PySem.W.fnOf "tidy_program" "tidy_program" (defArgs s_tidy_program) (defBody s_tidy_program) (defScope s_tidy_program) .none kV_tidy_program dc_tidy_program pm_tidy_program an_tidy_program cd_tidy_program ct_tidy_program), sl_tidy_program⟩)
    (c_tidy_program : PySem.W.codeIn K cd_tidy_program "tidy_program" = true)
    (h_tidy_program : PySem.W.keepIn K (.ref z_tidy_program) = true)
    (a_judge_even : PySem.W.nsIn K mainGlobals "judge_even" = some (some (.ref z_judge_even)))
    (l_judge_even : K.lookup z_judge_even = some ⟨oc_judge_even, od_judge_even, .func (PySem.W.fnOf "judge_even" "judge_even" (defArgs s_judge_even) (defBody s_judge_even) (defScope s_judge_even) .none kV_judge_even dc_judge_even pm_judge_even an_judge_even cd_judge_even ct_judge_even), sl_judge_even⟩)
    (c_judge_even : PySem.W.codeIn K cd_judge_even "judge_even" = true)
    (h_judge_even : PySem.W.keepIn K (.ref z_judge_even) = true)
    (a_check_start : PySem.W.nsIn K mainGlobals "check_start" = some (some (.ref z_check_start)))
    (l_check_start : K.lookup z_check_start = some ⟨oc_check_start, od_check_start, .func (PySem.W.fnOf "check_start" "check_start" (defArgs s_check_start) (defBody s_check_start) (defScope s_check_start) .none kV_check_start dc_check_start pm_check_start an_check_start cd_check_start ct_check_start), sl_check_start⟩)
    (c_check_start : PySem.W.codeIn K cd_check_start "check_start" = true)
    (h_check_start : PySem.W.keepIn K (.ref z_check_start) = true)
    (a_recurrence : PySem.W.nsIn K mainGlobals "recurrence" = some (some (.ref z_recurrence)))
    (l_recurrence : K.lookup z_recurrence = some ⟨oc_recurrence, od_recurrence, .func (PySem.W.fnOf "recurrence" "recurrence" (defArgs s_recurrence) (defBody s_recurrence) (defScope s_recurrence) .none kV_recurrence dc_recurrence pm_recurrence an_recurrence cd_recurrence ct_recurrence), sl_recurrence⟩)
    (c_recurrence : PySem.W.codeIn K cd_recurrence "recurrence" = true)
    (h_recurrence : PySem.W.keepIn K (.ref z_recurrence) = true)
    (a_judge_programs : PySem.W.nsIn K mainGlobals "judge_programs" = some (some (.ref z_judge_programs)))
    (l_judge_programs : K.lookup z_judge_programs = some ⟨oc_judge_programs, od_judge_programs, .func (PySem.W.fnOf "judge_programs" "judge_programs" (defArgs s_judge_programs) (defBody s_judge_programs) (defScope s_judge_programs) .none kV_judge_programs dc_judge_programs pm_judge_programs an_judge_programs cd_judge_programs ct_judge_programs), sl_judge_programs⟩)
    (c_judge_programs : PySem.W.codeIn K cd_judge_programs "judge_programs" = true)
    (h_judge_programs : PySem.W.keepIn K (.ref z_judge_programs) = true)
    (a_judge_later : PySem.W.nsIn K mainGlobals "judge_later" = some (some (.ref z_judge_later)))
    (l_judge_later : K.lookup z_judge_later = some ⟨oc_judge_later, od_judge_later, .func (PySem.W.fnOf "judge_later" "judge_later" (defArgs s_judge_later) (defBody s_judge_later) (defScope s_judge_later) .none kV_judge_later dc_judge_later pm_judge_later an_judge_later cd_judge_later ct_judge_later), sl_judge_later⟩)
    (c_judge_later : PySem.W.codeIn K cd_judge_later "judge_later" = true)
    (h_judge_later : PySem.W.keepIn K (.ref z_judge_later) = true)
    (a_amount : PySem.W.nsIn K mainGlobals "amount" = some (some (.ref z_amount)))
    (l_amount : K.lookup z_amount = some ⟨oc_amount, od_amount, .func (PySem.W.fnOf "amount" "amount" (defArgs s_amount) (defBody s_amount) (defScope s_amount) .none kV_amount dc_amount pm_amount an_amount cd_amount ct_amount), sl_amount⟩)
    (c_amount : PySem.W.codeIn K cd_amount "amount" = true)
    (h_amount : PySem.W.keepIn K (.ref z_amount) = true)
    (a_amounts : PySem.W.nsIn K mainGlobals "amounts" = some (some (.ref z_amounts)))
    (l_amounts : K.lookup z_amounts = some ⟨oc_amounts, od_amounts, .func (PySem.W.fnOf "amounts" "amounts" (defArgs s_amounts) (defBody s_amounts) (defScope s_amounts) .none kV_amounts dc_amounts pm_amounts an_amounts cd_amounts ct_amounts), sl_amounts⟩)
    (c_amounts : PySem.W.codeIn K cd_amounts "amounts" = true)
    (h_amounts : PySem.W.keepIn K (.ref z_amounts) = true)
    (a_check_kinds : PySem.W.nsIn K mainGlobals "check_kinds" = some (some (.ref z_check_kinds)))
    (l_check_kinds : K.lookup z_check_kinds = some ⟨oc_check_kinds, od_check_kinds, .func (PySem.W.fnOf "check_kinds" "check_kinds" (defArgs s_check_kinds) (defBody s_check_kinds) (defScope s_check_kinds) .none kV_check_kinds dc_check_kinds pm_check_kinds an_check_kinds cd_check_kinds ct_check_kinds), sl_check_kinds⟩)
    (c_check_kinds : PySem.W.codeIn K cd_check_kinds "check_kinds" = true)
    (h_check_kinds : PySem.W.keepIn K (.ref z_check_kinds) = true)
    (a_check_all : PySem.W.nsIn K mainGlobals "check_all" = some (some (.ref z_check_all)))
    (l_check_all : K.lookup z_check_all = some ⟨oc_check_all, od_check_all, .func (PySem.W.fnOf "check_all" "check_all" (defArgs s_check_all) (defBody s_check_all) (defScope s_check_all) .none kV_check_all dc_check_all pm_check_all an_check_all cd_check_all ct_check_all), sl_check_all⟩)
    (c_check_all : PySem.W.codeIn K cd_check_all "check_all" = true)
    (h_check_all : PySem.W.keepIn K (.ref z_check_all) = true)
    (a_few_rounds : PySem.W.nsIn K mainGlobals "few_rounds" = some (some (.ref z_few_rounds)))
    (l_few_rounds : K.lookup z_few_rounds = some ⟨oc_few_rounds, od_few_rounds, .func (PySem.W.fnOf "few_rounds" "few_rounds" (defArgs s_few_rounds) (defBody s_few_rounds) (defScope s_few_rounds) .none kV_few_rounds dc_few_rounds pm_few_rounds an_few_rounds cd_few_rounds ct_few_rounds), sl_few_rounds⟩)
    (c_few_rounds : PySem.W.codeIn K cd_few_rounds "few_rounds" = true)
    (h_few_rounds : PySem.W.keepIn K (.ref z_few_rounds) = true)
    (a__law_alone : PySem.W.nsIn K mainGlobals "_law_alone" = some (some (.ref z__law_alone)))
    (l__law_alone : K.lookup z__law_alone = some ⟨oc__law_alone, od__law_alone, .func (PySem.W.fnOf "_law_alone" "_law_alone" (defArgs s__law_alone) (defBody s__law_alone) (defScope s__law_alone) .none kV__law_alone dc__law_alone pm__law_alone an__law_alone cd__law_alone ct__law_alone), sl__law_alone⟩)
    (c__law_alone : PySem.W.codeIn K cd__law_alone "_law_alone" = true)
    (h__law_alone : PySem.W.keepIn K (.ref z__law_alone) = true)
    (a_Program___eq__ : PySem.W.findIn K (.ref k_Program) "__eq__" = some (some (.ref z_Program___eq__)))
    (i_Program___eq__ : PySem.W.isFn K (.ref z_Program___eq__) = true)
    (l_Program___eq__ : K.lookup z_Program___eq__ = some ⟨oc_Program___eq__, od_Program___eq__, .func (PySem.W.fnOf "__eq__" "Program.__eq__" (defArgs s_Program___eq__) (defBody s_Program___eq__) (defScope s_Program___eq__) .none kV_Program___eq__ dc_Program___eq__ pm_Program___eq__ an_Program___eq__ cd_Program___eq__ ct_Program___eq__), sl_Program___eq__⟩)
    (c_Program___eq__ : PySem.W.codeIn K cd_Program___eq__ "Program.__eq__" = true)
    (h_Program___eq__ : PySem.W.keepIn K (.ref z_Program___eq__) = true)
    (a_Program___add__ : PySem.W.findIn K (.ref k_Program) "__add__" = some (some (.ref z_Program___add__)))
    (i_Program___add__ : PySem.W.isFn K (.ref z_Program___add__) = true)
    (l_Program___add__ : K.lookup z_Program___add__ = some ⟨oc_Program___add__, od_Program___add__, .func (PySem.W.fnOf "__add__" "Program.__add__" (defArgs s_Program___add__) (defBody s_Program___add__) (defScope s_Program___add__) .none kV_Program___add__ dc_Program___add__ pm_Program___add__ an_Program___add__ cd_Program___add__ ct_Program___add__), sl_Program___add__⟩)
    (c_Program___add__ : PySem.W.codeIn K cd_Program___add__ "Program.__add__" = true)
    (h_Program___add__ : PySem.W.keepIn K (.ref z_Program___add__) = true)
    (a_different_programs : PySem.W.nsIn K mainGlobals "different_programs" = some (some (.ref z_different_programs)))
    (l_different_programs : K.lookup z_different_programs = some ⟨oc_different_programs, od_different_programs, .func (PySem.W.fnOf "different_programs" "different_programs" (defArgs s_different_programs) (defBody s_different_programs) (defScope s_different_programs) .none kV_different_programs dc_different_programs pm_different_programs an_different_programs cd_different_programs ct_different_programs), sl_different_programs⟩)
    (c_different_programs : PySem.W.codeIn K cd_different_programs "different_programs" = true)
    (h_different_programs : PySem.W.keepIn K (.ref z_different_programs) = true)
    (a__law_mixed : PySem.W.nsIn K mainGlobals "_law_mixed" = some (some (.ref z__law_mixed)))
    (l__law_mixed : K.lookup z__law_mixed = some ⟨oc__law_mixed, od__law_mixed, .func (PySem.W.fnOf "_law_mixed" "_law_mixed" (defArgs s__law_mixed) (defBody s__law_mixed) (defScope s__law_mixed) .none kV__law_mixed dc__law_mixed pm__law_mixed an__law_mixed cd__law_mixed ct__law_mixed), sl__law_mixed⟩)
    (c__law_mixed : PySem.W.codeIn K cd__law_mixed "_law_mixed" = true)
    (h__law_mixed : PySem.W.keepIn K (.ref z__law_mixed) = true)
    (a_law : PySem.W.nsIn K mainGlobals "law" = some (some (.ref z_law)))
    (l_law : K.lookup z_law = some ⟨oc_law, od_law, .func (PySem.W.fnOf "law" "law" (defArgs s_law) (defBody s_law) (defScope s_law) .none kV_law dc_law pm_law an_law cd_law ct_law), sl_law⟩)
    (c_law : PySem.W.codeIn K cd_law "law" = true)
    (h_law : PySem.W.keepIn K (.ref z_law) = true)
    (pg_Program : PySem.W.plainGet K k_Program Str.empty = true)
    (hd_Program : PySem.W.hasDictIn K k_Program = true)
    (po_Program : PySem.W.plainOver K k_Program = true)
    (sa_Program : PySem.W.findIn K (.ref k_Program) "__setattr__" = some (some (.builtin "object.__setattr__")))
    (mk_Program : PySem.W.makesIn K k_Program = true)
    (kc_Program : PySem.W.keepIn K (.ref k_Program) = true)
    (in_Program : PySem.W.findIn K (.ref k_Program) "__init__" = some (some (.ref z_Program___init__)))
    (no_Program_rounds : PySem.W.findIn K (.ref k_Program) "rounds" = some none)
    (me_Program___add__ : PySem.W.findIn K (.ref k_Program) "__add__" = some (some (.ref z_Program___add__)))
    (me_Program___eq__ : PySem.W.findIn K (.ref k_Program) "__eq__" = some (some (.ref z_Program___eq__)))
    (sf_Program : PySem.W.selfFirst K k_Program = true)
    (gs : PySem.W.specialIn K (.builtin "object.__class__") "__get__" = some (some (.builtin "getset_descriptor.__get__")))
    (tk : PySem.W.takesIn K (.builtin "object.__class__") = some true)
    (cc_Program : PySem.W.findIn K (.ref k_Program) "__class__" = some (some (.builtin "object.__class__")))
    (mo_Program : PySem.W.mroIn K k_Program (.type "object") = some true)
    (ki_Program_Program : PySem.W.subIn K (.ref k_Program) (.ref k_Program) = some true)
    (ty_Program : PySem.W.typeIn K (.ref k_Program) = some (.type "type"))
    (su_Program : PySem.W.subIn K (.ref k_Program) (.ref k_Program) = some true)
    (ob_Program : PySem.W.mroIn K k_Program (.type "object") = some true)
    (n_abs : PySem.W.nsIn K mainGlobals "abs" = some none)
    (n_all : PySem.W.nsIn K mainGlobals "all" = some none)
    (n_bool : PySem.W.nsIn K mainGlobals "bool" = some none)
    (n_enumerate : PySem.W.nsIn K mainGlobals "enumerate" = some none)
    (n_int : PySem.W.nsIn K mainGlobals "int" = some none)
    (n_isinstance : PySem.W.nsIn K mainGlobals "isinstance" = some none)
    (n_len : PySem.W.nsIn K mainGlobals "len" = some none)
    (n_list : PySem.W.nsIn K mainGlobals "list" = some none)
    (n_range : PySem.W.nsIn K mainGlobals "range" = some none)
    (n_str : PySem.W.nsIn K mainGlobals "str" = some none)
    (n_tuple : PySem.W.nsIn K mainGlobals "tuple" = some none)
    (nc_Program : PySem.W.isClsIn K k_Program = true)
    (nNoneType_Program : PySem.W.subIn K (.type "NoneType") (.ref k_Program) = some false)
    (nbool_Program : PySem.W.subIn K (.type "bool") (.ref k_Program) = some false)
    (nint_Program : PySem.W.subIn K (.type "int") (.ref k_Program) = some false)
    (nstr_Program : PySem.W.subIn K (.type "str") (.ref k_Program) = some false)
    (ntuple_Program : PySem.W.subIn K (.type "tuple") (.ref k_Program) = some false)
    (nlist_Program : PySem.W.subIn K (.type "list") (.ref k_Program) = some false)
    (ndict_Program : PySem.W.subIn K (.type "dict") (.ref k_Program) = some false)
    (aC_BadProgram : PySem.W.nsIn K mainGlobals "BadProgram" = some (some (.ref k_BadProgram)))
    (aC_BadStart : PySem.W.nsIn K mainGlobals "BadStart" = some (some (.ref k_BadStart)))
    (aC_BadNumber : PySem.W.nsIn K mainGlobals "BadNumber" = some (some (.ref k_BadNumber)))
    (aC_Mixed : PySem.W.nsIn K mainGlobals "Mixed" = some (some (.ref k_Mixed)))
    (eb_BadProgram : PySem.W.subIn K (.ref k_BadProgram) (.type "BaseException") = some true)
    (et_BadProgram : PySem.W.typeIn K (.ref k_BadProgram) = some (.type "type"))
    (ek_BadProgram : PySem.W.keepIn K (.ref k_BadProgram) = true)
    (ec_BadProgram : PySem.W.isClsIn K k_BadProgram = true)
    (es_BadProgram_BadProgram : PySem.W.subIn K (.ref k_BadProgram) (.ref k_BadProgram) = some true)
    (es_BadStart_BadProgram : PySem.W.subIn K (.ref k_BadStart) (.ref k_BadProgram) = some false)
    (es_BadNumber_BadProgram : PySem.W.subIn K (.ref k_BadNumber) (.ref k_BadProgram) = some false)
    (es_Mixed_BadProgram : PySem.W.subIn K (.ref k_Mixed) (.ref k_BadProgram) = some false)
    (xL_BadProgram : K.lookup k_BadProgram = some (excClassObj nm_BadProgram qn_BadProgram k_BadProgram N_BadProgram bs_BadProgram [.ref b_WeirError_BadProgram, .type "ValueError", .type "Exception", .type "BaseException", .type "object"] true sn_BadProgram sub_BadProgram ab_BadProgram col_BadProgram dd_BadProgram m0_BadProgram m1_BadProgram m2_BadProgram m3_BadProgram m5_BadProgram "ValueError.__new__"))
    (xs_BadProgram : PySem.W.findIn K (.ref k_BadProgram) "__setattr__" = some (some (.builtin "object.__setattr__")))
    (xn0_BadProgram : PySem.W.findIn K (.ref k_BadProgram) "place" = some none)
    (xi_BadProgram : PySem.W.findIn K (.ref k_BadProgram) "__init__" = some (some (.ref z_BadProgram)))
    (xt_BadProgram : PySem.W.typeIn K (.ref z_BadProgram) = some (.type "function"))
    (xu_BadProgram : PySem.W.ks_superIn K k_BadProgram k_BadProgram "__init__" = some (some (.builtin "ValueError.__init__")))
    (xv_BadProgram : PySem.W.subIn K (.ref k_BadProgram) (.type "ValueError") = some true)
    (xr_BadProgram : PySem.W.mroIn K k_BadProgram (.ref k_BadProgram) = some true)
    (xl_BadProgram : K.lookup z_BadProgram = some ⟨oci_BadProgram, odi_BadProgram, .func (PySem.W.ksFn "__init__" "BadProgram.__init__" (defArgs (inClass (top 20) 0)) (defBody (inClass (top 20) 0)) (defScope (inClass (top 20) 0)) .none kV_BadProgram dc_BadProgram pm_BadProgram an_BadProgram (.ref cda_BadProgram) ct_BadProgram cc_BadProgram), osl_BadProgram⟩)
    (xd_BadProgram : PySem.W.codeIn K (.ref cda_BadProgram) "BadProgram.__init__" = true)
    (xo_BadProgram : K.lookup cda_BadProgram = some ⟨ccl_BadProgram, cdd_BadProgram, .fields vs_BadProgram, ccs_BadProgram⟩)
    (xw_BadProgram : vs_BadProgram[2]? = some (.str fl_BadProgram tf_BadProgram))
    (xp_BadProgram : ((l.prog.main.file : Str) == fl_BadProgram) = true)
    (xq_BadProgram : (l.prog.main.scope.names.lookup ("super" : Str)).isSome = false)
    (xe_BadProgram : K.lookup cc_BadProgram = some ⟨cl_BadProgram, cld_BadProgram, .cell (some (.ref k_BadProgram)), csl_BadProgram⟩)
    (xg_BadProgram : PySem.W.nsIn K mainGlobals "super" = some none)
    (xh_BadProgram : PySem.W.nsIn K PySem.cStatics "thirdparty.any" = some none)
    (eb_BadStart : PySem.W.subIn K (.ref k_BadStart) (.type "BaseException") = some true)
    (et_BadStart : PySem.W.typeIn K (.ref k_BadStart) = some (.type "type"))
    (ek_BadStart : PySem.W.keepIn K (.ref k_BadStart) = true)
    (ec_BadStart : PySem.W.isClsIn K k_BadStart = true)
    (es_BadProgram_BadStart : PySem.W.subIn K (.ref k_BadProgram) (.ref k_BadStart) = some false)
    (es_BadStart_BadStart : PySem.W.subIn K (.ref k_BadStart) (.ref k_BadStart) = some true)
    (es_BadNumber_BadStart : PySem.W.subIn K (.ref k_BadNumber) (.ref k_BadStart) = some false)
    (es_Mixed_BadStart : PySem.W.subIn K (.ref k_Mixed) (.ref k_BadStart) = some false)
    (xm_BadStart : PySem.W.excIn K k_BadStart veMro "ValueError.__new__" = true)
    (eb_BadNumber : PySem.W.subIn K (.ref k_BadNumber) (.type "BaseException") = some true)
    (et_BadNumber : PySem.W.typeIn K (.ref k_BadNumber) = some (.type "type"))
    (ek_BadNumber : PySem.W.keepIn K (.ref k_BadNumber) = true)
    (xm_BadNumber : PySem.W.excIn K k_BadNumber veMro "ValueError.__new__" = true)
    (eb_Mixed : PySem.W.subIn K (.ref k_Mixed) (.type "BaseException") = some true)
    (et_Mixed : PySem.W.typeIn K (.ref k_Mixed) = some (.type "type"))
    (ek_Mixed : PySem.W.keepIn K (.ref k_Mixed) = true)
    (ec_Mixed : PySem.W.isClsIn K k_Mixed = true)
    (es_BadProgram_Mixed : PySem.W.subIn K (.ref k_BadProgram) (.ref k_Mixed) = some false)
    (es_BadStart_Mixed : PySem.W.subIn K (.ref k_BadStart) (.ref k_Mixed) = some false)
    (es_BadNumber_Mixed : PySem.W.subIn K (.ref k_BadNumber) (.ref k_Mixed) = some false)
    (es_Mixed_Mixed : PySem.W.subIn K (.ref k_Mixed) (.ref k_Mixed) = some true)
    (xm_Mixed : PySem.W.excIn K k_Mixed veMro "ValueError.__new__" = true)
    (ra_BadProgram : PySem.W.findIn K (.ref k_BadProgram) "__getattribute__" = some (some (.builtin "BaseException.__getattribute__")))
    (rb_BadProgram : PySem.W.findIn K (.ref k_BadProgram) "__getattr__" = some none)
    (rc_BadProgram : PySem.W.hasDictIn K k_BadProgram = true)
    (rn_BadProgram_place : PySem.W.findIn K (.ref k_BadProgram) "place" = some none)
    (g_MOST_ROUNDS : PySem.W.nsIn K mainGlobals "MOST_ROUNDS" = some (some (.int 12 t_MOST_ROUNDS)))
    (g_RIGHT : PySem.W.nsIn K mainGlobals "RIGHT" = some (some (.ref x_RIGHT)))
    (o_RIGHT : K.lookup x_RIGHT = some ⟨.type "tuple", xd_RIGHT, .seq #[.str "right" t_RIGHT_0] xn_RIGHT, xs_RIGHT⟩)
    (g_LEFT : PySem.W.nsIn K mainGlobals "LEFT" = some (some (.ref x_LEFT)))
    (o_LEFT : K.lookup x_LEFT = some ⟨.type "tuple", xd_LEFT, .seq #[.str "left" t_LEFT_0] xn_LEFT, xs_LEFT⟩)
    (g_MOST_EVERY : PySem.W.nsIn K mainGlobals "MOST_EVERY" = some (some (.int 4 t_MOST_EVERY)))
    (g_MOST_LENGTH : PySem.W.nsIn K mainGlobals "MOST_LENGTH" = some (some (.int 400 t_MOST_LENGTH)))
    (g_MOST_LAPS : PySem.W.nsIn K mainGlobals "MOST_LAPS" = some (some (.int 200 t_MOST_LAPS)))
    (g_STARTS : PySem.W.nsIn K mainGlobals "STARTS" = some (some (.ref x_STARTS)))
    (o_STARTS : K.lookup x_STARTS = some ⟨.type "tuple", xd_STARTS, .seq #[.str "ones" t_STARTS_0, .str "first" t_STARTS_1, .str "last" t_STARTS_2, .str "stairs" t_STARTS_3] xn_STARTS, xs_STARTS⟩)
    (g_MOST_KINDS : PySem.W.nsIn K mainGlobals "MOST_KINDS" = some (some (.int 5 t_MOST_KINDS)))
    (g_MOST_LONG : PySem.W.nsIn K mainGlobals "MOST_LONG" = some (some (.int 3 t_MOST_LONG)))
    (hl : ∀ ns : List Int, ns.length ≤ 63 → (∀ z ∈ ns, Builtin.Int.intBits z ≤ 1048576) → ∃ r, K18.f_law [.scr ns] = some (.val (.bl true) r)) :
    ∃ fd : FuncData, (∀ (s : Shared) (v : Value), BindsTo s fd ⟨[v], []⟩ [("_law_script", v)]) ∧ ∀ base : Heap, K.In base → base.Ns mainGlobals mg → FnOk l.prog w K mg base (L2.CX l.prog w) 8 fa fd ["_law_script"] (spLaw K) := by
  have e := hfa.symm.trans (PySem.W.mg_of X G a_law)
  cases e
  let A : Ads := {
    a__law_draw := z__law_draw,
    d__law_draw := PySem.W.fnOf "_law_draw" "_law_draw" (defArgs s__law_draw) (defBody s__law_draw) (defScope s__law_draw) .none kV__law_draw dc__law_draw pm__law_draw an__law_draw cd__law_draw ct__law_draw,
    a__law_rounds := z__law_rounds,
    d__law_rounds := PySem.W.fnOf "_law_rounds" "_law_rounds" (defArgs s__law_rounds) (defBody s__law_rounds) (defScope s__law_rounds) .none kV__law_rounds dc__law_rounds pm__law_rounds an__law_rounds cd__law_rounds ct__law_rounds,
    a_is_whole := z_is_whole,
    d_is_whole := PySem.W.fnOf "is_whole" "is_whole" (defArgs s_is_whole) (defBody s_is_whole) (defScope s_is_whole) .none kV_is_whole dc_is_whole pm_is_whole an_is_whole cd_is_whole ct_is_whole,
    a_is_round := z_is_round,
    d_is_round := PySem.W.fnOf "is_round" "is_round" (defArgs s_is_round) (defBody s_is_round) (defScope s_is_round) .none kV_is_round dc_is_round pm_is_round an_is_round cd_is_round ct_is_round,
    a_Program___init__ := z_Program___init__,
    d_Program___init__ := PySem.W.fnOf "__init__" "Program.__init__" (defArgs s_Program___init__) (defBody s_Program___init__) (defScope s_Program___init__) .none kV_Program___init__ dc_Program___init__ pm_Program___init__ an_Program___init__ cd_Program___init__ ct_Program___init__,
    a_check_program := z_check_program,
    d_check_program := PySem.W.fnOf "check_program" "check_program" (defArgs s_check_program) (defBody s_check_program) (defScope s_check_program) .none kV_check_program dc_check_program pm_check_program an_check_program cd_check_program ct_check_program,
    a_check_length := z_check_length,
    d_check_length := PySem.W.fnOf "check_length" "check_length" (defArgs s_check_length) (defBody s_check_length) (defScope s_check_length) .none kV_check_length dc_check_length pm_check_length an_check_length cd_check_length ct_check_length,
    a_check_basin := z_check_basin,
    d_check_basin := PySem.W.fnOf "check_basin" "check_basin" (defArgs s_check_basin) (defBody s_check_basin) (defScope s_check_basin) .none kV_check_basin dc_check_basin pm_check_basin an_check_basin cd_check_basin ct_check_basin,
    a_gives := z_gives,
    d_gives := PySem.W.fnOf "gives" "gives" (defArgs s_gives) (defBody s_gives) (defScope s_gives) .none kV_gives dc_gives pm_gives an_gives cd_gives ct_gives,
    a_got := z_got,
    d_got := PySem.W.fnOf "got" "got" (defArgs s_got) (defBody s_got) (defScope s_got) .none kV_got dc_got pm_got an_got cd_got ct_got,
    a_is_even_handed := z_is_even_handed,
    d_is_even_handed := PySem.W.fnOf "is_even_handed" "is_even_handed" (defArgs s_is_even_handed) (defBody s_is_even_handed) (defScope s_is_even_handed) .none kV_is_even_handed dc_is_even_handed pm_is_even_handed an_is_even_handed cd_is_even_handed ct_is_even_handed,
    a_stretches := z_stretches,
    d_stretches := PySem.W.fnOf "stretches" "stretches" (defArgs s_stretches) (defBody s_stretches) (defScope s_stretches) .none kV_stretches dc_stretches pm_stretches an_stretches cd_stretches ct_stretches,
    a_check_laps := z_check_laps,
    d_check_laps := PySem.W.fnOf "check_laps" "check_laps" (defArgs s_check_laps) (defBody s_check_laps) (defScope s_check_laps) .none kV_check_laps dc_check_laps pm_check_laps an_check_laps cd_check_laps ct_check_laps,
    a_left_behind := z_left_behind,
    d_left_behind := PySem.W.fnOf "left_behind" "left_behind" (defArgs s_left_behind) (defBody s_left_behind) (defScope s_left_behind) .none kV_left_behind dc_left_behind pm_left_behind an_left_behind cd_left_behind ct_left_behind,
    a_judge_laps := z_judge_laps,
    d_judge_laps := PySem.W.fnOf "judge_laps" "judge_laps" (defArgs s_judge_laps) (defBody s_judge_laps) (defScope s_judge_laps) .none kV_judge_laps dc_judge_laps pm_judge_laps an_judge_laps cd_judge_laps ct_judge_laps,
    a_is_part := z_is_part,
    d_is_part := PySem.W.fnOf "is_part" "is_part" (defArgs s_is_part) (defBody s_is_part) (defScope s_is_part) .none kV_is_part dc_is_part pm_is_part an_is_part cd_is_part ct_is_part,
    a_common := z_common,
    d_common := PySem.W.fnOf "common" "common" (defArgs s_common) (defBody s_common) (defScope s_common) .none kV_common dc_common pm_common an_common cd_common ct_common,
    a_part := z_part,
    d_part := PySem.W.fnOf "part" "part" (defArgs s_part) (defBody s_part) (defScope s_part) (.ref dt_part) kV_part dc_part pm_part an_part cd_part ct_part,
    vd_part_0 := .int 1,
    a_as_part := z_as_part,
    d_as_part := PySem.W.fnOf "as_part" "as_part" (defArgs s_as_part) (defBody s_as_part) (defScope s_as_part) .none kV_as_part dc_as_part pm_as_part an_as_part cd_as_part ct_as_part,
    a_check_volumes := z_check_volumes,
    d_check_volumes := PySem.W.fnOf "check_volumes" "check_volumes" (defArgs s_check_volumes) (defBody s_check_volumes) (defScope s_check_volumes) .none kV_check_volumes dc_check_volumes pm_check_volumes an_check_volumes cd_check_volumes ct_check_volumes,
    a_lapped := z_lapped,
    d_lapped := PySem.W.fnOf "lapped" "lapped" (defArgs s_lapped) (defBody s_lapped) (defScope s_lapped) .none kV_lapped dc_lapped pm_lapped an_lapped cd_lapped ct_lapped,
    a_lap_limit := z_lap_limit,
    d_lap_limit := PySem.W.fnOf "lap_limit" "lap_limit" (defArgs s_lap_limit) (defBody s_lap_limit) (defScope s_lap_limit) .none kV_lap_limit dc_lap_limit pm_lap_limit an_lap_limit cd_lap_limit ct_lap_limit,
    a_moved := z_moved,
    d_moved := PySem.W.fnOf "moved" "moved" (defArgs s_moved) (defBody s_moved) (defScope s_moved) .none kV_moved dc_moved pm_moved an_moved cd_moved ct_moved,
    a_lap_recurrence := z_lap_recurrence,
    d_lap_recurrence := PySem.W.fnOf "lap_recurrence" "lap_recurrence" (defArgs s_lap_recurrence) (defBody s_lap_recurrence) (defScope s_lap_recurrence) .none kV_lap_recurrence dc_lap_recurrence pm_lap_recurrence an_lap_recurrence cd_lap_recurrence ct_lap_recurrence,
    a__law_asked := z__law_asked,
    d__law_asked := PySem.W.fnOf "_law_asked" "_law_asked" (defArgs s__law_asked) (defBody s__law_asked) (defScope s__law_asked) .none kV__law_asked dc__law_asked pm__law_asked an__law_asked cd__law_asked ct__law_asked,
    a_turned_back := z_turned_back,
    d_turned_back := PySem.W.fnOf "turned_back" "turned_back" (defArgs s_turned_back) (defBody s_turned_back) (defScope s_turned_back) .none kV_turned_back dc_turned_back pm_turned_back an_turned_back cd_turned_back ct_turned_back,
    a_straightened := z_straightened,
    d_straightened := PySem.W.fnOf "straightened" "straightened" (defArgs s_straightened) (defBody s_straightened) (defScope s_straightened) .none kV_straightened dc_straightened pm_straightened an_straightened cd_straightened ct_straightened,
    a_check_programs := z_check_programs,
    d_check_programs := PySem.W.fnOf "check_programs" "check_programs" (defArgs s_check_programs) (defBody s_check_programs) (defScope s_check_programs) .none kV_check_programs dc_check_programs pm_check_programs an_check_programs cd_check_programs ct_check_programs,
    a_tidy_program := z_tidy_program,
    d_tidy_program := PySem.W.fnOf "tidy_program" "tidy_program" (defArgs s_tidy_program) (defBody s_tidy_program) (defScope s_tidy_program) .none kV_tidy_program dc_tidy_program pm_tidy_program an_tidy_program cd_tidy_program ct_tidy_program,
    a_judge_even := z_judge_even,
    d_judge_even := PySem.W.fnOf "judge_even" "judge_even" (defArgs s_judge_even) (defBody s_judge_even) (defScope s_judge_even) .none kV_judge_even dc_judge_even pm_judge_even an_judge_even cd_judge_even ct_judge_even,
    a_check_start := z_check_start,
    d_check_start := PySem.W.fnOf "check_start" "check_start" (defArgs s_check_start) (defBody s_check_start) (defScope s_check_start) .none kV_check_start dc_check_start pm_check_start an_check_start cd_check_start ct_check_start,
    a_recurrence := z_recurrence,
    d_recurrence := PySem.W.fnOf "recurrence" "recurrence" (defArgs s_recurrence) (defBody s_recurrence) (defScope s_recurrence) .none kV_recurrence dc_recurrence pm_recurrence an_recurrence cd_recurrence ct_recurrence,
    a_judge_programs := z_judge_programs,
    d_judge_programs := PySem.W.fnOf "judge_programs" "judge_programs" (defArgs s_judge_programs) (defBody s_judge_programs) (defScope s_judge_programs) .none kV_judge_programs dc_judge_programs pm_judge_programs an_judge_programs cd_judge_programs ct_judge_programs,
    a_judge_later := z_judge_later,
    d_judge_later := PySem.W.fnOf "judge_later" "judge_later" (defArgs s_judge_later) (defBody s_judge_later) (defScope s_judge_later) .none kV_judge_later dc_judge_later pm_judge_later an_judge_later cd_judge_later ct_judge_later,
    a_amount := z_amount,
    d_amount := PySem.W.fnOf "amount" "amount" (defArgs s_amount) (defBody s_amount) (defScope s_amount) .none kV_amount dc_amount pm_amount an_amount cd_amount ct_amount,
    a_amounts := z_amounts,
    d_amounts := PySem.W.fnOf "amounts" "amounts" (defArgs s_amounts) (defBody s_amounts) (defScope s_amounts) .none kV_amounts dc_amounts pm_amounts an_amounts cd_amounts ct_amounts,
    a_check_kinds := z_check_kinds,
    d_check_kinds := PySem.W.fnOf "check_kinds" "check_kinds" (defArgs s_check_kinds) (defBody s_check_kinds) (defScope s_check_kinds) .none kV_check_kinds dc_check_kinds pm_check_kinds an_check_kinds cd_check_kinds ct_check_kinds,
    a_check_all := z_check_all,
    d_check_all := PySem.W.fnOf "check_all" "check_all" (defArgs s_check_all) (defBody s_check_all) (defScope s_check_all) .none kV_check_all dc_check_all pm_check_all an_check_all cd_check_all ct_check_all,
    a_few_rounds := z_few_rounds,
    d_few_rounds := PySem.W.fnOf "few_rounds" "few_rounds" (defArgs s_few_rounds) (defBody s_few_rounds) (defScope s_few_rounds) .none kV_few_rounds dc_few_rounds pm_few_rounds an_few_rounds cd_few_rounds ct_few_rounds,
    a__law_alone := z__law_alone,
    d__law_alone := PySem.W.fnOf "_law_alone" "_law_alone" (defArgs s__law_alone) (defBody s__law_alone) (defScope s__law_alone) .none kV__law_alone dc__law_alone pm__law_alone an__law_alone cd__law_alone ct__law_alone,
    a_Program___eq__ := z_Program___eq__,
    d_Program___eq__ := PySem.W.fnOf "__eq__" "Program.__eq__" (defArgs s_Program___eq__) (defBody s_Program___eq__) (defScope s_Program___eq__) .none kV_Program___eq__ dc_Program___eq__ pm_Program___eq__ an_Program___eq__ cd_Program___eq__ ct_Program___eq__,
    a_Program___add__ := z_Program___add__,
    d_Program___add__ := PySem.W.fnOf "__add__" "Program.__add__" (defArgs s_Program___add__) (defBody s_Program___add__) (defScope s_Program___add__) .none kV_Program___add__ dc_Program___add__ pm_Program___add__ an_Program___add__ cd_Program___add__ ct_Program___add__,
    a_different_programs := z_different_programs,
    d_different_programs := PySem.W.fnOf "different_programs" "different_programs" (defArgs s_different_programs) (defBody s_different_programs) (defScope s_different_programs) .none kV_different_programs dc_different_programs pm_different_programs an_different_programs cd_different_programs ct_different_programs,
    a__law_mixed := z__law_mixed,
    d__law_mixed := PySem.W.fnOf "_law_mixed" "_law_mixed" (defArgs s__law_mixed) (defBody s__law_mixed) (defScope s__law_mixed) .none kV__law_mixed dc__law_mixed pm__law_mixed an__law_mixed cd__law_mixed ct__law_mixed,
    a_law := fa,
    d_law := PySem.W.fnOf "law" "law" (defArgs s_law) (defBody s_law) (defScope s_law) .none kV_law dc_law pm_law an_law cd_law ct_law,
    k_Program := k_Program,
    k_BadProgram := k_BadProgram,
    k_BadStart := k_BadStart,
    k_BadNumber := k_BadNumber,
    k_Mixed := k_Mixed,
    v_MOST_ROUNDS := .int 12,
    u_MOST_ROUNDS := .int 12 t_MOST_ROUNDS,
    v_RIGHT := .ref x_RIGHT,
    u_RIGHT := .ref x_RIGHT,
    v_LEFT := .ref x_LEFT,
    u_LEFT := .ref x_LEFT,
    v_MOST_EVERY := .int 4,
    u_MOST_EVERY := .int 4 t_MOST_EVERY,
    v_MOST_LENGTH := .int 400,
    u_MOST_LENGTH := .int 400 t_MOST_LENGTH,
    v_MOST_LAPS := .int 200,
    u_MOST_LAPS := .int 200 t_MOST_LAPS,
    v_STARTS := .ref x_STARTS,
    u_STARTS := .ref x_STARTS,
    v_MOST_KINDS := .int 5,
    u_MOST_KINDS := .int 5 t_MOST_KINDS,
    v_MOST_LONG := .int 3,
    u_MOST_LONG := .int 3 t_MOST_LONG }
  have T : Txt l.prog w K mg A := {
    n_abs := PySem.W.mg_none_of X G n_abs,
    n_all := PySem.W.mg_none_of X G n_all,
    n_bool := PySem.W.mg_none_of X G n_bool,
    n_enumerate := PySem.W.mg_none_of X G n_enumerate,
    n_int := PySem.W.mg_none_of X G n_int,
    n_isinstance := PySem.W.mg_none_of X G n_isinstance,
    n_len := PySem.W.mg_none_of X G n_len,
    n_list := PySem.W.mg_none_of X G n_list,
    n_range := PySem.W.mg_none_of X G n_range,
    n_str := PySem.W.mg_none_of X G n_str,
    n_tuple := PySem.W.mg_none_of X G n_tuple,
    F__law_draw := fun_mk (st := s__law_draw) l__law_draw c__law_draw h__law_draw,
    B__law_draw := (fun_mk (st := s__law_draw) l__law_draw c__law_draw h__law_draw).binds (ps := ["_law_script", "_law_at", "_law_many"]) fun _ _ _ _ _ _ us hl => match us, hl with | [_, _, _], _ => rfl,
    mg__law_draw := PySem.W.mg_of X G a__law_draw,
    F__law_rounds := fun_mk (st := s__law_rounds) l__law_rounds c__law_rounds h__law_rounds,
    B__law_rounds := (fun_mk (st := s__law_rounds) l__law_rounds c__law_rounds h__law_rounds).binds (ps := ["_law_script", "_law_at", "_law_most", "_law_way"]) fun _ _ _ _ _ _ us hl => match us, hl with | [_, _, _, _], _ => rfl,
    mg__law_rounds := PySem.W.mg_of X G a__law_rounds,
    F_is_whole := fun_mk (st := s_is_whole) l_is_whole c_is_whole h_is_whole,
    B_is_whole := (fun_mk (st := s_is_whole) l_is_whole c_is_whole h_is_whole).binds (ps := ["thing"]) fun _ _ _ _ _ _ us hl => match us, hl with | [_], _ => rfl,
    mg_is_whole := PySem.W.mg_of X G a_is_whole,
    F_is_round := fun_mk (st := s_is_round) l_is_round c_is_round h_is_round,
    B_is_round := (fun_mk (st := s_is_round) l_is_round c_is_round h_is_round).binds (ps := ["thing"]) fun _ _ _ _ _ _ us hl => match us, hl with | [_], _ => rfl,
    mg_is_round := PySem.W.mg_of X G a_is_round,
    F_Program___init__ := fun_mk (st := s_Program___init__) l_Program___init__ c_Program___init__ h_Program___init__,
    B_Program___init__ := (fun_mk (st := s_Program___init__) l_Program___init__ c_Program___init__ h_Program___init__).binds (ps := ["self", "rounds"]) fun _ _ _ _ _ _ us hl => match us, hl with | [_, _], _ => rfl,
    F_check_program := fun_mk (st := s_check_program) l_check_program c_check_program h_check_program,
    B_check_program := (fun_mk (st := s_check_program) l_check_program c_check_program h_check_program).binds (ps := ["thing"]) fun _ _ _ _ _ _ us hl => match us, hl with | [_], _ => rfl,
    mg_check_program := PySem.W.mg_of X G a_check_program,
    F_check_length := fun_mk (st := s_check_length) l_check_length c_check_length h_check_length,
    B_check_length := (fun_mk (st := s_check_length) l_check_length c_check_length h_check_length).binds (ps := ["many"]) fun _ _ _ _ _ _ us hl => match us, hl with | [_], _ => rfl,
    mg_check_length := PySem.W.mg_of X G a_check_length,
    F_check_basin := fun_mk (st := s_check_basin) l_check_basin c_check_basin h_check_basin,
    B_check_basin := (fun_mk (st := s_check_basin) l_check_basin c_check_basin h_check_basin).binds (ps := ["basin", "many"]) fun _ _ _ _ _ _ us hl => match us, hl with | [_, _], _ => rfl,
    mg_check_basin := PySem.W.mg_of X G a_check_basin,
    F_gives := fun_mk (st := s_gives) l_gives c_gives h_gives,
    B_gives := (fun_mk (st := s_gives) l_gives c_gives h_gives).binds (ps := ["program", "many", "basin"]) fun _ _ _ _ _ _ us hl => match us, hl with | [_, _, _], _ => rfl,
    mg_gives := PySem.W.mg_of X G a_gives,
    F_got := fun_mk (st := s_got) l_got c_got h_got,
    B_got := (fun_mk (st := s_got) l_got c_got h_got).binds (ps := ["program", "many", "basin"]) fun _ _ _ _ _ _ us hl => match us, hl with | [_, _, _], _ => rfl,
    mg_got := PySem.W.mg_of X G a_got,
    F_is_even_handed := fun_mk (st := s_is_even_handed) l_is_even_handed c_is_even_handed h_is_even_handed,
    B_is_even_handed := (fun_mk (st := s_is_even_handed) l_is_even_handed c_is_even_handed h_is_even_handed).binds (ps := ["program", "many"]) fun _ _ _ _ _ _ us hl => match us, hl with | [_, _], _ => rfl,
    mg_is_even_handed := PySem.W.mg_of X G a_is_even_handed,
    F_stretches := fun_mk (st := s_stretches) l_stretches c_stretches h_stretches,
    B_stretches := (fun_mk (st := s_stretches) l_stretches c_stretches h_stretches).binds (ps := ["program", "many"]) fun _ _ _ _ _ _ us hl => match us, hl with | [_, _], _ => rfl,
    mg_stretches := PySem.W.mg_of X G a_stretches,
    F_check_laps := fun_mk (st := s_check_laps) l_check_laps c_check_laps h_check_laps,
    B_check_laps := (fun_mk (st := s_check_laps) l_check_laps c_check_laps h_check_laps).binds (ps := ["laps"]) fun _ _ _ _ _ _ us hl => match us, hl with | [_], _ => rfl,
    mg_check_laps := PySem.W.mg_of X G a_check_laps,
    F_left_behind := fun_mk (st := s_left_behind) l_left_behind c_left_behind h_left_behind,
    B_left_behind := (fun_mk (st := s_left_behind) l_left_behind c_left_behind h_left_behind).binds (ps := ["program", "many", "laps"]) fun _ _ _ _ _ _ us hl => match us, hl with | [_, _, _], _ => rfl,
    mg_left_behind := PySem.W.mg_of X G a_left_behind,
    F_judge_laps := fun_mk (st := s_judge_laps) l_judge_laps c_judge_laps h_judge_laps,
    B_judge_laps := (fun_mk (st := s_judge_laps) l_judge_laps c_judge_laps h_judge_laps).binds (ps := ["program", "many"]) fun _ _ _ _ _ _ us hl => match us, hl with | [_, _], _ => rfl,
    mg_judge_laps := PySem.W.mg_of X G a_judge_laps,
    F_is_part := fun_mk (st := s_is_part) l_is_part c_is_part h_is_part,
    B_is_part := (fun_mk (st := s_is_part) l_is_part c_is_part h_is_part).binds (ps := ["thing"]) fun _ _ _ _ _ _ us hl => match us, hl with | [_], _ => rfl,
    mg_is_part := PySem.W.mg_of X G a_is_part,
    F_common := fun_mk (st := s_common) l_common c_common h_common,
    B_common := (fun_mk (st := s_common) l_common c_common h_common).binds (ps := ["one", "other"]) fun _ _ _ _ _ _ us hl => match us, hl with | [_, _], _ => rfl,
    mg_common := PySem.W.mg_of X G a_common,
    F_part := (⟨⟨_, _, _, _, _, _, _, _, _, _, rfl, l_part, c_part, .inr ⟨nofun, _, _, [.int 1 td_part_0], _, rfl, t_part, rfl, (.cons ⟨_, rfl⟩ .nil)⟩, .inl rfl⟩, h_part⟩ : FunS K "part" "part" s_part [.int 1] _ _),
    qd_part_0 := fun _ => .int _,
    B_part := dfl_none (FunD.binds1 (ps := ["top", "below"]) (⟨⟨_, _, _, _, _, _, _, _, _, _, rfl, l_part, c_part, .inr ⟨nofun, _, _, [.int 1 td_part_0], _, rfl, t_part, rfl, (.cons ⟨_, rfl⟩ .nil)⟩, .inl rfl⟩, h_part⟩ : FunS K "part" "part" s_part [.int 1] _ _) 2 1 (by simp) rfl (fun _ _ _ _ _ _ _ us its l1 l2 => match us, its, l1, l2 with | [_, _], [_], _, _ => ⟨_, rfl, rfl⟩)),
    Bd1_part := FunD.binds1 (ps := ["top", "below"]) (⟨⟨_, _, _, _, _, _, _, _, _, _, rfl, l_part, c_part, .inr ⟨nofun, _, _, [.int 1 td_part_0], _, rfl, t_part, rfl, (.cons ⟨_, rfl⟩ .nil)⟩, .inl rfl⟩, h_part⟩ : FunS K "part" "part" s_part [.int 1] _ _) 1 0 (by simp) rfl (fun _ _ _ _ _ _ _ us its l1 l2 => match us, its, l1, l2 with | [_], [_], _, _ => ⟨_, rfl, rfl⟩),
    mg_part := PySem.W.mg_of X G a_part,
    F_as_part := fun_mk (st := s_as_part) l_as_part c_as_part h_as_part,
    B_as_part := (fun_mk (st := s_as_part) l_as_part c_as_part h_as_part).binds (ps := ["thing"]) fun _ _ _ _ _ _ us hl => match us, hl with | [_], _ => rfl,
    mg_as_part := PySem.W.mg_of X G a_as_part,
    F_check_volumes := fun_mk (st := s_check_volumes) l_check_volumes c_check_volumes h_check_volumes,
    B_check_volumes := (fun_mk (st := s_check_volumes) l_check_volumes c_check_volumes h_check_volumes).binds (ps := ["volumes"]) fun _ _ _ _ _ _ us hl => match us, hl with | [_], _ => rfl,
    mg_check_volumes := PySem.W.mg_of X G a_check_volumes,
    F_lapped := fun_mk (st := s_lapped) l_lapped c_lapped h_lapped,
    B_lapped := (fun_mk (st := s_lapped) l_lapped c_lapped h_lapped).binds (ps := ["program", "volumes", "laps"]) fun _ _ _ _ _ _ us hl => match us, hl with | [_, _, _], _ => rfl,
    mg_lapped := PySem.W.mg_of X G a_lapped,
    F_lap_limit := fun_mk (st := s_lap_limit) l_lap_limit c_lap_limit h_lap_limit,
    B_lap_limit := (fun_mk (st := s_lap_limit) l_lap_limit c_lap_limit h_lap_limit).binds (ps := ["program", "volumes"]) fun _ _ _ _ _ _ us hl => match us, hl with | [_, _], _ => rfl,
    mg_lap_limit := PySem.W.mg_of X G a_lap_limit,
    F_moved := fun_mk (st := s_moved) l_moved c_moved h_moved,
    B_moved := (fun_mk (st := s_moved) l_moved c_moved h_moved).binds (ps := ["program", "volumes", "laps"]) fun _ _ _ _ _ _ us hl => match us, hl with | [_, _, _], _ => rfl,
    mg_moved := PySem.W.mg_of X G a_moved,
    F_lap_recurrence := fun_mk (st := s_lap_recurrence) l_lap_recurrence c_lap_recurrence h_lap_recurrence,
    B_lap_recurrence := (fun_mk (st := s_lap_recurrence) l_lap_recurrence c_lap_recurrence h_lap_recurrence).binds (ps := ["program", "volumes", "basin"]) fun _ _ _ _ _ _ us hl => match us, hl with | [_, _, _], _ => rfl,
    mg_lap_recurrence := PySem.W.mg_of X G a_lap_recurrence,
    F__law_asked := fun_mk (st := s__law_asked) l__law_asked c__law_asked h__law_asked,
    B__law_asked := (fun_mk (st := s__law_asked) l__law_asked c__law_asked h__law_asked).binds (ps := ["_law_number", "_law_program", "_law_many", "_law_basin", "_law_volumes", "_law_laps"]) fun _ _ _ _ _ _ us hl => match us, hl with | [_, _, _, _, _, _], _ => rfl,
    mg__law_asked := PySem.W.mg_of X G a__law_asked,
    F_turned_back := fun_mk (st := s_turned_back) l_turned_back c_turned_back h_turned_back,
    B_turned_back := (fun_mk (st := s_turned_back) l_turned_back c_turned_back h_turned_back).binds (ps := ["program"]) fun _ _ _ _ _ _ us hl => match us, hl with | [_], _ => rfl,
    mg_turned_back := PySem.W.mg_of X G a_turned_back,
    F_straightened := fun_mk (st := s_straightened) l_straightened c_straightened h_straightened,
    B_straightened := (fun_mk (st := s_straightened) l_straightened c_straightened h_straightened).binds (ps := ["one", "other"]) fun _ _ _ _ _ _ us hl => match us, hl with | [_, _], _ => rfl,
    mg_straightened := PySem.W.mg_of X G a_straightened,
    F_check_programs := fun_mk (st := s_check_programs) l_check_programs c_check_programs h_check_programs,
    B_check_programs := (fun_mk (st := s_check_programs) l_check_programs c_check_programs h_check_programs).binds (ps := ["one", "other"]) fun _ _ _ _ _ _ us hl => match us, hl with | [_, _], _ => rfl,
    mg_check_programs := PySem.W.mg_of X G a_check_programs,
    F_tidy_program := fun_mk (st := s_tidy_program) l_tidy_program c_tidy_program h_tidy_program,
    B_tidy_program := (fun_mk (st := s_tidy_program) l_tidy_program c_tidy_program h_tidy_program).binds (ps := ["program"]) fun _ _ _ _ _ _ us hl => match us, hl with | [_], _ => rfl,
    mg_tidy_program := PySem.W.mg_of X G a_tidy_program,
    F_judge_even := fun_mk (st := s_judge_even) l_judge_even c_judge_even h_judge_even,
    B_judge_even := (fun_mk (st := s_judge_even) l_judge_even c_judge_even h_judge_even).binds (ps := ["program"]) fun _ _ _ _ _ _ us hl => match us, hl with | [_], _ => rfl,
    mg_judge_even := PySem.W.mg_of X G a_judge_even,
    F_check_start := fun_mk (st := s_check_start) l_check_start c_check_start h_check_start,
    B_check_start := (fun_mk (st := s_check_start) l_check_start c_check_start h_check_start).binds (ps := ["start", "back"]) fun _ _ _ _ _ _ us hl => match us, hl with | [_, _], _ => rfl,
    mg_check_start := PySem.W.mg_of X G a_check_start,
    F_recurrence := fun_mk (st := s_recurrence) l_recurrence c_recurrence h_recurrence,
    B_recurrence := (fun_mk (st := s_recurrence) l_recurrence c_recurrence h_recurrence).binds (ps := ["program", "start", "back"]) fun _ _ _ _ _ _ us hl => match us, hl with | [_, _, _], _ => rfl,
    mg_recurrence := PySem.W.mg_of X G a_recurrence,
    F_judge_programs := fun_mk (st := s_judge_programs) l_judge_programs c_judge_programs h_judge_programs,
    B_judge_programs := (fun_mk (st := s_judge_programs) l_judge_programs c_judge_programs h_judge_programs).binds (ps := ["one", "other"]) fun _ _ _ _ _ _ us hl => match us, hl with | [_, _], _ => rfl,
    mg_judge_programs := PySem.W.mg_of X G a_judge_programs,
    F_judge_later := fun_mk (st := s_judge_later) l_judge_later c_judge_later h_judge_later,
    B_judge_later := (fun_mk (st := s_judge_later) l_judge_later c_judge_later h_judge_later).binds (ps := ["one", "other"]) fun _ _ _ _ _ _ us hl => match us, hl with | [_, _], _ => rfl,
    mg_judge_later := PySem.W.mg_of X G a_judge_later,
    F_amount := fun_mk (st := s_amount) l_amount c_amount h_amount,
    B_amount := (fun_mk (st := s_amount) l_amount c_amount h_amount).binds (ps := ["program", "start", "back", "many"]) fun _ _ _ _ _ _ us hl => match us, hl with | [_, _, _, _], _ => rfl,
    mg_amount := PySem.W.mg_of X G a_amount,
    F_amounts := fun_mk (st := s_amounts) l_amounts c_amounts h_amounts,
    B_amounts := (fun_mk (st := s_amounts) l_amounts c_amounts h_amounts).binds (ps := ["program", "start", "back", "most"]) fun _ _ _ _ _ _ us hl => match us, hl with | [_, _, _, _], _ => rfl,
    mg_amounts := PySem.W.mg_of X G a_amounts,
    F_check_kinds := fun_mk (st := s_check_kinds) l_check_kinds c_check_kinds h_check_kinds,
    B_check_kinds := (fun_mk (st := s_check_kinds) l_check_kinds c_check_kinds h_check_kinds).binds (ps := ["kinds"]) fun _ _ _ _ _ _ us hl => match us, hl with | [_], _ => rfl,
    mg_check_kinds := PySem.W.mg_of X G a_check_kinds,
    F_check_all := fun_mk (st := s_check_all) l_check_all c_check_all h_check_all,
    B_check_all := (fun_mk (st := s_check_all) l_check_all c_check_all h_check_all).binds (ps := ["program", "kinds"]) fun _ _ _ _ _ _ us hl => match us, hl with | [_, _], _ => rfl,
    mg_check_all := PySem.W.mg_of X G a_check_all,
    F_few_rounds := fun_mk (st := s_few_rounds) l_few_rounds c_few_rounds h_few_rounds,
    B_few_rounds := (fun_mk (st := s_few_rounds) l_few_rounds c_few_rounds h_few_rounds).binds (ps := ["program", "kinds"]) fun _ _ _ _ _ _ us hl => match us, hl with | [_, _], _ => rfl,
    mg_few_rounds := PySem.W.mg_of X G a_few_rounds,
    F__law_alone := fun_mk (st := s__law_alone) l__law_alone c__law_alone h__law_alone,
    B__law_alone := (fun_mk (st := s__law_alone) l__law_alone c__law_alone h__law_alone).binds (ps := ["_law_number", "_law_program"]) fun _ _ _ _ _ _ us hl => match us, hl with | [_, _], _ => rfl,
    mg__law_alone := PySem.W.mg_of X G a__law_alone,
    F_Program___eq__ := fun_mk (st := s_Program___eq__) l_Program___eq__ c_Program___eq__ h_Program___eq__,
    B_Program___eq__ := (fun_mk (st := s_Program___eq__) l_Program___eq__ c_Program___eq__ h_Program___eq__).binds (ps := ["self", "other"]) fun _ _ _ _ _ _ us hl => match us, hl with | [_, _], _ => rfl,
    F_Program___add__ := fun_mk (st := s_Program___add__) l_Program___add__ c_Program___add__ h_Program___add__,
    B_Program___add__ := (fun_mk (st := s_Program___add__) l_Program___add__ c_Program___add__ h_Program___add__).binds (ps := ["self", "other"]) fun _ _ _ _ _ _ us hl => match us, hl with | [_, _], _ => rfl,
    F_different_programs := fun_mk (st := s_different_programs) l_different_programs c_different_programs h_different_programs,
    B_different_programs := (fun_mk (st := s_different_programs) l_different_programs c_different_programs h_different_programs).binds (ps := ["kinds", "longest"]) fun _ _ _ _ _ _ us hl => match us, hl with | [_, _], _ => rfl,
    mg_different_programs := PySem.W.mg_of X G a_different_programs,
    F__law_mixed := fun_mk (st := s__law_mixed) l__law_mixed c__law_mixed h__law_mixed,
    B__law_mixed := (fun_mk (st := s__law_mixed) l__law_mixed c__law_mixed h__law_mixed).binds (ps := ["_law_number", "_law_one", "_law_other"]) fun _ _ _ _ _ _ us hl => match us, hl with | [_, _, _], _ => rfl,
    mg__law_mixed := PySem.W.mg_of X G a__law_mixed,
    F_law := fun_mk (st := s_law) l_law c_law h_law,
    B_law := (fun_mk (st := s_law) l_law c_law h_law).binds (ps := ["_law_script"]) fun _ _ _ _ _ _ us hl => match us, hl with | [_], _ => rfl,
    cl_Program := ⟨pg_Program, hd_Program, po_Program, sa_Program⟩,
    mg_Program := PySem.W.mg_of X G aC_Program,
    mk_Program := ⟨mk_Program, in_Program, i_Program___init__, kc_Program⟩,
    me_Program___add__ := ⟨me_Program___add__, i_Program___add__, h_Program___add__⟩,
    me_Program___eq__ := ⟨me_Program___eq__, i_Program___eq__, h_Program___eq__⟩,
    sf_Program := sf_Program,
    nf_Program_Program := nf_self _ _,
    at_rounds := fun c => match c with | _ => ⟨⟨pg_Program, hd_Program, po_Program, sa_Program⟩, no_Program_rounds⟩,
    is_Program := (fun c => match c with
        | 0 => fun b e => (Option.some.inj (show some true = some b from e)) ▸ ⟨⟨⟨pg_Program, hd_Program, po_Program, sa_Program⟩, cc_Program, gs, tk, mo_Program⟩, kit_of ob_Program ty_Program su_Program ki_Program_Program⟩
        | m + 1 => fun b e => nomatch (show (none : Option Bool) = some b from e)),
    ni_Program := noInst_of nc_Program ty_Program nNoneType_Program nbool_Program nint_Program nstr_Program ntuple_Program nlist_Program ndict_Program,
    mg_BadProgram := PySem.W.mg_of X G aC_BadProgram,
    su_BadProgram := fun base => ⟨⟨_, _, _, _, fn_super ⟨⟨⟨_, _, _, _, _, _, _, _, _, _, _, _, _, _, _, xL_BadProgram, by rfl⟩, xs_BadProgram, eb_BadProgram, et_BadProgram, ek_BadProgram⟩, xn0_BadProgram, xu_BadProgram, xh_BadProgram, xv_BadProgram, xr_BadProgram, PySem.W.mg_none_of X G xg_BadProgram, xq_BadProgram⟩ xl_BadProgram xd_BadProgram xo_BadProgram xw_BadProgram xp_BadProgram xe_BadProgram rfl rfl rfl rfl rfl rfl rfl rfl rfl (fun _ => rfl) (by decide +kernel) rfl rfl rfl, xi_BadProgram, xt_BadProgram, Binds.all fun us hl => match us, hl with | [_, _], _ => rfl⟩, ⟨⟨_, _, _, _, _, _, _, _, _, _, _, _, _, _, _, xL_BadProgram, by rfl⟩, xs_BadProgram, eb_BadProgram, et_BadProgram, ek_BadProgram⟩, PySem.W.mg_of X G aC_BadProgram⟩,
    em_BadProgram := tab_all (P := fun n t => PySem.W.exmOne K (.ref ((tab A w).ex n)) (.ref k_BadProgram) = some t) (by
        intro p hp
        simp only [List.mem_cons, List.not_mem_nil, or_false] at hp
        rcases hp with rfl | rfl | rfl | rfl
        · exact exm_of eb_BadProgram ec_BadProgram et_BadProgram es_BadProgram_BadProgram
        · exact exm_of eb_BadProgram ec_BadProgram et_BadProgram es_BadStart_BadProgram
        · exact exm_of eb_BadProgram ec_BadProgram et_BadProgram es_BadNumber_BadProgram
        · exact exm_of eb_BadProgram ec_BadProgram et_BadProgram es_Mixed_BadProgram),
    mg_BadStart := PySem.W.mg_of X G aC_BadStart,
    xc_BadStart := fun Y hK hm => ⟨PySem.F.excBase_ValueError, by rw [hK]; exact xm_BadStart, by rw [hK]; exact ek_BadStart, by rw [hm]; exact PySem.W.mg_of X G aC_BadStart, by rw [hK]; exact eb_BadStart, by rw [hK]; exact et_BadStart⟩,
    em_BadStart := tab_all (P := fun n t => PySem.W.exmOne K (.ref ((tab A w).ex n)) (.ref k_BadStart) = some t) (by
        intro p hp
        simp only [List.mem_cons, List.not_mem_nil, or_false] at hp
        rcases hp with rfl | rfl | rfl | rfl
        · exact exm_of eb_BadStart ec_BadStart et_BadStart es_BadProgram_BadStart
        · exact exm_of eb_BadStart ec_BadStart et_BadStart es_BadStart_BadStart
        · exact exm_of eb_BadStart ec_BadStart et_BadStart es_BadNumber_BadStart
        · exact exm_of eb_BadStart ec_BadStart et_BadStart es_Mixed_BadStart),
    mg_BadNumber := PySem.W.mg_of X G aC_BadNumber,
    xc_BadNumber := fun Y hK hm => ⟨PySem.F.excBase_ValueError, by rw [hK]; exact xm_BadNumber, by rw [hK]; exact ek_BadNumber, by rw [hm]; exact PySem.W.mg_of X G aC_BadNumber, by rw [hK]; exact eb_BadNumber, by rw [hK]; exact et_BadNumber⟩,
    mg_Mixed := PySem.W.mg_of X G aC_Mixed,
    xc_Mixed := fun Y hK hm => ⟨PySem.F.excBase_ValueError, by rw [hK]; exact xm_Mixed, by rw [hK]; exact ek_Mixed, by rw [hm]; exact PySem.W.mg_of X G aC_Mixed, by rw [hK]; exact eb_Mixed, by rw [hK]; exact et_Mixed⟩,
    em_Mixed := tab_all (P := fun n t => PySem.W.exmOne K (.ref ((tab A w).ex n)) (.ref k_Mixed) = some t) (by
        intro p hp
        simp only [List.mem_cons, List.not_mem_nil, or_false] at hp
        rcases hp with rfl | rfl | rfl | rfl
        · exact exm_of eb_Mixed ec_Mixed et_Mixed es_BadProgram_Mixed
        · exact exm_of eb_Mixed ec_Mixed et_Mixed es_BadStart_Mixed
        · exact exm_of eb_Mixed ec_Mixed et_Mixed es_BadNumber_Mixed
        · exact exm_of eb_Mixed ec_Mixed et_Mixed es_Mixed_Mixed),
    xf_BadProgram := ⟨ra_BadProgram, rb_BadProgram, eb_BadProgram, rc_BadProgram⟩,
    xn_BadProgram_place := rn_BadProgram_place,
    mg_MOST_ROUNDS := PySem.W.mg_of X G g_MOST_ROUNDS,
    r_MOST_ROUNDS := ⟨_, rfl⟩,
    q_MOST_ROUNDS := fun _ => .int _,
    mg_RIGHT := PySem.W.mg_of X G g_RIGHT,
    r_RIGHT := rfl,
    q_RIGHT := fun _ => .tup (vs := [.str "right"]) (.inr ⟨_, _, _, o_RIGHT, rfl, rfl, (by show 1 ≤ sizeLine; decide), (.cons ⟨_, rfl⟩ .nil)⟩) (.cons (.str _) .nil),
    mg_LEFT := PySem.W.mg_of X G g_LEFT,
    r_LEFT := rfl,
    q_LEFT := fun _ => .tup (vs := [.str "left"]) (.inr ⟨_, _, _, o_LEFT, rfl, rfl, (by show 1 ≤ sizeLine; decide), (.cons ⟨_, rfl⟩ .nil)⟩) (.cons (.str _) .nil),
    mg_MOST_EVERY := PySem.W.mg_of X G g_MOST_EVERY,
    r_MOST_EVERY := ⟨_, rfl⟩,
    q_MOST_EVERY := fun _ => .int _,
    mg_MOST_LENGTH := PySem.W.mg_of X G g_MOST_LENGTH,
    r_MOST_LENGTH := ⟨_, rfl⟩,
    q_MOST_LENGTH := fun _ => .int _,
    mg_MOST_LAPS := PySem.W.mg_of X G g_MOST_LAPS,
    r_MOST_LAPS := ⟨_, rfl⟩,
    q_MOST_LAPS := fun _ => .int _,
    mg_STARTS := PySem.W.mg_of X G g_STARTS,
    r_STARTS := rfl,
    q_STARTS := fun _ => .tup (vs := [.str "ones", .str "first", .str "last", .str "stairs"]) (.inr ⟨_, _, _, o_STARTS, rfl, rfl, (by show 4 ≤ sizeLine; decide), (.cons ⟨_, rfl⟩ (.cons ⟨_, rfl⟩ (.cons ⟨_, rfl⟩ (.cons ⟨_, rfl⟩ .nil))))⟩) (.cons (.str _) (.cons (.str _) (.cons (.str _) (.cons (.str _) .nil)))),
    mg_MOST_KINDS := PySem.W.mg_of X G g_MOST_KINDS,
    r_MOST_KINDS := ⟨_, rfl⟩,
    q_MOST_KINDS := fun _ => .int _,
    mg_MOST_LONG := PySem.W.mg_of X G g_MOST_LONG,
    r_MOST_LONG := ⟨_, rfl⟩,
    q_MOST_LONG := fun _ => .int _ }
  exact ⟨A.d_law, fun s v => .of_eq rfl, fun base _ _ => (fk_law T).imp fun vs H Q E q => law_sp hl q⟩
end
theorem walk {l : PySem.W.OpenLaw} {q : Program} {loose : List Str} {XP : (Str → Option Value) → Heap → Prop} {YP : World → Heap → Prop} {d : DefRec} {K : Params → PySem.W.Frag} (hn : l.most = some 63) (hdf : d.params.defaults = [])
    (hY : ∀ (w : World) (h : Heap), YP w h → (K w.params).In h)
    (F : ∀ (w : World) (mg : Str → Option Value) (fa : Addr) (h : Heap), (K w.params).In h → h.Ns mainGlobals mg → mg d.name = some (.ref fa) →
      ∃ fd : FuncData, (∀ (s : Shared) (u : Value), BindsTo s fd ⟨[u], []⟩ [("_law_script", u)]) ∧ ∀ base : Heap, (K w.params).In base → base.Ns mainGlobals mg → FnOk l.prog w (K w.params) mg base (L2.CX l.prog w) 8 fa fd ["_law_script"] (spLaw (K w.params))) :
    PySem.W.WalkO q loose XP YP l.row.toRowW d [] (fun f vs => PySem.call f vs) :=
  L2.walk_ofB (n := 63) (k := 8) (x := "_law_script") (CX := fun w => L2.CX l.prog w) (sp := fun w => spLaw (K w.params)) hn (by decide) hdf ⟨rfl, by decide, by decide⟩ hY F (fun _ _ a ns hl hb _ hS => ⟨a, ns, rfl, hS, hl, hb, fun _ => rfl⟩) fun _ _ _ _ _ z => noCX z
end K18
end

namespace K18
open PySem PySem.Spec PyProof.Rows L2 VL
set_option maxRecDepth 100000
set_option maxHeartbeats 0
theorem hf_aC_Program {K : VH.Frag} (c : Says K) : PySem.W.nsIn K mainGlobals "Program" = some (some (.ref (He.ga K "Program"))) := of_decide_eq_true (VH.allL_at (VH.chkL_at c.chk 0 rfl) 0 rfl)
theorem hf_a__law_draw {K : VH.Frag} (c : Says K) : PySem.W.nsIn K mainGlobals "_law_draw" = some (some (.ref (He.ga K "_law_draw"))) := of_decide_eq_true (VH.allL_at (VH.chkL_at c.chk 0 rfl) 1 rfl)
theorem hf_l__law_draw {K : VH.Frag} (c : Says K) : K.lookup (He.ga K "_law_draw") = some ⟨((VH.objA K (He.ga K "_law_draw")).cls), ((VH.objA K (He.ga K "_law_draw")).dict), .func (PySem.W.fnOf "_law_draw" "_law_draw" (defArgs s__law_draw) (defBody s__law_draw) (defScope s__law_draw) .none ((VH.fdA K (He.ga K "_law_draw")).kwdefaults) ((VH.fdA K (He.ga K "_law_draw")).doc) ((VH.fdA K (He.ga K "_law_draw")).pyModule) ((VH.fdA K (He.ga K "_law_draw")).annotations) ((VH.fdA K (He.ga K "_law_draw")).code) ((VH.fdA K (He.ga K "_law_draw")).closureTuple)), ((VH.objA K (He.ga K "_law_draw")).slots)⟩ := VH.fn_is (c.fn 0 rfl rfl) (VH.allL_at (VH.chkL_at c.chk 0 rfl) 2 rfl)
theorem hf_c__law_draw {K : VH.Frag} (c : Says K) : PySem.W.codeIn K ((VH.fdA K (He.ga K "_law_draw")).code) "_law_draw" = true := VH.allL_at (VH.chkL_at c.chk 0 rfl) 3 rfl
theorem hf_h__law_draw {K : VH.Frag} (c : Says K) : PySem.W.keepIn K (.ref (He.ga K "_law_draw")) = true := VH.allL_at (VH.chkL_at c.chk 0 rfl) 4 rfl
theorem hf_a__law_rounds {K : VH.Frag} (c : Says K) : PySem.W.nsIn K mainGlobals "_law_rounds" = some (some (.ref (He.ga K "_law_rounds"))) := of_decide_eq_true (VH.allL_at (VH.chkL_at c.chk 0 rfl) 5 rfl)
theorem hf_l__law_rounds {K : VH.Frag} (c : Says K) : K.lookup (He.ga K "_law_rounds") = some ⟨((VH.objA K (He.ga K "_law_rounds")).cls), ((VH.objA K (He.ga K "_law_rounds")).dict), .func (PySem.W.fnOf "_law_rounds" "_law_rounds" (defArgs s__law_rounds) (defBody s__law_rounds) (defScope s__law_rounds) .none ((VH.fdA K (He.ga K "_law_rounds")).kwdefaults) ((VH.fdA K (He.ga K "_law_rounds")).doc) ((VH.fdA K (He.ga K "_law_rounds")).pyModule) ((VH.fdA K (He.ga K "_law_rounds")).annotations) ((VH.fdA K (He.ga K "_law_rounds")).code) ((VH.fdA K (He.ga K "_law_rounds")).closureTuple)), ((VH.objA K (He.ga K "_law_rounds")).slots)⟩ := VH.fn_is (c.fn 1 rfl rfl) (VH.allL_at (VH.chkL_at c.chk 0 rfl) 6 rfl)
theorem hf_c__law_rounds {K : VH.Frag} (c : Says K) : PySem.W.codeIn K ((VH.fdA K (He.ga K "_law_rounds")).code) "_law_rounds" = true := VH.allL_at (VH.chkL_at c.chk 0 rfl) 7 rfl
theorem hf_h__law_rounds {K : VH.Frag} (c : Says K) : PySem.W.keepIn K (.ref (He.ga K "_law_rounds")) = true := VH.allL_at (VH.chkL_at c.chk 0 rfl) 8 rfl
theorem hf_a_is_whole {K : VH.Frag} (c : Says K) : PySem.W.nsIn K mainGlobals "is_whole" = some (some (.ref (He.ga K "is_whole"))) := of_decide_eq_true (VH.allL_at (VH.chkL_at c.chk 0 rfl) 9 rfl)
theorem hf_l_is_whole {K : VH.Frag} (c : Says K) : K.lookup (He.ga K "is_whole") = some ⟨((VH.objA K (He.ga K "is_whole")).cls), ((VH.objA K (He.ga K "is_whole")).dict), .func (PySem.W.fnOf "is_whole" "is_whole" (defArgs s_is_whole) (defBody s_is_whole) (defScope s_is_whole) .none ((VH.fdA K (He.ga K "is_whole")).kwdefaults) ((VH.fdA K (He.ga K "is_whole")).doc) ((VH.fdA K (He.ga K "is_whole")).pyModule) ((VH.fdA K (He.ga K "is_whole")).annotations) ((VH.fdA K (He.ga K "is_whole")).code) ((VH.fdA K (He.ga K "is_whole")).closureTuple)), ((VH.objA K (He.ga K "is_whole")).slots)⟩ := VH.fn_is (c.fn 2 rfl rfl) (VH.allL_at (VH.chkL_at c.chk 0 rfl) 10 rfl)
theorem hf_c_is_whole {K : VH.Frag} (c : Says K) : PySem.W.codeIn K ((VH.fdA K (He.ga K "is_whole")).code) "is_whole" = true := VH.allL_at (VH.chkL_at c.chk 0 rfl) 11 rfl
theorem hf_h_is_whole {K : VH.Frag} (c : Says K) : PySem.W.keepIn K (.ref (He.ga K "is_whole")) = true := VH.allL_at (VH.chkL_at c.chk 0 rfl) 12 rfl
theorem hf_a_is_round {K : VH.Frag} (c : Says K) : PySem.W.nsIn K mainGlobals "is_round" = some (some (.ref (He.ga K "is_round"))) := of_decide_eq_true (VH.allL_at (VH.chkL_at c.chk 0 rfl) 13 rfl)
theorem hf_l_is_round {K : VH.Frag} (c : Says K) : K.lookup (He.ga K "is_round") = some ⟨((VH.objA K (He.ga K "is_round")).cls), ((VH.objA K (He.ga K "is_round")).dict), .func (PySem.W.fnOf "is_round" "is_round" (defArgs s_is_round) (defBody s_is_round) (defScope s_is_round) .none ((VH.fdA K (He.ga K "is_round")).kwdefaults) ((VH.fdA K (He.ga K "is_round")).doc) ((VH.fdA K (He.ga K "is_round")).pyModule) ((VH.fdA K (He.ga K "is_round")).annotations) ((VH.fdA K (He.ga K "is_round")).code) ((VH.fdA K (He.ga K "is_round")).closureTuple)), ((VH.objA K (He.ga K "is_round")).slots)⟩ := VH.fn_is (c.fn 3 rfl rfl) (VH.allL_at (VH.chkL_at c.chk 0 rfl) 14 rfl)
theorem hf_c_is_round {K : VH.Frag} (c : Says K) : PySem.W.codeIn K ((VH.fdA K (He.ga K "is_round")).code) "is_round" = true := VH.allL_at (VH.chkL_at c.chk 0 rfl) 15 rfl
theorem hf_h_is_round {K : VH.Frag} (c : Says K) : PySem.W.keepIn K (.ref (He.ga K "is_round")) = true := VH.allL_at (VH.chkL_at c.chk 0 rfl) 16 rfl
theorem hf_a_Program___init__ {K : VH.Frag} (c : Says K) : PySem.W.findIn K (.ref (He.ga K "Program")) "__init__" = some (some (.ref (He.ma K (He.ga K "Program") "__init__"))) := of_decide_eq_true (VH.allL_at (VH.chkL_at c.chk 0 rfl) 17 rfl)
theorem hf_i_Program___init__ {K : VH.Frag} (c : Says K) : PySem.W.isFn K (.ref (He.ma K (He.ga K "Program") "__init__")) = true := VH.allL_at (VH.chkL_at c.chk 0 rfl) 18 rfl
theorem hf_l_Program___init__ {K : VH.Frag} (c : Says K) : K.lookup (He.ma K (He.ga K "Program") "__init__") = some ⟨((VH.objA K (He.ma K (He.ga K "Program") "__init__")).cls), ((VH.objA K (He.ma K (He.ga K "Program") "__init__")).dict), .func (PySem.W.fnOf "__init__" "Program.__init__" (defArgs s_Program___init__) (defBody s_Program___init__) (defScope s_Program___init__) .none ((VH.fdA K (He.ma K (He.ga K "Program") "__init__")).kwdefaults) ((VH.fdA K (He.ma K (He.ga K "Program") "__init__")).doc) ((VH.fdA K (He.ma K (He.ga K "Program") "__init__")).pyModule) ((VH.fdA K (He.ma K (He.ga K "Program") "__init__")).annotations) ((VH.fdA K (He.ma K (He.ga K "Program") "__init__")).code) ((VH.fdA K (He.ma K (He.ga K "Program") "__init__")).closureTuple)), ((VH.objA K (He.ma K (He.ga K "Program") "__init__")).slots)⟩ := VH.fn_is (c.fn 4 rfl rfl) (VH.allL_at (VH.chkL_at c.chk 0 rfl) 19 rfl)
theorem hf_c_Program___init__ {K : VH.Frag} (c : Says K) : PySem.W.codeIn K ((VH.fdA K (He.ma K (He.ga K "Program") "__init__")).code) "Program.__init__" = true := VH.allL_at (VH.chkL_at c.chk 0 rfl) 20 rfl
theorem hf_h_Program___init__ {K : VH.Frag} (c : Says K) : PySem.W.keepIn K (.ref (He.ma K (He.ga K "Program") "__init__")) = true := VH.allL_at (VH.chkL_at c.chk 0 rfl) 21 rfl
theorem hf_a_check_program {K : VH.Frag} (c : Says K) : PySem.W.nsIn K mainGlobals "check_program" = some (some (.ref (He.ga K "check_program"))) := of_decide_eq_true (VH.allL_at (VH.chkL_at c.chk 0 rfl) 22 rfl)
theorem hf_l_check_program {K : VH.Frag} (c : Says K) : K.lookup (He.ga K "check_program") = some ⟨((VH.objA K (He.ga K "check_program")).cls), ((VH.objA K (He.ga K "check_program")).dict), .func (PySem.W.fnOf "check_program" "check_program" (defArgs s_check_program) (defBody s_check_program) (defScope s_check_program) .none ((VH.fdA K (He.ga K "check_program")).kwdefaults) ((VH.fdA K (He.ga K "check_program")).doc) ((VH.fdA K (He.ga K "check_program")).pyModule) ((VH.fdA K (He.ga K "check_program")).annotations) ((VH.fdA K (He.ga K "check_program")).code) ((VH.fdA K (He.ga K "check_program")).closureTuple)), ((VH.objA K (He.ga K "check_program")).slots)⟩ := VH.fn_is (c.fn 5 rfl rfl) (VH.allL_at (VH.chkL_at c.chk 0 rfl) 23 rfl)
theorem hf_c_check_program {K : VH.Frag} (c : Says K) : PySem.W.codeIn K ((VH.fdA K (He.ga K "check_program")).code) "check_program" = true := VH.allL_at (VH.chkL_at c.chk 0 rfl) 24 rfl
theorem hf_h_check_program {K : VH.Frag} (c : Says K) : PySem.W.keepIn K (.ref (He.ga K "check_program")) = true := VH.allL_at (VH.chkL_at c.chk 0 rfl) 25 rfl
theorem hf_a_check_length {K : VH.Frag} (c : Says K) : PySem.W.nsIn K mainGlobals "check_length" = some (some (.ref (He.ga K "check_length"))) := of_decide_eq_true (VH.allL_at (VH.chkL_at c.chk 0 rfl) 26 rfl)
theorem hf_l_check_length {K : VH.Frag} (c : Says K) : K.lookup (He.ga K "check_length") = some ⟨((VH.objA K (He.ga K "check_length")).cls), ((VH.objA K (He.ga K "check_length")).dict), .func (PySem.W.fnOf "check_length" "check_length" (defArgs s_check_length) (defBody s_check_length) (defScope s_check_length) .none ((VH.fdA K (He.ga K "check_length")).kwdefaults) ((VH.fdA K (He.ga K "check_length")).doc) ((VH.fdA K (He.ga K "check_length")).pyModule) ((VH.fdA K (He.ga K "check_length")).annotations) ((VH.fdA K (He.ga K "check_length")).code) ((VH.fdA K (He.ga K "check_length")).closureTuple)), ((VH.objA K (He.ga K "check_length")).slots)⟩ := VH.fn_is (c.fn 6 rfl rfl) (VH.allL_at (VH.chkL_at c.chk 0 rfl) 27 rfl)
theorem hf_c_check_length {K : VH.Frag} (c : Says K) : PySem.W.codeIn K ((VH.fdA K (He.ga K "check_length")).code) "check_length" = true := VH.allL_at (VH.chkL_at c.chk 0 rfl) 28 rfl
theorem hf_h_check_length {K : VH.Frag} (c : Says K) : PySem.W.keepIn K (.ref (He.ga K "check_length")) = true := VH.allL_at (VH.chkL_at c.chk 0 rfl) 29 rfl
theorem hf_a_check_basin {K : VH.Frag} (c : Says K) : PySem.W.nsIn K mainGlobals "check_basin" = some (some (.ref (He.ga K "check_basin"))) := of_decide_eq_true (VH.allL_at (VH.chkL_at c.chk 1 rfl) 0 rfl)
theorem hf_l_check_basin {K : VH.Frag} (c : Says K) : K.lookup (He.ga K "check_basin") = some ⟨((VH.objA K (He.ga K "check_basin")).cls), ((VH.objA K (He.ga K "check_basin")).dict), .func (PySem.W.fnOf "check_basin" "check_basin" (defArgs s_check_basin) (defBody s_check_basin) (defScope s_check_basin) .none ((VH.fdA K (He.ga K "check_basin")).kwdefaults) ((VH.fdA K (He.ga K "check_basin")).doc) ((VH.fdA K (He.ga K "check_basin")).pyModule) ((VH.fdA K (He.ga K "check_basin")).annotations) ((VH.fdA K (He.ga K "check_basin")).code) ((VH.fdA K (He.ga K "check_basin")).closureTuple)), ((VH.objA K (He.ga K "check_basin")).slots)⟩ := VH.fn_is (c.fn 7 rfl rfl) (VH.allL_at (VH.chkL_at c.chk 1 rfl) 1 rfl)
theorem hf_c_check_basin {K : VH.Frag} (c : Says K) : PySem.W.codeIn K ((VH.fdA K (He.ga K "check_basin")).code) "check_basin" = true := VH.allL_at (VH.chkL_at c.chk 1 rfl) 2 rfl
theorem hf_h_check_basin {K : VH.Frag} (c : Says K) : PySem.W.keepIn K (.ref (He.ga K "check_basin")) = true := VH.allL_at (VH.chkL_at c.chk 1 rfl) 3 rfl
theorem hf_a_gives {K : VH.Frag} (c : Says K) : PySem.W.nsIn K mainGlobals "gives" = some (some (.ref (He.ga K "gives"))) := of_decide_eq_true (VH.allL_at (VH.chkL_at c.chk 1 rfl) 4 rfl)
theorem hf_l_gives {K : VH.Frag} (c : Says K) : K.lookup (He.ga K "gives") = some ⟨((VH.objA K (He.ga K "gives")).cls), ((VH.objA K (He.ga K "gives")).dict), .func (PySem.W.fnOf "gives" "gives" (defArgs s_gives) (defBody s_gives) (defScope s_gives) .none ((VH.fdA K (He.ga K "gives")).kwdefaults) ((VH.fdA K (He.ga K "gives")).doc) ((VH.fdA K (He.ga K "gives")).pyModule) ((VH.fdA K (He.ga K "gives")).annotations) ((VH.fdA K (He.ga K "gives")).code) ((VH.fdA K (He.ga K "gives")).closureTuple)), ((VH.objA K (He.ga K "gives")).slots)⟩ := VH.fn_is (c.fn 8 rfl rfl) (VH.allL_at (VH.chkL_at c.chk 1 rfl) 5 rfl)
theorem hf_c_gives {K : VH.Frag} (c : Says K) : PySem.W.codeIn K ((VH.fdA K (He.ga K "gives")).code) "gives" = true := VH.allL_at (VH.chkL_at c.chk 1 rfl) 6 rfl
theorem hf_h_gives {K : VH.Frag} (c : Says K) : PySem.W.keepIn K (.ref (He.ga K "gives")) = true := VH.allL_at (VH.chkL_at c.chk 1 rfl) 7 rfl
theorem hf_a_got {K : VH.Frag} (c : Says K) : PySem.W.nsIn K mainGlobals "got" = some (some (.ref (He.ga K "got"))) := of_decide_eq_true (VH.allL_at (VH.chkL_at c.chk 1 rfl) 8 rfl)
theorem hf_l_got {K : VH.Frag} (c : Says K) : K.lookup (He.ga K "got") = some ⟨((VH.objA K (He.ga K "got")).cls), ((VH.objA K (He.ga K "got")).dict), .func (PySem.W.fnOf "got" "got" (defArgs s_got) (defBody s_got) (defScope s_got) .none ((VH.fdA K (He.ga K "got")).kwdefaults) ((VH.fdA K (He.ga K "got")).doc) ((VH.fdA K (He.ga K "got")).pyModule) ((VH.fdA K (He.ga K "got")).annotations) ((VH.fdA K (He.ga K "got")).code) ((VH.fdA K (He.ga K "got")).closureTuple)), ((VH.objA K (He.ga K "got")).slots)⟩ := VH.fn_is (c.fn 9 rfl rfl) (VH.allL_at (VH.chkL_at c.chk 1 rfl) 9 rfl)
theorem hf_c_got {K : VH.Frag} (c : Says K) : PySem.W.codeIn K ((VH.fdA K (He.ga K "got")).code) "got" = true := VH.allL_at (VH.chkL_at c.chk 1 rfl) 10 rfl
theorem hf_h_got {K : VH.Frag} (c : Says K) : PySem.W.keepIn K (.ref (He.ga K "got")) = true := VH.allL_at (VH.chkL_at c.chk 1 rfl) 11 rfl
theorem hf_a_is_even_handed {K : VH.Frag} (c : Says K) : PySem.W.nsIn K mainGlobals "is_even_handed" = some (some (.ref (He.ga K "is_even_handed"))) := of_decide_eq_true (VH.allL_at (VH.chkL_at c.chk 1 rfl) 12 rfl)
theorem hf_l_is_even_handed {K : VH.Frag} (c : Says K) : K.lookup (He.ga K "is_even_handed") = some ⟨((VH.objA K (He.ga K "is_even_handed")).cls), ((VH.objA K (He.ga K "is_even_handed")).dict), .func (PySem.W.fnOf "is_even_handed" "is_even_handed" (defArgs s_is_even_handed) (defBody s_is_even_handed) (defScope s_is_even_handed) .none ((VH.fdA K (He.ga K "is_even_handed")).kwdefaults) ((VH.fdA K (He.ga K "is_even_handed")).doc) ((VH.fdA K (He.ga K "is_even_handed")).pyModule) ((VH.fdA K (He.ga K "is_even_handed")).annotations) ((VH.fdA K (He.ga K "is_even_handed")).code) ((VH.fdA K (He.ga K "is_even_handed")).closureTuple)), ((VH.objA K (He.ga K "is_even_handed")).slots)⟩ := VH.fn_is (c.fn 10 rfl rfl) (VH.allL_at (VH.chkL_at c.chk 1 rfl) 13 rfl)
theorem hf_c_is_even_handed {K : VH.Frag} (c : Says K) : PySem.W.codeIn K ((VH.fdA K (He.ga K "is_even_handed")).code) "is_even_handed" = true := VH.allL_at (VH.chkL_at c.chk 1 rfl) 14 rfl
theorem hf_h_is_even_handed {K : VH.Frag} (c : Says K) : PySem.W.keepIn K (.ref (He.ga K "is_even_handed")) = true := VH.allL_at (VH.chkL_at c.chk 1 rfl) 15 rfl
theorem hf_a_stretches {K : VH.Frag} (c : Says K) : PySem.W.nsIn K mainGlobals "stretches" = some (some (.ref (He.ga K "stretches"))) := of_decide_eq_true (VH.allL_at (VH.chkL_at c.chk 1 rfl) 16 rfl)
theorem hf_l_stretches {K : VH.Frag} (c : Says K) : K.lookup (He.ga K "stretches") = some ⟨((VH.objA K (He.ga K "stretches")).cls), ((VH.objA K (He.ga K "stretches")).dict), .func (PySem.W.fnOf "stretches" "stretches" (defArgs s_stretches) (defBody s_stretches) (defScope s_stretches) .none ((VH.fdA K (He.ga K "stretches")).kwdefaults) ((VH.fdA K (He.ga K "stretches")).doc) ((VH.fdA K (He.ga K "stretches")).pyModule) ((VH.fdA K (He.ga K "stretches")).annotations) ((VH.fdA K (He.ga K "stretches")).code) ((VH.fdA K (He.ga K "stretches")).closureTuple)), ((VH.objA K (He.ga K "stretches")).slots)⟩ := VH.fn_is (c.fn 11 rfl rfl) (VH.allL_at (VH.chkL_at c.chk 1 rfl) 17 rfl)
theorem hf_c_stretches {K : VH.Frag} (c : Says K) : PySem.W.codeIn K ((VH.fdA K (He.ga K "stretches")).code) "stretches" = true := VH.allL_at (VH.chkL_at c.chk 1 rfl) 18 rfl
theorem hf_h_stretches {K : VH.Frag} (c : Says K) : PySem.W.keepIn K (.ref (He.ga K "stretches")) = true := VH.allL_at (VH.chkL_at c.chk 1 rfl) 19 rfl
theorem hf_a_check_laps {K : VH.Frag} (c : Says K) : PySem.W.nsIn K mainGlobals "check_laps" = some (some (.ref (He.ga K "check_laps"))) := of_decide_eq_true (VH.allL_at (VH.chkL_at c.chk 1 rfl) 20 rfl)
theorem hf_l_check_laps {K : VH.Frag} (c : Says K) : K.lookup (He.ga K "check_laps") = some ⟨((VH.objA K (He.ga K "check_laps")).cls), ((VH.objA K (He.ga K "check_laps")).dict), .func (PySem.W.fnOf "check_laps" "check_laps" (defArgs s_check_laps) (defBody s_check_laps) (defScope s_check_laps) .none ((VH.fdA K (He.ga K "check_laps")).kwdefaults) ((VH.fdA K (He.ga K "check_laps")).doc) ((VH.fdA K (He.ga K "check_laps")).pyModule) ((VH.fdA K (He.ga K "check_laps")).annotations) ((VH.fdA K (He.ga K "check_laps")).code) ((VH.fdA K (He.ga K "check_laps")).closureTuple)), ((VH.objA K (He.ga K "check_laps")).slots)⟩ := VH.fn_is (c.fn 12 rfl rfl) (VH.allL_at (VH.chkL_at c.chk 1 rfl) 21 rfl)
theorem hf_c_check_laps {K : VH.Frag} (c : Says K) : PySem.W.codeIn K ((VH.fdA K (He.ga K "check_laps")).code) "check_laps" = true := VH.allL_at (VH.chkL_at c.chk 1 rfl) 22 rfl
theorem hf_h_check_laps {K : VH.Frag} (c : Says K) : PySem.W.keepIn K (.ref (He.ga K "check_laps")) = true := VH.allL_at (VH.chkL_at c.chk 1 rfl) 23 rfl
theorem hf_a_left_behind {K : VH.Frag} (c : Says K) : PySem.W.nsIn K mainGlobals "left_behind" = some (some (.ref (He.ga K "left_behind"))) := of_decide_eq_true (VH.allL_at (VH.chkL_at c.chk 1 rfl) 24 rfl)
theorem hf_l_left_behind {K : VH.Frag} (c : Says K) : K.lookup (He.ga K "left_behind") = some ⟨((VH.objA K (He.ga K "left_behind")).cls), ((VH.objA K (He.ga K "left_behind")).dict), .func (PySem.W.fnOf "left_behind" "left_behind" (defArgs s_left_behind) (defBody s_left_behind) (defScope s_left_behind) .none ((VH.fdA K (He.ga K "left_behind")).kwdefaults) ((VH.fdA K (He.ga K "left_behind")).doc) ((VH.fdA K (He.ga K "left_behind")).pyModule) ((VH.fdA K (He.ga K "left_behind")).annotations) ((VH.fdA K (He.ga K "left_behind")).code) ((VH.fdA K (He.ga K "left_behind")).closureTuple)), ((VH.objA K (He.ga K "left_behind")).slots)⟩ := VH.fn_is (c.fn 13 rfl rfl) (VH.allL_at (VH.chkL_at c.chk 1 rfl) 25 rfl)
theorem hf_c_left_behind {K : VH.Frag} (c : Says K) : PySem.W.codeIn K ((VH.fdA K (He.ga K "left_behind")).code) "left_behind" = true := VH.allL_at (VH.chkL_at c.chk 1 rfl) 26 rfl
theorem hf_h_left_behind {K : VH.Frag} (c : Says K) : PySem.W.keepIn K (.ref (He.ga K "left_behind")) = true := VH.allL_at (VH.chkL_at c.chk 1 rfl) 27 rfl
theorem hf_a_judge_laps {K : VH.Frag} (c : Says K) : PySem.W.nsIn K mainGlobals "judge_laps" = some (some (.ref (He.ga K "judge_laps"))) := of_decide_eq_true (VH.allL_at (VH.chkL_at c.chk 1 rfl) 28 rfl)
theorem hf_l_judge_laps {K : VH.Frag} (c : Says K) : K.lookup (He.ga K "judge_laps") = some ⟨((VH.objA K (He.ga K "judge_laps")).cls), ((VH.objA K (He.ga K "judge_laps")).dict), .func (PySem.W.fnOf "judge_laps" "judge_laps" (defArgs s_judge_laps) (defBody s_judge_laps) (defScope s_judge_laps) .none ((VH.fdA K (He.ga K "judge_laps")).kwdefaults) ((VH.fdA K (He.ga K "judge_laps")).doc) ((VH.fdA K (He.ga K "judge_laps")).pyModule) ((VH.fdA K (He.ga K "judge_laps")).annotations) ((VH.fdA K (He.ga K "judge_laps")).code) ((VH.fdA K (He.ga K "judge_laps")).closureTuple)), ((VH.objA K (He.ga K "judge_laps")).slots)⟩ := VH.fn_is (c.fn 14 rfl rfl) (VH.allL_at (VH.chkL_at c.chk 1 rfl) 29 rfl)
theorem hf_c_judge_laps {K : VH.Frag} (c : Says K) : PySem.W.codeIn K ((VH.fdA K (He.ga K "judge_laps")).code) "judge_laps" = true := VH.allL_at (VH.chkL_at c.chk 2 rfl) 0 rfl
theorem hf_h_judge_laps {K : VH.Frag} (c : Says K) : PySem.W.keepIn K (.ref (He.ga K "judge_laps")) = true := VH.allL_at (VH.chkL_at c.chk 2 rfl) 1 rfl
theorem hf_a_is_part {K : VH.Frag} (c : Says K) : PySem.W.nsIn K mainGlobals "is_part" = some (some (.ref (He.ga K "is_part"))) := of_decide_eq_true (VH.allL_at (VH.chkL_at c.chk 2 rfl) 2 rfl)
theorem hf_l_is_part {K : VH.Frag} (c : Says K) : K.lookup (He.ga K "is_part") = some ⟨((VH.objA K (He.ga K "is_part")).cls), ((VH.objA K (He.ga K "is_part")).dict), .func (PySem.W.fnOf "is_part" "is_part" (defArgs s_is_part) (defBody s_is_part) (defScope s_is_part) .none ((VH.fdA K (He.ga K "is_part")).kwdefaults) ((VH.fdA K (He.ga K "is_part")).doc) ((VH.fdA K (He.ga K "is_part")).pyModule) ((VH.fdA K (He.ga K "is_part")).annotations) ((VH.fdA K (He.ga K "is_part")).code) ((VH.fdA K (He.ga K "is_part")).closureTuple)), ((VH.objA K (He.ga K "is_part")).slots)⟩ := VH.fn_is (c.fn 15 rfl rfl) (VH.allL_at (VH.chkL_at c.chk 2 rfl) 3 rfl)
theorem hf_c_is_part {K : VH.Frag} (c : Says K) : PySem.W.codeIn K ((VH.fdA K (He.ga K "is_part")).code) "is_part" = true := VH.allL_at (VH.chkL_at c.chk 2 rfl) 4 rfl
theorem hf_h_is_part {K : VH.Frag} (c : Says K) : PySem.W.keepIn K (.ref (He.ga K "is_part")) = true := VH.allL_at (VH.chkL_at c.chk 2 rfl) 5 rfl
theorem hf_a_common {K : VH.Frag} (c : Says K) : PySem.W.nsIn K mainGlobals "common" = some (some (.ref (He.ga K "common"))) := of_decide_eq_true (VH.allL_at (VH.chkL_at c.chk 2 rfl) 6 rfl)
theorem hf_l_common {K : VH.Frag} (c : Says K) : K.lookup (He.ga K "common") = some ⟨((VH.objA K (He.ga K "common")).cls), ((VH.objA K (He.ga K "common")).dict), .func (PySem.W.fnOf "common" "common" (defArgs s_common) (defBody s_common) (defScope s_common) .none ((VH.fdA K (He.ga K "common")).kwdefaults) ((VH.fdA K (He.ga K "common")).doc) ((VH.fdA K (He.ga K "common")).pyModule) ((VH.fdA K (He.ga K "common")).annotations) ((VH.fdA K (He.ga K "common")).code) ((VH.fdA K (He.ga K "common")).closureTuple)), ((VH.objA K (He.ga K "common")).slots)⟩ := VH.fn_is (c.fn 16 rfl rfl) (VH.allL_at (VH.chkL_at c.chk 2 rfl) 7 rfl)
theorem hf_c_common {K : VH.Frag} (c : Says K) : PySem.W.codeIn K ((VH.fdA K (He.ga K "common")).code) "common" = true := VH.allL_at (VH.chkL_at c.chk 2 rfl) 8 rfl
theorem hf_h_common {K : VH.Frag} (c : Says K) : PySem.W.keepIn K (.ref (He.ga K "common")) = true := VH.allL_at (VH.chkL_at c.chk 2 rfl) 9 rfl
theorem hf_a_part {K : VH.Frag} (c : Says K) : PySem.W.nsIn K mainGlobals "part" = some (some (.ref (He.ga K "part"))) := of_decide_eq_true (VH.allL_at (VH.chkL_at c.chk 2 rfl) 10 rfl)
theorem hf_l_part {K : VH.Frag} (c : Says K) : K.lookup (He.ga K "part") = some ⟨((VH.objA K (He.ga K "part")).cls), ((VH.objA K (He.ga K "part")).dict), .func (PySem.W.fnOf "part" "part" (defArgs s_part) (defBody s_part) (defScope s_part) (.ref (VH.refV (VH.fdA K (He.ga K "part")).defaults)) ((VH.fdA K (He.ga K "part")).kwdefaults) ((VH.fdA K (He.ga K "part")).doc) ((VH.fdA K (He.ga K "part")).pyModule) ((VH.fdA K (He.ga K "part")).annotations) ((VH.fdA K (He.ga K "part")).code) ((VH.fdA K (He.ga K "part")).closureTuple)), ((VH.objA K (He.ga K "part")).slots)⟩ := VH.fn_is (c.fn 17 rfl rfl) (VH.allL_at (VH.chkL_at c.chk 2 rfl) 11 rfl)
theorem hf_t_part {K : VH.Frag} (c : Says K) : K.lookup (VH.refV (VH.fdA K (He.ga K "part")).defaults) = some ⟨.type "tuple", ((VH.objA K (VH.refV (VH.fdA K (He.ga K "part")).defaults)).dict), .seq #[.int 1 (VH.tokAt K (VH.refV (VH.fdA K (He.ga K "part")).defaults) 0)] (VH.seqN K (VH.refV (VH.fdA K (He.ga K "part")).defaults)), ((VH.objA K (VH.refV (VH.fdA K (He.ga K "part")).defaults)).slots)⟩ := VH.tup_is (VH.allL_at (VH.chkL_at c.chk 2 rfl) 12 rfl)
theorem hf_c_part {K : VH.Frag} (c : Says K) : PySem.W.codeIn K ((VH.fdA K (He.ga K "part")).code) "part" = true := VH.allL_at (VH.chkL_at c.chk 2 rfl) 13 rfl
theorem hf_h_part {K : VH.Frag} (c : Says K) : PySem.W.keepIn K (.ref (He.ga K "part")) = true := VH.allL_at (VH.chkL_at c.chk 2 rfl) 14 rfl
theorem hf_a_as_part {K : VH.Frag} (c : Says K) : PySem.W.nsIn K mainGlobals "as_part" = some (some (.ref (He.ga K "as_part"))) := of_decide_eq_true (VH.allL_at (VH.chkL_at c.chk 2 rfl) 15 rfl)
theorem hf_l_as_part {K : VH.Frag} (c : Says K) : K.lookup (He.ga K "as_part") = some ⟨((VH.objA K (He.ga K "as_part")).cls), ((VH.objA K (He.ga K "as_part")).dict), .func (PySem.W.fnOf "as_part" "as_part" (defArgs s_as_part) (defBody s_as_part) (defScope s_as_part) .none ((VH.fdA K (He.ga K "as_part")).kwdefaults) ((VH.fdA K (He.ga K "as_part")).doc) ((VH.fdA K (He.ga K "as_part")).pyModule) ((VH.fdA K (He.ga K "as_part")).annotations) ((VH.fdA K (He.ga K "as_part")).code) ((VH.fdA K (He.ga K "as_part")).closureTuple)), ((VH.objA K (He.ga K "as_part")).slots)⟩ := VH.fn_is (c.fn 18 rfl rfl) (VH.allL_at (VH.chkL_at c.chk 2 rfl) 16 rfl)
theorem hf_c_as_part {K : VH.Frag} (c : Says K) : PySem.W.codeIn K ((VH.fdA K (He.ga K "as_part")).code) "as_part" = true := VH.allL_at (VH.chkL_at c.chk 2 rfl) 17 rfl
theorem hf_h_as_part {K : VH.Frag} (c : Says K) : PySem.W.keepIn K (.ref (He.ga K "as_part")) = true := VH.allL_at (VH.chkL_at c.chk 2 rfl) 18 rfl
theorem hf_a_check_volumes {K : VH.Frag} (c : Says K) : PySem.W.nsIn K mainGlobals "check_volumes" = some (some (.ref (He.ga K "check_volumes"))) := of_decide_eq_true (VH.allL_at (VH.chkL_at c.chk 2 rfl) 19 rfl)
theorem hf_l_check_volumes {K : VH.Frag} (c : Says K) : K.lookup (He.ga K "check_volumes") = some ⟨((VH.objA K (He.ga K "check_volumes")).cls), ((VH.objA K (He.ga K "check_volumes")).dict), .func (PySem.W.fnOf "check_volumes" "check_volumes" (defArgs s_check_volumes) (defBody s_check_volumes) (defScope s_check_volumes) .none ((VH.fdA K (He.ga K "check_volumes")).kwdefaults) ((VH.fdA K (He.ga K "check_volumes")).doc) ((VH.fdA K (He.ga K "check_volumes")).pyModule) ((VH.fdA K (He.ga K "check_volumes")).annotations) ((VH.fdA K (He.ga K "check_volumes")).code) ((VH.fdA K (He.ga K "check_volumes")).closureTuple)), ((VH.objA K (He.ga K "check_volumes")).slots)⟩ := VH.fn_is (c.fn 19 rfl rfl) (VH.allL_at (VH.chkL_at c.chk 2 rfl) 20 rfl)
theorem hf_c_check_volumes {K : VH.Frag} (c : Says K) : PySem.W.codeIn K ((VH.fdA K (He.ga K "check_volumes")).code) "check_volumes" = true := VH.allL_at (VH.chkL_at c.chk 2 rfl) 21 rfl
theorem hf_h_check_volumes {K : VH.Frag} (c : Says K) : PySem.W.keepIn K (.ref (He.ga K "check_volumes")) = true := VH.allL_at (VH.chkL_at c.chk 2 rfl) 22 rfl
theorem hf_a_lapped {K : VH.Frag} (c : Says K) : PySem.W.nsIn K mainGlobals "lapped" = some (some (.ref (He.ga K "lapped"))) := of_decide_eq_true (VH.allL_at (VH.chkL_at c.chk 2 rfl) 23 rfl)
theorem hf_l_lapped {K : VH.Frag} (c : Says K) : K.lookup (He.ga K "lapped") = some ⟨((VH.objA K (He.ga K "lapped")).cls), ((VH.objA K (He.ga K "lapped")).dict), .func (PySem.W.fnOf "lapped" "lapped" (defArgs s_lapped) (defBody s_lapped) (defScope s_lapped) .none ((VH.fdA K (He.ga K "lapped")).kwdefaults) ((VH.fdA K (He.ga K "lapped")).doc) ((VH.fdA K (He.ga K "lapped")).pyModule) ((VH.fdA K (He.ga K "lapped")).annotations) ((VH.fdA K (He.ga K "lapped")).code) ((VH.fdA K (He.ga K "lapped")).closureTuple)), ((VH.objA K (He.ga K "lapped")).slots)⟩ := VH.fn_is (c.fn 20 rfl rfl) (VH.allL_at (VH.chkL_at c.chk 2 rfl) 24 rfl)
theorem hf_c_lapped {K : VH.Frag} (c : Says K) : PySem.W.codeIn K ((VH.fdA K (He.ga K "lapped")).code) "lapped" = true := VH.allL_at (VH.chkL_at c.chk 2 rfl) 25 rfl
theorem hf_h_lapped {K : VH.Frag} (c : Says K) : PySem.W.keepIn K (.ref (He.ga K "lapped")) = true := VH.allL_at (VH.chkL_at c.chk 2 rfl) 26 rfl
theorem hf_a_lap_limit {K : VH.Frag} (c : Says K) : PySem.W.nsIn K mainGlobals "lap_limit" = some (some (.ref (He.ga K "lap_limit"))) := of_decide_eq_true (VH.allL_at (VH.chkL_at c.chk 2 rfl) 27 rfl)
theorem hf_l_lap_limit {K : VH.Frag} (c : Says K) : K.lookup (He.ga K "lap_limit") = some ⟨((VH.objA K (He.ga K "lap_limit")).cls), ((VH.objA K (He.ga K "lap_limit")).dict), .func (PySem.W.fnOf "lap_limit" "lap_limit" (defArgs s_lap_limit) (defBody s_lap_limit) (defScope s_lap_limit) .none ((VH.fdA K (He.ga K "lap_limit")).kwdefaults) ((VH.fdA K (He.ga K "lap_limit")).doc) ((VH.fdA K (He.ga K "lap_limit")).pyModule) ((VH.fdA K (He.ga K "lap_limit")).annotations) ((VH.fdA K (He.ga K "lap_limit")).code) ((VH.fdA K (He.ga K "lap_limit")).closureTuple)), ((VH.objA K (He.ga K "lap_limit")).slots)⟩ := VH.fn_is (c.fn 21 rfl rfl) (VH.allL_at (VH.chkL_at c.chk 2 rfl) 28 rfl)
theorem hf_c_lap_limit {K : VH.Frag} (c : Says K) : PySem.W.codeIn K ((VH.fdA K (He.ga K "lap_limit")).code) "lap_limit" = true := VH.allL_at (VH.chkL_at c.chk 2 rfl) 29 rfl
theorem hf_h_lap_limit {K : VH.Frag} (c : Says K) : PySem.W.keepIn K (.ref (He.ga K "lap_limit")) = true := VH.allL_at (VH.chkL_at c.chk 3 rfl) 0 rfl
theorem hf_a_moved {K : VH.Frag} (c : Says K) : PySem.W.nsIn K mainGlobals "moved" = some (some (.ref (He.ga K "moved"))) := of_decide_eq_true (VH.allL_at (VH.chkL_at c.chk 3 rfl) 1 rfl)
theorem hf_l_moved {K : VH.Frag} (c : Says K) : K.lookup (He.ga K "moved") = some ⟨((VH.objA K (He.ga K "moved")).cls), ((VH.objA K (He.ga K "moved")).dict), .func (PySem.W.fnOf "moved" "moved" (defArgs s_moved) (defBody s_moved) (defScope s_moved) .none ((VH.fdA K (He.ga K "moved")).kwdefaults) ((VH.fdA K (He.ga K "moved")).doc) ((VH.fdA K (He.ga K "moved")).pyModule) ((VH.fdA K (He.ga K "moved")).annotations) ((VH.fdA K (He.ga K "moved")).code) ((VH.fdA K (He.ga K "moved")).closureTuple)), ((VH.objA K (He.ga K "moved")).slots)⟩ := VH.fn_is (c.fn 22 rfl rfl) (VH.allL_at (VH.chkL_at c.chk 3 rfl) 2 rfl)
theorem hf_c_moved {K : VH.Frag} (c : Says K) : PySem.W.codeIn K ((VH.fdA K (He.ga K "moved")).code) "moved" = true := VH.allL_at (VH.chkL_at c.chk 3 rfl) 3 rfl
theorem hf_h_moved {K : VH.Frag} (c : Says K) : PySem.W.keepIn K (.ref (He.ga K "moved")) = true := VH.allL_at (VH.chkL_at c.chk 3 rfl) 4 rfl
theorem hf_a_lap_recurrence {K : VH.Frag} (c : Says K) : PySem.W.nsIn K mainGlobals "lap_recurrence" = some (some (.ref (He.ga K "lap_recurrence"))) := of_decide_eq_true (VH.allL_at (VH.chkL_at c.chk 3 rfl) 5 rfl)
theorem hf_l_lap_recurrence {K : VH.Frag} (c : Says K) : K.lookup (He.ga K "lap_recurrence") = some ⟨((VH.objA K (He.ga K "lap_recurrence")).cls), ((VH.objA K (He.ga K "lap_recurrence")).dict), .func (PySem.W.fnOf "lap_recurrence" "lap_recurrence" (defArgs s_lap_recurrence) (defBody s_lap_recurrence) (defScope s_lap_recurrence) .none ((VH.fdA K (He.ga K "lap_recurrence")).kwdefaults) ((VH.fdA K (He.ga K "lap_recurrence")).doc) ((VH.fdA K (He.ga K "lap_recurrence")).pyModule) ((VH.fdA K (He.ga K "lap_recurrence")).annotations) ((VH.fdA K (He.ga K "lap_recurrence")).code) ((VH.fdA K (He.ga K "lap_recurrence")).closureTuple)), ((VH.objA K (He.ga K "lap_recurrence")).slots)⟩ := VH.fn_is (c.fn 23 rfl rfl) (VH.allL_at (VH.chkL_at c.chk 3 rfl) 6 rfl)
theorem hf_c_lap_recurrence {K : VH.Frag} (c : Says K) : PySem.W.codeIn K ((VH.fdA K (He.ga K "lap_recurrence")).code) "lap_recurrence" = true := VH.allL_at (VH.chkL_at c.chk 3 rfl) 7 rfl
theorem hf_h_lap_recurrence {K : VH.Frag} (c : Says K) : PySem.W.keepIn K (.ref (He.ga K "lap_recurrence")) = true := VH.allL_at (VH.chkL_at c.chk 3 rfl) 8 rfl
theorem hf_a__law_asked {K : VH.Frag} (c : Says K) : PySem.W.nsIn K mainGlobals "_law_asked" = some (some (.ref (He.ga K "_law_asked"))) := of_decide_eq_true (VH.allL_at (VH.chkL_at c.chk 3 rfl) 9 rfl)
theorem hf_l__law_asked {K : VH.Frag} (c : Says K) : K.lookup (He.ga K "_law_asked") = some ⟨((VH.objA K (He.ga K "_law_asked")).cls), ((VH.objA K (He.ga K "_law_asked")).dict), .func (PySem.W.fnOf "_law_asked" "_law_asked" (defArgs s__law_asked) (defBody s__law_asked) (defScope s__law_asked) .none ((VH.fdA K (He.ga K "_law_asked")).kwdefaults) ((VH.fdA K (He.ga K "_law_asked")).doc) ((VH.fdA K (He.ga K "_law_asked")).pyModule) ((VH.fdA K (He.ga K "_law_asked")).annotations) ((VH.fdA K (He.ga K "_law_asked")).code) ((VH.fdA K (He.ga K "_law_asked")).closureTuple)), ((VH.objA K (He.ga K "_law_asked")).slots)⟩ := VH.fn_is (c.fn 24 rfl rfl) (VH.allL_at (VH.chkL_at c.chk 3 rfl) 10 rfl)
theorem hf_c__law_asked {K : VH.Frag} (c : Says K) : PySem.W.codeIn K ((VH.fdA K (He.ga K "_law_asked")).code) "_law_asked" = true := VH.allL_at (VH.chkL_at c.chk 3 rfl) 11 rfl
theorem hf_h__law_asked {K : VH.Frag} (c : Says K) : PySem.W.keepIn K (.ref (He.ga K "_law_asked")) = true := VH.allL_at (VH.chkL_at c.chk 3 rfl) 12 rfl
theorem hf_a_turned_back {K : VH.Frag} (c : Says K) : PySem.W.nsIn K mainGlobals "turned_back" = some (some (.ref (He.ga K "turned_back"))) := of_decide_eq_true (VH.allL_at (VH.chkL_at c.chk 3 rfl) 13 rfl)
theorem hf_l_turned_back {K : VH.Frag} (c : Says K) : K.lookup (He.ga K "turned_back") = some ⟨((VH.objA K (He.ga K "turned_back")).cls), ((VH.objA K (He.ga K "turned_back")).dict), .func (PySem.W.fnOf "turned_back" "turned_back" (defArgs s_turned_back) (defBody s_turned_back) (defScope s_turned_back) .none ((VH.fdA K (He.ga K "turned_back")).kwdefaults) ((VH.fdA K (He.ga K "turned_back")).doc) ((VH.fdA K (He.ga K "turned_back")).pyModule) ((VH.fdA K (He.ga K "turned_back")).annotations) ((VH.fdA K (He.ga K "turned_back")).code) ((VH.fdA K (He.ga K "turned_back")).closureTuple)), ((VH.objA K (He.ga K "turned_back")).slots)⟩ := VH.fn_is (c.fn 25 rfl rfl) (VH.allL_at (VH.chkL_at c.chk 3 rfl) 14 rfl)
theorem hf_c_turned_back {K : VH.Frag} (c : Says K) : PySem.W.codeIn K ((VH.fdA K (He.ga K "turned_back")).code) "turned_back" = true := VH.allL_at (VH.chkL_at c.chk 3 rfl) 15 rfl
theorem hf_h_turned_back {K : VH.Frag} (c : Says K) : PySem.W.keepIn K (.ref (He.ga K "turned_back")) = true := VH.allL_at (VH.chkL_at c.chk 3 rfl) 16 rfl
theorem hf_a_straightened {K : VH.Frag} (c : Says K) : PySem.W.nsIn K mainGlobals "straightened" = some (some (.ref (He.ga K "straightened"))) := of_decide_eq_true (VH.allL_at (VH.chkL_at c.chk 3 rfl) 17 rfl)
theorem hf_l_straightened {K : VH.Frag} (c : Says K) : K.lookup (He.ga K "straightened") = some ⟨((VH.objA K (He.ga K "straightened")).cls), ((VH.objA K (He.ga K "straightened")).dict), .func (PySem.W.fnOf "straightened" "straightened" (defArgs s_straightened) (defBody s_straightened) (defScope s_straightened) .none ((VH.fdA K (He.ga K "straightened")).kwdefaults) ((VH.fdA K (He.ga K "straightened")).doc) ((VH.fdA K (He.ga K "straightened")).pyModule) ((VH.fdA K (He.ga K "straightened")).annotations) ((VH.fdA K (He.ga K "straightened")).code) ((VH.fdA K (He.ga K "straightened")).closureTuple)), ((VH.objA K (He.ga K "straightened")).slots)⟩ := VH.fn_is (c.fn 26 rfl rfl) (VH.allL_at (VH.chkL_at c.chk 3 rfl) 18 rfl)
theorem hf_c_straightened {K : VH.Frag} (c : Says K) : PySem.W.codeIn K ((VH.fdA K (He.ga K "straightened")).code) "straightened" = true := VH.allL_at (VH.chkL_at c.chk 3 rfl) 19 rfl
theorem hf_h_straightened {K : VH.Frag} (c : Says K) : PySem.W.keepIn K (.ref (He.ga K "straightened")) = true := VH.allL_at (VH.chkL_at c.chk 3 rfl) 20 rfl
theorem hf_a_check_programs {K : VH.Frag} (c : Says K) : PySem.W.nsIn K mainGlobals "check_programs" = some (some (.ref (He.ga K "check_programs"))) := of_decide_eq_true (VH.allL_at (VH.chkL_at c.chk 3 rfl) 21 rfl)
theorem hf_l_check_programs {K : VH.Frag} (c : Says K) : K.lookup (He.ga K "check_programs") = some ⟨((VH.objA K (He.ga K "check_programs")).cls), ((VH.objA K (He.ga K "check_programs")).dict), .func (PySem.W.fnOf "check_programs" "check_programs" (defArgs s_check_programs) (defBody s_check_programs) (defScope s_check_programs) .none ((VH.fdA K (He.ga K "check_programs")).kwdefaults) ((VH.fdA K (He.ga K "check_programs")).doc) ((VH.fdA K (He.ga K "check_programs")).pyModule) ((VH.fdA K (He.ga K "check_programs")).annotations) ((VH.fdA K (He.ga K "check_programs")).code) ((VH.fdA K (He.ga K "check_programs")).closureTuple)), ((VH.objA K (He.ga K "check_programs")).slots)⟩ := VH.fn_is (c.fn 27 rfl rfl) (VH.allL_at (VH.chkL_at c.chk 3 rfl) 22 rfl)
theorem hf_c_check_programs {K : VH.Frag} (c : Says K) : PySem.W.codeIn K ((VH.fdA K (He.ga K "check_programs")).code) "check_programs" = true := VH.allL_at (VH.chkL_at c.chk 3 rfl) 23 rfl
theorem hf_h_check_programs {K : VH.Frag} (c : Says K) : PySem.W.keepIn K (.ref (He.ga K "check_programs")) = true := VH.allL_at (VH.chkL_at c.chk 3 rfl) 24 rfl
theorem hf_a_tidy_program {K : VH.Frag} (c : Says K) : PySem.W.nsIn K mainGlobals "tidy_program" = some (some (.ref (He.ga K "tidy_program"))) := of_decide_eq_true (VH.allL_at (VH.chkL_at c.chk 3 rfl) 25 rfl)
theorem hf_l_tidy_program {K : VH.Frag} (c : Says K) : K.lookup (He.ga K "tidy_program") = some ⟨((VH.objA K (He.ga K "tidy_program")).cls), ((VH.objA K (He.ga K "tidy_program")).dict), .func (PySem.W.fnOf "tidy_program" "tidy_program" (defArgs s_tidy_program) (defBody s_tidy_program) (defScope s_tidy_program) .none ((VH.fdA K (He.ga K "tidy_program")).kwdefaults) ((VH.fdA K (He.ga K "tidy_program")).doc) ((VH.fdA K (He.ga K "tidy_program")).pyModule) ((VH.fdA K (He.ga K "tidy_program")).annotations) ((VH.fdA K (He.ga K "tidy_program")).code) ((VH.fdA K (He.ga K "tidy_program")).closureTuple)), ((VH.objA K (He.ga K "tidy_program")).slots)⟩ := VH.fn_is (c.fn 28 rfl rfl) (VH.allL_at (VH.chkL_at c.chk 3 rfl) 26 rfl)
theorem hf_c_tidy_program {K : VH.Frag} (c : Says K) : PySem.W.codeIn K ((VH.fdA K (He.ga K "tidy_program")).code) "tidy_program" = true := VH.allL_at (VH.chkL_at c.chk 3 rfl) 27 rfl
theorem hf_h_tidy_program {K : VH.Frag} (c : Says K) : PySem.W.keepIn K (.ref (He.ga K "tidy_program")) = true := VH.allL_at (VH.chkL_at c.chk 3 rfl) 28 rfl
theorem hf_a_judge_even {K : VH.Frag} (c : Says K) : PySem.W.nsIn K mainGlobals "judge_even" = some (some (.ref (He.ga K "judge_even"))) := of_decide_eq_true (VH.allL_at (VH.chkL_at c.chk 3 rfl) 29 rfl)
theorem hf_l_judge_even {K : VH.Frag} (c : Says K) : K.lookup (He.ga K "judge_even") = some ⟨((VH.objA K (He.ga K "judge_even")).cls), ((VH.objA K (He.ga K "judge_even")).dict), .func (PySem.W.fnOf "judge_even" "judge_even" (defArgs s_judge_even) (defBody s_judge_even) (defScope s_judge_even) .none ((VH.fdA K (He.ga K "judge_even")).kwdefaults) ((VH.fdA K (He.ga K "judge_even")).doc) ((VH.fdA K (He.ga K "judge_even")).pyModule) ((VH.fdA K (He.ga K "judge_even")).annotations) ((VH.fdA K (He.ga K "judge_even")).code) ((VH.fdA K (He.ga K "judge_even")).closureTuple)), ((VH.objA K (He.ga K "judge_even")).slots)⟩ := VH.fn_is (c.fn 29 rfl rfl) (VH.allL_at (VH.chkL_at c.chk 4 rfl) 0 rfl)
theorem hf_c_judge_even {K : VH.Frag} (c : Says K) : PySem.W.codeIn K ((VH.fdA K (He.ga K "judge_even")).code) "judge_even" = true := VH.allL_at (VH.chkL_at c.chk 4 rfl) 1 rfl
theorem hf_h_judge_even {K : VH.Frag} (c : Says K) : PySem.W.keepIn K (.ref (He.ga K "judge_even")) = true := VH.allL_at (VH.chkL_at c.chk 4 rfl) 2 rfl
theorem hf_a_check_start {K : VH.Frag} (c : Says K) : PySem.W.nsIn K mainGlobals "check_start" = some (some (.ref (He.ga K "check_start"))) := of_decide_eq_true (VH.allL_at (VH.chkL_at c.chk 4 rfl) 3 rfl)
theorem hf_l_check_start {K : VH.Frag} (c : Says K) : K.lookup (He.ga K "check_start") = some ⟨((VH.objA K (He.ga K "check_start")).cls), ((VH.objA K (He.ga K "check_start")).dict), .func (PySem.W.fnOf "check_start" "check_start" (defArgs s_check_start) (defBody s_check_start) (defScope s_check_start) .none ((VH.fdA K (He.ga K "check_start")).kwdefaults) ((VH.fdA K (He.ga K "check_start")).doc) ((VH.fdA K (He.ga K "check_start")).pyModule) ((VH.fdA K (He.ga K "check_start")).annotations) ((VH.fdA K (He.ga K "check_start")).code) ((VH.fdA K (He.ga K "check_start")).closureTuple)), ((VH.objA K (He.ga K "check_start")).slots)⟩ := VH.fn_is (c.fn 30 rfl rfl) (VH.allL_at (VH.chkL_at c.chk 4 rfl) 4 rfl)
theorem hf_c_check_start {K : VH.Frag} (c : Says K) : PySem.W.codeIn K ((VH.fdA K (He.ga K "check_start")).code) "check_start" = true := VH.allL_at (VH.chkL_at c.chk 4 rfl) 5 rfl
theorem hf_h_check_start {K : VH.Frag} (c : Says K) : PySem.W.keepIn K (.ref (He.ga K "check_start")) = true := VH.allL_at (VH.chkL_at c.chk 4 rfl) 6 rfl
theorem hf_a_recurrence {K : VH.Frag} (c : Says K) : PySem.W.nsIn K mainGlobals "recurrence" = some (some (.ref (He.ga K "recurrence"))) := of_decide_eq_true (VH.allL_at (VH.chkL_at c.chk 4 rfl) 7 rfl)
theorem hf_l_recurrence {K : VH.Frag} (c : Says K) : K.lookup (He.ga K "recurrence") = some ⟨((VH.objA K (He.ga K "recurrence")).cls), ((VH.objA K (He.ga K "recurrence")).dict), .func (PySem.W.fnOf "recurrence" "recurrence" (defArgs s_recurrence) (defBody s_recurrence) (defScope s_recurrence) .none ((VH.fdA K (He.ga K "recurrence")).kwdefaults) ((VH.fdA K (He.ga K "recurrence")).doc) ((VH.fdA K (He.ga K "recurrence")).pyModule) ((VH.fdA K (He.ga K "recurrence")).annotations) ((VH.fdA K (He.ga K "recurrence")).code) ((VH.fdA K (He.ga K "recurrence")).closureTuple)), ((VH.objA K (He.ga K "recurrence")).slots)⟩ := VH.fn_is (c.fn 31 rfl rfl) (VH.allL_at (VH.chkL_at c.chk 4 rfl) 8 rfl)
theorem hf_c_recurrence {K : VH.Frag} (c : Says K) : PySem.W.codeIn K ((VH.fdA K (He.ga K "recurrence")).code) "recurrence" = true := VH.allL_at (VH.chkL_at c.chk 4 rfl) 9 rfl
theorem hf_h_recurrence {K : VH.Frag} (c : Says K) : PySem.W.keepIn K (.ref (He.ga K "recurrence")) = true := VH.allL_at (VH.chkL_at c.chk 4 rfl) 10 rfl
theorem hf_a_judge_programs {K : VH.Frag} (c : Says K) : PySem.W.nsIn K mainGlobals "judge_programs" = some (some (.ref (He.ga K "judge_programs"))) := of_decide_eq_true (VH.allL_at (VH.chkL_at c.chk 4 rfl) 11 rfl)
theorem hf_l_judge_programs {K : VH.Frag} (c : Says K) : K.lookup (He.ga K "judge_programs") = some ⟨((VH.objA K (He.ga K "judge_programs")).cls), ((VH.objA K (He.ga K "judge_programs")).dict), .func (PySem.W.fnOf "judge_programs" "judge_programs" (defArgs s_judge_programs) (defBody s_judge_programs) (defScope s_judge_programs) .none ((VH.fdA K (He.ga K "judge_programs")).kwdefaults) ((VH.fdA K (He.ga K "judge_programs")).doc) ((VH.fdA K (He.ga K "judge_programs")).pyModule) ((VH.fdA K (He.ga K "judge_programs")).annotations) ((VH.fdA K (He.ga K "judge_programs")).code) ((VH.fdA K (He.ga K "judge_programs")).closureTuple)), ((VH.objA K (He.ga K "judge_programs")).slots)⟩ := VH.fn_is (c.fn 32 rfl rfl) (VH.allL_at (VH.chkL_at c.chk 4 rfl) 12 rfl)
theorem hf_c_judge_programs {K : VH.Frag} (c : Says K) : PySem.W.codeIn K ((VH.fdA K (He.ga K "judge_programs")).code) "judge_programs" = true := VH.allL_at (VH.chkL_at c.chk 4 rfl) 13 rfl
theorem hf_h_judge_programs {K : VH.Frag} (c : Says K) : PySem.W.keepIn K (.ref (He.ga K "judge_programs")) = true := VH.allL_at (VH.chkL_at c.chk 4 rfl) 14 rfl
theorem hf_a_judge_later {K : VH.Frag} (c : Says K) : PySem.W.nsIn K mainGlobals "judge_later" = some (some (.ref (He.ga K "judge_later"))) := of_decide_eq_true (VH.allL_at (VH.chkL_at c.chk 4 rfl) 15 rfl)
theorem hf_l_judge_later {K : VH.Frag} (c : Says K) : K.lookup (He.ga K "judge_later") = some ⟨((VH.objA K (He.ga K "judge_later")).cls), ((VH.objA K (He.ga K "judge_later")).dict), .func (PySem.W.fnOf "judge_later" "judge_later" (defArgs s_judge_later) (defBody s_judge_later) (defScope s_judge_later) .none ((VH.fdA K (He.ga K "judge_later")).kwdefaults) ((VH.fdA K (He.ga K "judge_later")).doc) ((VH.fdA K (He.ga K "judge_later")).pyModule) ((VH.fdA K (He.ga K "judge_later")).annotations) ((VH.fdA K (He.ga K "judge_later")).code) ((VH.fdA K (He.ga K "judge_later")).closureTuple)), ((VH.objA K (He.ga K "judge_later")).slots)⟩ := VH.fn_is (c.fn 33 rfl rfl) (VH.allL_at (VH.chkL_at c.chk 4 rfl) 16 rfl)
theorem hf_c_judge_later {K : VH.Frag} (c : Says K) : PySem.W.codeIn K ((VH.fdA K (He.ga K "judge_later")).code) "judge_later" = true := VH.allL_at (VH.chkL_at c.chk 4 rfl) 17 rfl
theorem hf_h_judge_later {K : VH.Frag} (c : Says K) : PySem.W.keepIn K (.ref (He.ga K "judge_later")) = true := VH.allL_at (VH.chkL_at c.chk 4 rfl) 18 rfl
theorem hf_a_amount {K : VH.Frag} (c : Says K) : PySem.W.nsIn K mainGlobals "amount" = some (some (.ref (He.ga K "amount"))) := of_decide_eq_true (VH.allL_at (VH.chkL_at c.chk 4 rfl) 19 rfl)
theorem hf_l_amount {K : VH.Frag} (c : Says K) : K.lookup (He.ga K "amount") = some ⟨((VH.objA K (He.ga K "amount")).cls), ((VH.objA K (He.ga K "amount")).dict), .func (PySem.W.fnOf "amount" "amount" (defArgs s_amount) (defBody s_amount) (defScope s_amount) .none ((VH.fdA K (He.ga K "amount")).kwdefaults) ((VH.fdA K (He.ga K "amount")).doc) ((VH.fdA K (He.ga K "amount")).pyModule) ((VH.fdA K (He.ga K "amount")).annotations) ((VH.fdA K (He.ga K "amount")).code) ((VH.fdA K (He.ga K "amount")).closureTuple)), ((VH.objA K (He.ga K "amount")).slots)⟩ := VH.fn_is (c.fn 34 rfl rfl) (VH.allL_at (VH.chkL_at c.chk 4 rfl) 20 rfl)
theorem hf_c_amount {K : VH.Frag} (c : Says K) : PySem.W.codeIn K ((VH.fdA K (He.ga K "amount")).code) "amount" = true := VH.allL_at (VH.chkL_at c.chk 4 rfl) 21 rfl
theorem hf_h_amount {K : VH.Frag} (c : Says K) : PySem.W.keepIn K (.ref (He.ga K "amount")) = true := VH.allL_at (VH.chkL_at c.chk 4 rfl) 22 rfl
theorem hf_a_amounts {K : VH.Frag} (c : Says K) : PySem.W.nsIn K mainGlobals "amounts" = some (some (.ref (He.ga K "amounts"))) := of_decide_eq_true (VH.allL_at (VH.chkL_at c.chk 4 rfl) 23 rfl)
theorem hf_l_amounts {K : VH.Frag} (c : Says K) : K.lookup (He.ga K "amounts") = some ⟨((VH.objA K (He.ga K "amounts")).cls), ((VH.objA K (He.ga K "amounts")).dict), .func (PySem.W.fnOf "amounts" "amounts" (defArgs s_amounts) (defBody s_amounts) (defScope s_amounts) .none ((VH.fdA K (He.ga K "amounts")).kwdefaults) ((VH.fdA K (He.ga K "amounts")).doc) ((VH.fdA K (He.ga K "amounts")).pyModule) ((VH.fdA K (He.ga K "amounts")).annotations) ((VH.fdA K (He.ga K "amounts")).code) ((VH.fdA K (He.ga K "amounts")).closureTuple)), ((VH.objA K (He.ga K "amounts")).slots)⟩ := VH.fn_is (c.fn 35 rfl rfl) (VH.allL_at (VH.chkL_at c.chk 4 rfl) 24 rfl)
theorem hf_c_amounts {K : VH.Frag} (c : Says K) : PySem.W.codeIn K ((VH.fdA K (He.ga K "amounts")).code) "amounts" = true := VH.allL_at (VH.chkL_at c.chk 4 rfl) 25 rfl
theorem hf_h_amounts {K : VH.Frag} (c : Says K) : PySem.W.keepIn K (.ref (He.ga K "amounts")) = true := VH.allL_at (VH.chkL_at c.chk 4 rfl) 26 rfl
theorem hf_a_check_kinds {K : VH.Frag} (c : Says K) : PySem.W.nsIn K mainGlobals "check_kinds" = some (some (.ref (He.ga K "check_kinds"))) := of_decide_eq_true (VH.allL_at (VH.chkL_at c.chk 4 rfl) 27 rfl)
theorem hf_l_check_kinds {K : VH.Frag} (c : Says K) : K.lookup (He.ga K "check_kinds") = some ⟨((VH.objA K (He.ga K "check_kinds")).cls), ((VH.objA K (He.ga K "check_kinds")).dict), .func (PySem.W.fnOf "check_kinds" "check_kinds" (defArgs s_check_kinds) (defBody s_check_kinds) (defScope s_check_kinds) .none ((VH.fdA K (He.ga K "check_kinds")).kwdefaults) ((VH.fdA K (He.ga K "check_kinds")).doc) ((VH.fdA K (He.ga K "check_kinds")).pyModule) ((VH.fdA K (He.ga K "check_kinds")).annotations) ((VH.fdA K (He.ga K "check_kinds")).code) ((VH.fdA K (He.ga K "check_kinds")).closureTuple)), ((VH.objA K (He.ga K "check_kinds")).slots)⟩ := VH.fn_is (c.fn 36 rfl rfl) (VH.allL_at (VH.chkL_at c.chk 4 rfl) 28 rfl)
theorem hf_c_check_kinds {K : VH.Frag} (c : Says K) : PySem.W.codeIn K ((VH.fdA K (He.ga K "check_kinds")).code) "check_kinds" = true := VH.allL_at (VH.chkL_at c.chk 4 rfl) 29 rfl
theorem hf_h_check_kinds {K : VH.Frag} (c : Says K) : PySem.W.keepIn K (.ref (He.ga K "check_kinds")) = true := VH.allL_at (VH.chkL_at c.chk 5 rfl) 0 rfl
theorem hf_a_check_all {K : VH.Frag} (c : Says K) : PySem.W.nsIn K mainGlobals "check_all" = some (some (.ref (He.ga K "check_all"))) := of_decide_eq_true (VH.allL_at (VH.chkL_at c.chk 5 rfl) 1 rfl)
theorem hf_l_check_all {K : VH.Frag} (c : Says K) : K.lookup (He.ga K "check_all") = some ⟨((VH.objA K (He.ga K "check_all")).cls), ((VH.objA K (He.ga K "check_all")).dict), .func (PySem.W.fnOf "check_all" "check_all" (defArgs s_check_all) (defBody s_check_all) (defScope s_check_all) .none ((VH.fdA K (He.ga K "check_all")).kwdefaults) ((VH.fdA K (He.ga K "check_all")).doc) ((VH.fdA K (He.ga K "check_all")).pyModule) ((VH.fdA K (He.ga K "check_all")).annotations) ((VH.fdA K (He.ga K "check_all")).code) ((VH.fdA K (He.ga K "check_all")).closureTuple)), ((VH.objA K (He.ga K "check_all")).slots)⟩ := VH.fn_is (c.fn 37 rfl rfl) (VH.allL_at (VH.chkL_at c.chk 5 rfl) 2 rfl)
theorem hf_c_check_all {K : VH.Frag} (c : Says K) : PySem.W.codeIn K ((VH.fdA K (He.ga K "check_all")).code) "check_all" = true := VH.allL_at (VH.chkL_at c.chk 5 rfl) 3 rfl
theorem hf_h_check_all {K : VH.Frag} (c : Says K) : PySem.W.keepIn K (.ref (He.ga K "check_all")) = true := VH.allL_at (VH.chkL_at c.chk 5 rfl) 4 rfl
theorem hf_a_few_rounds {K : VH.Frag} (c : Says K) : PySem.W.nsIn K mainGlobals "few_rounds" = some (some (.ref (He.ga K "few_rounds"))) := of_decide_eq_true (VH.allL_at (VH.chkL_at c.chk 5 rfl) 5 rfl)
theorem hf_l_few_rounds {K : VH.Frag} (c : Says K) : K.lookup (He.ga K "few_rounds") = some ⟨((VH.objA K (He.ga K "few_rounds")).cls), ((VH.objA K (He.ga K "few_rounds")).dict), .func (PySem.W.fnOf "few_rounds" "few_rounds" (defArgs s_few_rounds) (defBody s_few_rounds) (defScope s_few_rounds) .none ((VH.fdA K (He.ga K "few_rounds")).kwdefaults) ((VH.fdA K (He.ga K "few_rounds")).doc) ((VH.fdA K (He.ga K "few_rounds")).pyModule) ((VH.fdA K (He.ga K "few_rounds")).annotations) ((VH.fdA K (He.ga K "few_rounds")).code) ((VH.fdA K (He.ga K "few_rounds")).closureTuple)), ((VH.objA K (He.ga K "few_rounds")).slots)⟩ := VH.fn_is (c.fn 38 rfl rfl) (VH.allL_at (VH.chkL_at c.chk 5 rfl) 6 rfl)
theorem hf_c_few_rounds {K : VH.Frag} (c : Says K) : PySem.W.codeIn K ((VH.fdA K (He.ga K "few_rounds")).code) "few_rounds" = true := VH.allL_at (VH.chkL_at c.chk 5 rfl) 7 rfl
theorem hf_h_few_rounds {K : VH.Frag} (c : Says K) : PySem.W.keepIn K (.ref (He.ga K "few_rounds")) = true := VH.allL_at (VH.chkL_at c.chk 5 rfl) 8 rfl
theorem hf_a__law_alone {K : VH.Frag} (c : Says K) : PySem.W.nsIn K mainGlobals "_law_alone" = some (some (.ref (He.ga K "_law_alone"))) := of_decide_eq_true (VH.allL_at (VH.chkL_at c.chk 5 rfl) 9 rfl)
theorem hf_l__law_alone {K : VH.Frag} (c : Says K) : K.lookup (He.ga K "_law_alone") = some ⟨((VH.objA K (He.ga K "_law_alone")).cls), ((VH.objA K (He.ga K "_law_alone")).dict), .func (PySem.W.fnOf "_law_alone" "_law_alone" (defArgs s__law_alone) (defBody s__law_alone) (defScope s__law_alone) .none ((VH.fdA K (He.ga K "_law_alone")).kwdefaults) ((VH.fdA K (He.ga K "_law_alone")).doc) ((VH.fdA K (He.ga K "_law_alone")).pyModule) ((VH.fdA K (He.ga K "_law_alone")).annotations) ((VH.fdA K (He.ga K "_law_alone")).code) ((VH.fdA K (He.ga K "_law_alone")).closureTuple)), ((VH.objA K (He.ga K "_law_alone")).slots)⟩ := VH.fn_is (c.fn 39 rfl rfl) (VH.allL_at (VH.chkL_at c.chk 5 rfl) 10 rfl)
theorem hf_c__law_alone {K : VH.Frag} (c : Says K) : PySem.W.codeIn K ((VH.fdA K (He.ga K "_law_alone")).code) "_law_alone" = true := VH.allL_at (VH.chkL_at c.chk 5 rfl) 11 rfl
theorem hf_h__law_alone {K : VH.Frag} (c : Says K) : PySem.W.keepIn K (.ref (He.ga K "_law_alone")) = true := VH.allL_at (VH.chkL_at c.chk 5 rfl) 12 rfl
theorem hf_a_Program___eq__ {K : VH.Frag} (c : Says K) : PySem.W.findIn K (.ref (He.ga K "Program")) "__eq__" = some (some (.ref (He.ma K (He.ga K "Program") "__eq__"))) := of_decide_eq_true (VH.allL_at (VH.chkL_at c.chk 5 rfl) 13 rfl)
theorem hf_i_Program___eq__ {K : VH.Frag} (c : Says K) : PySem.W.isFn K (.ref (He.ma K (He.ga K "Program") "__eq__")) = true := VH.allL_at (VH.chkL_at c.chk 5 rfl) 14 rfl
theorem hf_l_Program___eq__ {K : VH.Frag} (c : Says K) : K.lookup (He.ma K (He.ga K "Program") "__eq__") = some ⟨((VH.objA K (He.ma K (He.ga K "Program") "__eq__")).cls), ((VH.objA K (He.ma K (He.ga K "Program") "__eq__")).dict), .func (PySem.W.fnOf "__eq__" "Program.__eq__" (defArgs s_Program___eq__) (defBody s_Program___eq__) (defScope s_Program___eq__) .none ((VH.fdA K (He.ma K (He.ga K "Program") "__eq__")).kwdefaults) ((VH.fdA K (He.ma K (He.ga K "Program") "__eq__")).doc) ((VH.fdA K (He.ma K (He.ga K "Program") "__eq__")).pyModule) ((VH.fdA K (He.ma K (He.ga K "Program") "__eq__")).annotations) ((VH.fdA K (He.ma K (He.ga K "Program") "__eq__")).code) ((VH.fdA K (He.ma K (He.ga K "Program") "__eq__")).closureTuple)), ((VH.objA K (He.ma K (He.ga K "Program") "__eq__")).slots)⟩ := VH.fn_is (c.fn 40 rfl rfl) (VH.allL_at (VH.chkL_at c.chk 5 rfl) 15 rfl)
theorem hf_c_Program___eq__ {K : VH.Frag} (c : Says K) : PySem.W.codeIn K ((VH.fdA K (He.ma K (He.ga K "Program") "__eq__")).code) "Program.__eq__" = true := VH.allL_at (VH.chkL_at c.chk 5 rfl) 16 rfl
theorem hf_h_Program___eq__ {K : VH.Frag} (c : Says K) : PySem.W.keepIn K (.ref (He.ma K (He.ga K "Program") "__eq__")) = true := VH.allL_at (VH.chkL_at c.chk 5 rfl) 17 rfl
theorem hf_a_Program___add__ {K : VH.Frag} (c : Says K) : PySem.W.findIn K (.ref (He.ga K "Program")) "__add__" = some (some (.ref (He.ma K (He.ga K "Program") "__add__"))) := of_decide_eq_true (VH.allL_at (VH.chkL_at c.chk 5 rfl) 18 rfl)
theorem hf_i_Program___add__ {K : VH.Frag} (c : Says K) : PySem.W.isFn K (.ref (He.ma K (He.ga K "Program") "__add__")) = true := VH.allL_at (VH.chkL_at c.chk 5 rfl) 19 rfl
theorem hf_l_Program___add__ {K : VH.Frag} (c : Says K) : K.lookup (He.ma K (He.ga K "Program") "__add__") = some ⟨((VH.objA K (He.ma K (He.ga K "Program") "__add__")).cls), ((VH.objA K (He.ma K (He.ga K "Program") "__add__")).dict), .func (PySem.W.fnOf "__add__" "Program.__add__" (defArgs s_Program___add__) (defBody s_Program___add__) (defScope s_Program___add__) .none ((VH.fdA K (He.ma K (He.ga K "Program") "__add__")).kwdefaults) ((VH.fdA K (He.ma K (He.ga K "Program") "__add__")).doc) ((VH.fdA K (He.ma K (He.ga K "Program") "__add__")).pyModule) ((VH.fdA K (He.ma K (He.ga K "Program") "__add__")).annotations) ((VH.fdA K (He.ma K (He.ga K "Program") "__add__")).code) ((VH.fdA K (He.ma K (He.ga K "Program") "__add__")).closureTuple)), ((VH.objA K (He.ma K (He.ga K "Program") "__add__")).slots)⟩ := VH.fn_is (c.fn 41 rfl rfl) (VH.allL_at (VH.chkL_at c.chk 5 rfl) 20 rfl)
theorem hf_c_Program___add__ {K : VH.Frag} (c : Says K) : PySem.W.codeIn K ((VH.fdA K (He.ma K (He.ga K "Program") "__add__")).code) "Program.__add__" = true := VH.allL_at (VH.chkL_at c.chk 5 rfl) 21 rfl
theorem hf_h_Program___add__ {K : VH.Frag} (c : Says K) : PySem.W.keepIn K (.ref (He.ma K (He.ga K "Program") "__add__")) = true := VH.allL_at (VH.chkL_at c.chk 5 rfl) 22 rfl
theorem hf_a_different_programs {K : VH.Frag} (c : Says K) : PySem.W.nsIn K mainGlobals "different_programs" = some (some (.ref (He.ga K "different_programs"))) := of_decide_eq_true (VH.allL_at (VH.chkL_at c.chk 5 rfl) 23 rfl)
theorem hf_l_different_programs {K : VH.Frag} (c : Says K) : K.lookup (He.ga K "different_programs") = some ⟨((VH.objA K (He.ga K "different_programs")).cls), ((VH.objA K (He.ga K "different_programs")).dict), .func (PySem.W.fnOf "different_programs" "different_programs" (defArgs s_different_programs) (defBody s_different_programs) (defScope s_different_programs) .none ((VH.fdA K (He.ga K "different_programs")).kwdefaults) ((VH.fdA K (He.ga K "different_programs")).doc) ((VH.fdA K (He.ga K "different_programs")).pyModule) ((VH.fdA K (He.ga K "different_programs")).annotations) ((VH.fdA K (He.ga K "different_programs")).code) ((VH.fdA K (He.ga K "different_programs")).closureTuple)), ((VH.objA K (He.ga K "different_programs")).slots)⟩ := VH.fn_is (c.fn 42 rfl rfl) (VH.allL_at (VH.chkL_at c.chk 5 rfl) 24 rfl)
theorem hf_c_different_programs {K : VH.Frag} (c : Says K) : PySem.W.codeIn K ((VH.fdA K (He.ga K "different_programs")).code) "different_programs" = true := VH.allL_at (VH.chkL_at c.chk 5 rfl) 25 rfl
theorem hf_h_different_programs {K : VH.Frag} (c : Says K) : PySem.W.keepIn K (.ref (He.ga K "different_programs")) = true := VH.allL_at (VH.chkL_at c.chk 5 rfl) 26 rfl
theorem hf_a__law_mixed {K : VH.Frag} (c : Says K) : PySem.W.nsIn K mainGlobals "_law_mixed" = some (some (.ref (He.ga K "_law_mixed"))) := of_decide_eq_true (VH.allL_at (VH.chkL_at c.chk 5 rfl) 27 rfl)
theorem hf_l__law_mixed {K : VH.Frag} (c : Says K) : K.lookup (He.ga K "_law_mixed") = some ⟨((VH.objA K (He.ga K "_law_mixed")).cls), ((VH.objA K (He.ga K "_law_mixed")).dict), .func (PySem.W.fnOf "_law_mixed" "_law_mixed" (defArgs s__law_mixed) (defBody s__law_mixed) (defScope s__law_mixed) .none ((VH.fdA K (He.ga K "_law_mixed")).kwdefaults) ((VH.fdA K (He.ga K "_law_mixed")).doc) ((VH.fdA K (He.ga K "_law_mixed")).pyModule) ((VH.fdA K (He.ga K "_law_mixed")).annotations) ((VH.fdA K (He.ga K "_law_mixed")).code) ((VH.fdA K (He.ga K "_law_mixed")).closureTuple)), ((VH.objA K (He.ga K "_law_mixed")).slots)⟩ := VH.fn_is (c.fn 43 rfl rfl) (VH.allL_at (VH.chkL_at c.chk 5 rfl) 28 rfl)
theorem hf_c__law_mixed {K : VH.Frag} (c : Says K) : PySem.W.codeIn K ((VH.fdA K (He.ga K "_law_mixed")).code) "_law_mixed" = true := VH.allL_at (VH.chkL_at c.chk 5 rfl) 29 rfl
theorem hf_h__law_mixed {K : VH.Frag} (c : Says K) : PySem.W.keepIn K (.ref (He.ga K "_law_mixed")) = true := VH.allL_at (VH.chkL_at c.chk 6 rfl) 0 rfl
theorem hf_a_law {K : VH.Frag} (c : Says K) : PySem.W.nsIn K mainGlobals "law" = some (some (.ref (He.ga K "law"))) := of_decide_eq_true (VH.allL_at (VH.chkL_at c.chk 6 rfl) 1 rfl)
theorem hf_l_law {K : VH.Frag} (c : Says K) : K.lookup (He.ga K "law") = some ⟨((VH.objA K (He.ga K "law")).cls), ((VH.objA K (He.ga K "law")).dict), .func (PySem.W.fnOf "law" "law" (defArgs s_law) (defBody s_law) (defScope s_law) .none ((VH.fdA K (He.ga K "law")).kwdefaults) ((VH.fdA K (He.ga K "law")).doc) ((VH.fdA K (He.ga K "law")).pyModule) ((VH.fdA K (He.ga K "law")).annotations) ((VH.fdA K (He.ga K "law")).code) ((VH.fdA K (He.ga K "law")).closureTuple)), ((VH.objA K (He.ga K "law")).slots)⟩ := VH.fn_is (c.fn 44 rfl rfl) (VH.allL_at (VH.chkL_at c.chk 6 rfl) 2 rfl)
theorem hf_c_law {K : VH.Frag} (c : Says K) : PySem.W.codeIn K ((VH.fdA K (He.ga K "law")).code) "law" = true := VH.allL_at (VH.chkL_at c.chk 6 rfl) 3 rfl
theorem hf_h_law {K : VH.Frag} (c : Says K) : PySem.W.keepIn K (.ref (He.ga K "law")) = true := VH.allL_at (VH.chkL_at c.chk 6 rfl) 4 rfl
theorem hf_pg_Program {K : VH.Frag} (c : Says K) : PySem.W.plainGet K (He.ga K "Program") Str.empty = true := VH.allL_at (VH.chkL_at c.chk 6 rfl) 5 rfl
theorem hf_hd_Program {K : VH.Frag} (c : Says K) : PySem.W.hasDictIn K (He.ga K "Program") = true := VH.allL_at (VH.chkL_at c.chk 6 rfl) 6 rfl
theorem hf_po_Program {K : VH.Frag} (c : Says K) : PySem.W.plainOver K (He.ga K "Program") = true := VH.allL_at (VH.chkL_at c.chk 6 rfl) 7 rfl
theorem hf_sa_Program {K : VH.Frag} (c : Says K) : PySem.W.findIn K (.ref (He.ga K "Program")) "__setattr__" = some (some (.builtin "object.__setattr__")) := of_decide_eq_true (VH.allL_at (VH.chkL_at c.chk 6 rfl) 8 rfl)
theorem hf_mk_Program {K : VH.Frag} (c : Says K) : PySem.W.makesIn K (He.ga K "Program") = true := VH.allL_at (VH.chkL_at c.chk 6 rfl) 9 rfl
theorem hf_kc_Program {K : VH.Frag} (c : Says K) : PySem.W.keepIn K (.ref (He.ga K "Program")) = true := VH.allL_at (VH.chkL_at c.chk 6 rfl) 10 rfl
theorem hf_in_Program {K : VH.Frag} (c : Says K) : PySem.W.findIn K (.ref (He.ga K "Program")) "__init__" = some (some (.ref (He.ma K (He.ga K "Program") "__init__"))) := of_decide_eq_true (VH.allL_at (VH.chkL_at c.chk 6 rfl) 11 rfl)
theorem hf_no_Program_rounds {K : VH.Frag} (c : Says K) : PySem.W.findIn K (.ref (He.ga K "Program")) "rounds" = some none := of_decide_eq_true (VH.allL_at (VH.chkL_at c.chk 6 rfl) 12 rfl)
theorem hf_me_Program___add__ {K : VH.Frag} (c : Says K) : PySem.W.findIn K (.ref (He.ga K "Program")) "__add__" = some (some (.ref (He.ma K (He.ga K "Program") "__add__"))) := of_decide_eq_true (VH.allL_at (VH.chkL_at c.chk 6 rfl) 13 rfl)
theorem hf_me_Program___eq__ {K : VH.Frag} (c : Says K) : PySem.W.findIn K (.ref (He.ga K "Program")) "__eq__" = some (some (.ref (He.ma K (He.ga K "Program") "__eq__"))) := of_decide_eq_true (VH.allL_at (VH.chkL_at c.chk 6 rfl) 14 rfl)
theorem hf_sf_Program {K : VH.Frag} (c : Says K) : PySem.W.selfFirst K (He.ga K "Program") = true := VH.allL_at (VH.chkL_at c.chk 6 rfl) 15 rfl
theorem hf_gs {K : VH.Frag} (c : Says K) : PySem.W.specialIn K (.builtin "object.__class__") "__get__" = some (some (.builtin "getset_descriptor.__get__")) := of_decide_eq_true (VH.allL_at (VH.chkL_at c.chk 6 rfl) 16 rfl)
theorem hf_tk {K : VH.Frag} (c : Says K) : PySem.W.takesIn K (.builtin "object.__class__") = some true := of_decide_eq_true (VH.allL_at (VH.chkL_at c.chk 6 rfl) 17 rfl)
theorem hf_cc_Program {K : VH.Frag} (c : Says K) : PySem.W.findIn K (.ref (He.ga K "Program")) "__class__" = some (some (.builtin "object.__class__")) := of_decide_eq_true (VH.allL_at (VH.chkL_at c.chk 6 rfl) 18 rfl)
theorem hf_mo_Program {K : VH.Frag} (c : Says K) : PySem.W.mroIn K (He.ga K "Program") (.type "object") = some true := of_decide_eq_true (VH.allL_at (VH.chkL_at c.chk 6 rfl) 19 rfl)
theorem hf_ki_Program_Program {K : VH.Frag} (c : Says K) : PySem.W.subIn K (.ref (He.ga K "Program")) (.ref (He.ga K "Program")) = some true := of_decide_eq_true (VH.allL_at (VH.chkL_at c.chk 6 rfl) 20 rfl)
theorem hf_ty_Program {K : VH.Frag} (c : Says K) : PySem.W.typeIn K (.ref (He.ga K "Program")) = some (.type "type") := of_decide_eq_true (VH.allL_at (VH.chkL_at c.chk 6 rfl) 21 rfl)
theorem hf_su_Program {K : VH.Frag} (c : Says K) : PySem.W.subIn K (.ref (He.ga K "Program")) (.ref (He.ga K "Program")) = some true := of_decide_eq_true (VH.allL_at (VH.chkL_at c.chk 6 rfl) 22 rfl)
theorem hf_ob_Program {K : VH.Frag} (c : Says K) : PySem.W.mroIn K (He.ga K "Program") (.type "object") = some true := of_decide_eq_true (VH.allL_at (VH.chkL_at c.chk 6 rfl) 23 rfl)
theorem hf_n_abs {K : VH.Frag} (c : Says K) : PySem.W.nsIn K mainGlobals "abs" = some none := of_decide_eq_true (VH.allL_at (VH.chkL_at c.chk 6 rfl) 24 rfl)
theorem hf_n_all {K : VH.Frag} (c : Says K) : PySem.W.nsIn K mainGlobals "all" = some none := of_decide_eq_true (VH.allL_at (VH.chkL_at c.chk 6 rfl) 25 rfl)
theorem hf_n_bool {K : VH.Frag} (c : Says K) : PySem.W.nsIn K mainGlobals "bool" = some none := of_decide_eq_true (VH.allL_at (VH.chkL_at c.chk 6 rfl) 26 rfl)
theorem hf_n_enumerate {K : VH.Frag} (c : Says K) : PySem.W.nsIn K mainGlobals "enumerate" = some none := of_decide_eq_true (VH.allL_at (VH.chkL_at c.chk 6 rfl) 27 rfl)
theorem hf_n_int {K : VH.Frag} (c : Says K) : PySem.W.nsIn K mainGlobals "int" = some none := of_decide_eq_true (VH.allL_at (VH.chkL_at c.chk 6 rfl) 28 rfl)
theorem hf_n_isinstance {K : VH.Frag} (c : Says K) : PySem.W.nsIn K mainGlobals "isinstance" = some none := of_decide_eq_true (VH.allL_at (VH.chkL_at c.chk 6 rfl) 29 rfl)
theorem hf_n_len {K : VH.Frag} (c : Says K) : PySem.W.nsIn K mainGlobals "len" = some none := of_decide_eq_true (VH.allL_at (VH.chkL_at c.chk 7 rfl) 0 rfl)
theorem hf_n_list {K : VH.Frag} (c : Says K) : PySem.W.nsIn K mainGlobals "list" = some none := of_decide_eq_true (VH.allL_at (VH.chkL_at c.chk 7 rfl) 1 rfl)
theorem hf_n_range {K : VH.Frag} (c : Says K) : PySem.W.nsIn K mainGlobals "range" = some none := of_decide_eq_true (VH.allL_at (VH.chkL_at c.chk 7 rfl) 2 rfl)
theorem hf_n_str {K : VH.Frag} (c : Says K) : PySem.W.nsIn K mainGlobals "str" = some none := of_decide_eq_true (VH.allL_at (VH.chkL_at c.chk 7 rfl) 3 rfl)
theorem hf_n_tuple {K : VH.Frag} (c : Says K) : PySem.W.nsIn K mainGlobals "tuple" = some none := of_decide_eq_true (VH.allL_at (VH.chkL_at c.chk 7 rfl) 4 rfl)
theorem hf_nc_Program {K : VH.Frag} (c : Says K) : PySem.W.isClsIn K (He.ga K "Program") = true := VH.allL_at (VH.chkL_at c.chk 7 rfl) 5 rfl
theorem hf_nNoneType_Program {K : VH.Frag} (c : Says K) : PySem.W.subIn K (.type "NoneType") (.ref (He.ga K "Program")) = some false := of_decide_eq_true (VH.allL_at (VH.chkL_at c.chk 7 rfl) 6 rfl)
theorem hf_nbool_Program {K : VH.Frag} (c : Says K) : PySem.W.subIn K (.type "bool") (.ref (He.ga K "Program")) = some false := of_decide_eq_true (VH.allL_at (VH.chkL_at c.chk 7 rfl) 7 rfl)
theorem hf_nint_Program {K : VH.Frag} (c : Says K) : PySem.W.subIn K (.type "int") (.ref (He.ga K "Program")) = some false := of_decide_eq_true (VH.allL_at (VH.chkL_at c.chk 7 rfl) 8 rfl)
theorem hf_nstr_Program {K : VH.Frag} (c : Says K) : PySem.W.subIn K (.type "str") (.ref (He.ga K "Program")) = some false := of_decide_eq_true (VH.allL_at (VH.chkL_at c.chk 7 rfl) 9 rfl)
theorem hf_ntuple_Program {K : VH.Frag} (c : Says K) : PySem.W.subIn K (.type "tuple") (.ref (He.ga K "Program")) = some false := of_decide_eq_true (VH.allL_at (VH.chkL_at c.chk 7 rfl) 10 rfl)
theorem hf_nlist_Program {K : VH.Frag} (c : Says K) : PySem.W.subIn K (.type "list") (.ref (He.ga K "Program")) = some false := of_decide_eq_true (VH.allL_at (VH.chkL_at c.chk 7 rfl) 11 rfl)
theorem hf_ndict_Program {K : VH.Frag} (c : Says K) : PySem.W.subIn K (.type "dict") (.ref (He.ga K "Program")) = some false := of_decide_eq_true (VH.allL_at (VH.chkL_at c.chk 7 rfl) 12 rfl)
theorem hf_aC_BadProgram {K : VH.Frag} (c : Says K) : PySem.W.nsIn K mainGlobals "BadProgram" = some (some (.ref (He.ga K "BadProgram"))) := of_decide_eq_true (VH.allL_at (VH.chkL_at c.chk 7 rfl) 13 rfl)
theorem hf_aC_BadStart {K : VH.Frag} (c : Says K) : PySem.W.nsIn K mainGlobals "BadStart" = some (some (.ref (He.ga K "BadStart"))) := of_decide_eq_true (VH.allL_at (VH.chkL_at c.chk 7 rfl) 14 rfl)
theorem hf_aC_BadNumber {K : VH.Frag} (c : Says K) : PySem.W.nsIn K mainGlobals "BadNumber" = some (some (.ref (He.ga K "BadNumber"))) := of_decide_eq_true (VH.allL_at (VH.chkL_at c.chk 7 rfl) 15 rfl)
theorem hf_aC_Mixed {K : VH.Frag} (c : Says K) : PySem.W.nsIn K mainGlobals "Mixed" = some (some (.ref (He.ga K "Mixed"))) := of_decide_eq_true (VH.allL_at (VH.chkL_at c.chk 7 rfl) 16 rfl)
theorem hf_eb_BadProgram {K : VH.Frag} (c : Says K) : PySem.W.subIn K (.ref (He.ga K "BadProgram")) (.type "BaseException") = some true := of_decide_eq_true (VH.allL_at (VH.chkL_at c.chk 7 rfl) 17 rfl)
theorem hf_et_BadProgram {K : VH.Frag} (c : Says K) : PySem.W.typeIn K (.ref (He.ga K "BadProgram")) = some (.type "type") := of_decide_eq_true (VH.allL_at (VH.chkL_at c.chk 7 rfl) 18 rfl)
theorem hf_ek_BadProgram {K : VH.Frag} (c : Says K) : PySem.W.keepIn K (.ref (He.ga K "BadProgram")) = true := VH.allL_at (VH.chkL_at c.chk 7 rfl) 19 rfl
theorem hf_ec_BadProgram {K : VH.Frag} (c : Says K) : PySem.W.isClsIn K (He.ga K "BadProgram") = true := VH.allL_at (VH.chkL_at c.chk 7 rfl) 20 rfl
theorem hf_es_BadProgram_BadProgram {K : VH.Frag} (c : Says K) : PySem.W.subIn K (.ref (He.ga K "BadProgram")) (.ref (He.ga K "BadProgram")) = some true := of_decide_eq_true (VH.allL_at (VH.chkL_at c.chk 7 rfl) 21 rfl)
theorem hf_es_BadStart_BadProgram {K : VH.Frag} (c : Says K) : PySem.W.subIn K (.ref (He.ga K "BadStart")) (.ref (He.ga K "BadProgram")) = some false := of_decide_eq_true (VH.allL_at (VH.chkL_at c.chk 7 rfl) 22 rfl)
theorem hf_es_BadNumber_BadProgram {K : VH.Frag} (c : Says K) : PySem.W.subIn K (.ref (He.ga K "BadNumber")) (.ref (He.ga K "BadProgram")) = some false := of_decide_eq_true (VH.allL_at (VH.chkL_at c.chk 7 rfl) 23 rfl)
theorem hf_es_Mixed_BadProgram {K : VH.Frag} (c : Says K) : PySem.W.subIn K (.ref (He.ga K "Mixed")) (.ref (He.ga K "BadProgram")) = some false := of_decide_eq_true (VH.allL_at (VH.chkL_at c.chk 7 rfl) 24 rfl)
theorem hf_xL_BadProgram {K : VH.Frag} (c : Says K) : K.lookup (He.ga K "BadProgram") = some (excClassObj ((VH.clsA K (He.ga K "BadProgram")).name) ((VH.clsA K (He.ga K "BadProgram")).qualname) (He.ga K "BadProgram") ((VH.clsA K (He.ga K "BadProgram")).ns) ((VH.clsA K (He.ga K "BadProgram")).bases) [.ref (VH.mroAt K (He.ga K "BadProgram") 1), .type "ValueError", .type "Exception", .type "BaseException", .type "object"] true ((VH.clsA K (He.ga K "BadProgram")).slotNames) ((VH.clsA K (He.ga K "BadProgram")).subclasses) ((VH.clsA K (He.ga K "BadProgram")).abstract) ((VH.clsA K (He.ga K "BadProgram")).collection) ((VH.objA K (He.ga K "BadProgram")).dict) (VH.slotA K (He.ga K "BadProgram") 0) (VH.slotA K (He.ga K "BadProgram") 1) (VH.slotA K (He.ga K "BadProgram") 2) (VH.slotA K (He.ga K "BadProgram") 3) (VH.slotA K (He.ga K "BadProgram") 5) "ValueError.__new__") := VH.exc_is (VH.allL_at (VH.chkL_at c.chk 7 rfl) 25 rfl)
theorem hf_xs_BadProgram {K : VH.Frag} (c : Says K) : PySem.W.findIn K (.ref (He.ga K "BadProgram")) "__setattr__" = some (some (.builtin "object.__setattr__")) := of_decide_eq_true (VH.allL_at (VH.chkL_at c.chk 7 rfl) 26 rfl)
theorem hf_xn0_BadProgram {K : VH.Frag} (c : Says K) : PySem.W.findIn K (.ref (He.ga K "BadProgram")) "place" = some none := of_decide_eq_true (VH.allL_at (VH.chkL_at c.chk 7 rfl) 27 rfl)
theorem hf_xi_BadProgram {K : VH.Frag} (c : Says K) : PySem.W.findIn K (.ref (He.ga K "BadProgram")) "__init__" = some (some (.ref (He.ma K (He.ga K "BadProgram") "__init__"))) := of_decide_eq_true (VH.allL_at (VH.chkL_at c.chk 7 rfl) 28 rfl)
theorem hf_xt_BadProgram {K : VH.Frag} (c : Says K) : PySem.W.typeIn K (.ref (He.ma K (He.ga K "BadProgram") "__init__")) = some (.type "function") := of_decide_eq_true (VH.allL_at (VH.chkL_at c.chk 7 rfl) 29 rfl)
theorem hf_xu_BadProgram {K : VH.Frag} (c : Says K) : PySem.W.ks_superIn K (He.ga K "BadProgram") (He.ga K "BadProgram") "__init__" = some (some (.builtin "ValueError.__init__")) := of_decide_eq_true (VH.allL_at (VH.chkL_at c.chk 8 rfl) 0 rfl)
theorem hf_xv_BadProgram {K : VH.Frag} (c : Says K) : PySem.W.subIn K (.ref (He.ga K "BadProgram")) (.type "ValueError") = some true := of_decide_eq_true (VH.allL_at (VH.chkL_at c.chk 8 rfl) 1 rfl)
theorem hf_xr_BadProgram {K : VH.Frag} (c : Says K) : PySem.W.mroIn K (He.ga K "BadProgram") (.ref (He.ga K "BadProgram")) = some true := of_decide_eq_true (VH.allL_at (VH.chkL_at c.chk 8 rfl) 2 rfl)
theorem hf_xl_BadProgram {K : VH.Frag} (c : Says K) : K.lookup (He.ma K (He.ga K "BadProgram") "__init__") = some ⟨((VH.objA K (He.ma K (He.ga K "BadProgram") "__init__")).cls), ((VH.objA K (He.ma K (He.ga K "BadProgram") "__init__")).dict), .func (PySem.W.ksFn "__init__" "BadProgram.__init__" (defArgs (inClass (top 20) 0)) (defBody (inClass (top 20) 0)) (defScope (inClass (top 20) 0)) .none ((VH.fdA K (He.ma K (He.ga K "BadProgram") "__init__")).kwdefaults) ((VH.fdA K (He.ma K (He.ga K "BadProgram") "__init__")).doc) ((VH.fdA K (He.ma K (He.ga K "BadProgram") "__init__")).pyModule) ((VH.fdA K (He.ma K (He.ga K "BadProgram") "__init__")).annotations) (.ref (VH.refV (VH.fdA K (He.ma K (He.ga K "BadProgram") "__init__")).code)) ((VH.fdA K (He.ma K (He.ga K "BadProgram") "__init__")).closureTuple) (VH.ccA K (He.ma K (He.ga K "BadProgram") "__init__"))), ((VH.objA K (He.ma K (He.ga K "BadProgram") "__init__")).slots)⟩ := VH.ks_is (c.fn 45 rfl rfl) (VH.allL_at (VH.chkL_at c.chk 8 rfl) 3 rfl)
theorem hf_xd_BadProgram {K : VH.Frag} (c : Says K) : PySem.W.codeIn K (.ref (VH.refV (VH.fdA K (He.ma K (He.ga K "BadProgram") "__init__")).code)) "BadProgram.__init__" = true := VH.allL_at (VH.chkL_at c.chk 8 rfl) 4 rfl
theorem hf_xo_BadProgram {K : VH.Frag} (c : Says K) : K.lookup (VH.refV (VH.fdA K (He.ma K (He.ga K "BadProgram") "__init__")).code) = some ⟨((VH.objA K (VH.refV (VH.fdA K (He.ma K (He.ga K "BadProgram") "__init__")).code)).cls), ((VH.objA K (VH.refV (VH.fdA K (He.ma K (He.ga K "BadProgram") "__init__")).code)).dict), .fields (VH.fldA K (VH.refV (VH.fdA K (He.ma K (He.ga K "BadProgram") "__init__")).code)), ((VH.objA K (VH.refV (VH.fdA K (He.ma K (He.ga K "BadProgram") "__init__")).code)).slots)⟩ := VH.cod_is (VH.allL_at (VH.chkL_at c.chk 8 rfl) 5 rfl)
theorem hf_xw_BadProgram {K : VH.Frag} (c : Says K) : (VH.fldA K (VH.refV (VH.fdA K (He.ma K (He.ga K "BadProgram") "__init__")).code))[2]? = some (.str (VH.strV ((VH.fldA K (VH.refV (VH.fdA K (He.ma K (He.ga K "BadProgram") "__init__")).code)).toList.getD 2 .none)) (VH.tokV ((VH.fldA K (VH.refV (VH.fdA K (He.ma K (He.ga K "BadProgram") "__init__")).code)).toList.getD 2 .none))) := of_decide_eq_true (VH.allL_at (VH.chkL_at c.chk 8 rfl) 6 rfl)
theorem hf_xp_BadProgram {K : VH.Frag} (c : Says K) : (((PySem.Challenge.rw_weirlines_k18_refused_program_asks).prog.main.file : Str) == (VH.strV ((VH.fldA K (VH.refV (VH.fdA K (He.ma K (He.ga K "BadProgram") "__init__")).code)).toList.getD 2 .none))) = true := VH.allL_at (VH.chkL_at c.chk 8 rfl) 7 rfl
theorem hf_xq_BadProgram {K : VH.Frag} (c : Says K) : ((PySem.Challenge.rw_weirlines_k18_refused_program_asks).prog.main.scope.names.lookup ("super" : Str)).isSome = false := by first | rfl | decide +kernel
theorem hf_xe_BadProgram {K : VH.Frag} (c : Says K) : K.lookup (VH.ccA K (He.ma K (He.ga K "BadProgram") "__init__")) = some ⟨((VH.objA K (VH.ccA K (He.ma K (He.ga K "BadProgram") "__init__"))).cls), ((VH.objA K (VH.ccA K (He.ma K (He.ga K "BadProgram") "__init__"))).dict), .cell (some (.ref (He.ga K "BadProgram"))), ((VH.objA K (VH.ccA K (He.ma K (He.ga K "BadProgram") "__init__"))).slots)⟩ := VH.cel_is (VH.allL_at (VH.chkL_at c.chk 8 rfl) 8 rfl)
theorem hf_xg_BadProgram {K : VH.Frag} (c : Says K) : PySem.W.nsIn K mainGlobals "super" = some none := of_decide_eq_true (VH.allL_at (VH.chkL_at c.chk 8 rfl) 9 rfl)
theorem hf_xh_BadProgram {K : VH.Frag} (c : Says K) : PySem.W.nsIn K PySem.cStatics "thirdparty.any" = some none := of_decide_eq_true (VH.allL_at (VH.chkL_at c.chk 8 rfl) 10 rfl)
theorem hf_eb_BadStart {K : VH.Frag} (c : Says K) : PySem.W.subIn K (.ref (He.ga K "BadStart")) (.type "BaseException") = some true := of_decide_eq_true (VH.allL_at (VH.chkL_at c.chk 8 rfl) 11 rfl)
theorem hf_et_BadStart {K : VH.Frag} (c : Says K) : PySem.W.typeIn K (.ref (He.ga K "BadStart")) = some (.type "type") := of_decide_eq_true (VH.allL_at (VH.chkL_at c.chk 8 rfl) 12 rfl)
theorem hf_ek_BadStart {K : VH.Frag} (c : Says K) : PySem.W.keepIn K (.ref (He.ga K "BadStart")) = true := VH.allL_at (VH.chkL_at c.chk 8 rfl) 13 rfl
theorem hf_ec_BadStart {K : VH.Frag} (c : Says K) : PySem.W.isClsIn K (He.ga K "BadStart") = true := VH.allL_at (VH.chkL_at c.chk 8 rfl) 14 rfl
theorem hf_es_BadProgram_BadStart {K : VH.Frag} (c : Says K) : PySem.W.subIn K (.ref (He.ga K "BadProgram")) (.ref (He.ga K "BadStart")) = some false := of_decide_eq_true (VH.allL_at (VH.chkL_at c.chk 8 rfl) 15 rfl)
theorem hf_es_BadStart_BadStart {K : VH.Frag} (c : Says K) : PySem.W.subIn K (.ref (He.ga K "BadStart")) (.ref (He.ga K "BadStart")) = some true := of_decide_eq_true (VH.allL_at (VH.chkL_at c.chk 8 rfl) 16 rfl)
theorem hf_es_BadNumber_BadStart {K : VH.Frag} (c : Says K) : PySem.W.subIn K (.ref (He.ga K "BadNumber")) (.ref (He.ga K "BadStart")) = some false := of_decide_eq_true (VH.allL_at (VH.chkL_at c.chk 8 rfl) 17 rfl)
theorem hf_es_Mixed_BadStart {K : VH.Frag} (c : Says K) : PySem.W.subIn K (.ref (He.ga K "Mixed")) (.ref (He.ga K "BadStart")) = some false := of_decide_eq_true (VH.allL_at (VH.chkL_at c.chk 8 rfl) 18 rfl)
theorem hf_xm_BadStart {K : VH.Frag} (c : Says K) : PySem.W.excIn K (He.ga K "BadStart") veMro "ValueError.__new__" = true := VH.allL_at (VH.chkL_at c.chk 8 rfl) 19 rfl
theorem hf_eb_BadNumber {K : VH.Frag} (c : Says K) : PySem.W.subIn K (.ref (He.ga K "BadNumber")) (.type "BaseException") = some true := of_decide_eq_true (VH.allL_at (VH.chkL_at c.chk 8 rfl) 20 rfl)
theorem hf_et_BadNumber {K : VH.Frag} (c : Says K) : PySem.W.typeIn K (.ref (He.ga K "BadNumber")) = some (.type "type") := of_decide_eq_true (VH.allL_at (VH.chkL_at c.chk 8 rfl) 21 rfl)
theorem hf_ek_BadNumber {K : VH.Frag} (c : Says K) : PySem.W.keepIn K (.ref (He.ga K "BadNumber")) = true := VH.allL_at (VH.chkL_at c.chk 8 rfl) 22 rfl
theorem hf_xm_BadNumber {K : VH.Frag} (c : Says K) : PySem.W.excIn K (He.ga K "BadNumber") veMro "ValueError.__new__" = true := VH.allL_at (VH.chkL_at c.chk 8 rfl) 23 rfl
theorem hf_eb_Mixed {K : VH.Frag} (c : Says K) : PySem.W.subIn K (.ref (He.ga K "Mixed")) (.type "BaseException") = some true := of_decide_eq_true (VH.allL_at (VH.chkL_at c.chk 8 rfl) 24 rfl)
theorem hf_et_Mixed {K : VH.Frag} (c : Says K) : PySem.W.typeIn K (.ref (He.ga K "Mixed")) = some (.type "type") := of_decide_eq_true (VH.allL_at (VH.chkL_at c.chk 8 rfl) 25 rfl)
theorem hf_ek_Mixed {K : VH.Frag} (c : Says K) : PySem.W.keepIn K (.ref (He.ga K "Mixed")) = true := VH.allL_at (VH.chkL_at c.chk 8 rfl) 26 rfl
theorem hf_ec_Mixed {K : VH.Frag} (c : Says K) : PySem.W.isClsIn K (He.ga K "Mixed") = true := VH.allL_at (VH.chkL_at c.chk 8 rfl) 27 rfl
theorem hf_es_BadProgram_Mixed {K : VH.Frag} (c : Says K) : PySem.W.subIn K (.ref (He.ga K "BadProgram")) (.ref (He.ga K "Mixed")) = some false := of_decide_eq_true (VH.allL_at (VH.chkL_at c.chk 8 rfl) 28 rfl)
theorem hf_es_BadStart_Mixed {K : VH.Frag} (c : Says K) : PySem.W.subIn K (.ref (He.ga K "BadStart")) (.ref (He.ga K "Mixed")) = some false := of_decide_eq_true (VH.allL_at (VH.chkL_at c.chk 8 rfl) 29 rfl)
theorem hf_es_BadNumber_Mixed {K : VH.Frag} (c : Says K) : PySem.W.subIn K (.ref (He.ga K "BadNumber")) (.ref (He.ga K "Mixed")) = some false := of_decide_eq_true (VH.allL_at (VH.chkL_at c.chk 9 rfl) 0 rfl)
theorem hf_es_Mixed_Mixed {K : VH.Frag} (c : Says K) : PySem.W.subIn K (.ref (He.ga K "Mixed")) (.ref (He.ga K "Mixed")) = some true := of_decide_eq_true (VH.allL_at (VH.chkL_at c.chk 9 rfl) 1 rfl)
theorem hf_xm_Mixed {K : VH.Frag} (c : Says K) : PySem.W.excIn K (He.ga K "Mixed") veMro "ValueError.__new__" = true := VH.allL_at (VH.chkL_at c.chk 9 rfl) 2 rfl
theorem hf_ra_BadProgram {K : VH.Frag} (c : Says K) : PySem.W.findIn K (.ref (He.ga K "BadProgram")) "__getattribute__" = some (some (.builtin "BaseException.__getattribute__")) := of_decide_eq_true (VH.allL_at (VH.chkL_at c.chk 9 rfl) 3 rfl)
theorem hf_rb_BadProgram {K : VH.Frag} (c : Says K) : PySem.W.findIn K (.ref (He.ga K "BadProgram")) "__getattr__" = some none := of_decide_eq_true (VH.allL_at (VH.chkL_at c.chk 9 rfl) 4 rfl)
theorem hf_rc_BadProgram {K : VH.Frag} (c : Says K) : PySem.W.hasDictIn K (He.ga K "BadProgram") = true := VH.allL_at (VH.chkL_at c.chk 9 rfl) 5 rfl
theorem hf_rn_BadProgram_place {K : VH.Frag} (c : Says K) : PySem.W.findIn K (.ref (He.ga K "BadProgram")) "place" = some none := of_decide_eq_true (VH.allL_at (VH.chkL_at c.chk 9 rfl) 6 rfl)
theorem hf_g_MOST_ROUNDS {K : VH.Frag} (c : Says K) : PySem.W.nsIn K mainGlobals "MOST_ROUNDS" = some (some (.int 12 (VH.tokO (PySem.W.nsIn K mainGlobals "MOST_ROUNDS")))) := of_decide_eq_true (VH.allL_at (VH.chkL_at c.chk 9 rfl) 7 rfl)
theorem hf_g_RIGHT {K : VH.Frag} (c : Says K) : PySem.W.nsIn K mainGlobals "RIGHT" = some (some (.ref (He.ga K "RIGHT"))) := of_decide_eq_true (VH.allL_at (VH.chkL_at c.chk 9 rfl) 8 rfl)
theorem hf_o_RIGHT {K : VH.Frag} (c : Says K) : K.lookup (He.ga K "RIGHT") = some ⟨.type "tuple", ((VH.objA K (He.ga K "RIGHT")).dict), .seq #[.str "right" (VH.tokAt K (He.ga K "RIGHT") 0)] (VH.seqN K (He.ga K "RIGHT")), ((VH.objA K (He.ga K "RIGHT")).slots)⟩ := VH.tup_is (VH.allL_at (VH.chkL_at c.chk 9 rfl) 9 rfl)
theorem hf_g_LEFT {K : VH.Frag} (c : Says K) : PySem.W.nsIn K mainGlobals "LEFT" = some (some (.ref (He.ga K "LEFT"))) := of_decide_eq_true (VH.allL_at (VH.chkL_at c.chk 9 rfl) 10 rfl)
theorem hf_o_LEFT {K : VH.Frag} (c : Says K) : K.lookup (He.ga K "LEFT") = some ⟨.type "tuple", ((VH.objA K (He.ga K "LEFT")).dict), .seq #[.str "left" (VH.tokAt K (He.ga K "LEFT") 0)] (VH.seqN K (He.ga K "LEFT")), ((VH.objA K (He.ga K "LEFT")).slots)⟩ := VH.tup_is (VH.allL_at (VH.chkL_at c.chk 9 rfl) 11 rfl)
theorem hf_g_MOST_EVERY {K : VH.Frag} (c : Says K) : PySem.W.nsIn K mainGlobals "MOST_EVERY" = some (some (.int 4 (VH.tokO (PySem.W.nsIn K mainGlobals "MOST_EVERY")))) := of_decide_eq_true (VH.allL_at (VH.chkL_at c.chk 9 rfl) 12 rfl)
theorem hf_g_MOST_LENGTH {K : VH.Frag} (c : Says K) : PySem.W.nsIn K mainGlobals "MOST_LENGTH" = some (some (.int 400 (VH.tokO (PySem.W.nsIn K mainGlobals "MOST_LENGTH")))) := of_decide_eq_true (VH.allL_at (VH.chkL_at c.chk 9 rfl) 13 rfl)
theorem hf_g_MOST_LAPS {K : VH.Frag} (c : Says K) : PySem.W.nsIn K mainGlobals "MOST_LAPS" = some (some (.int 200 (VH.tokO (PySem.W.nsIn K mainGlobals "MOST_LAPS")))) := of_decide_eq_true (VH.allL_at (VH.chkL_at c.chk 9 rfl) 14 rfl)
theorem hf_g_STARTS {K : VH.Frag} (c : Says K) : PySem.W.nsIn K mainGlobals "STARTS" = some (some (.ref (He.ga K "STARTS"))) := of_decide_eq_true (VH.allL_at (VH.chkL_at c.chk 9 rfl) 15 rfl)
theorem hf_o_STARTS {K : VH.Frag} (c : Says K) : K.lookup (He.ga K "STARTS") = some ⟨.type "tuple", ((VH.objA K (He.ga K "STARTS")).dict), .seq #[.str "ones" (VH.tokAt K (He.ga K "STARTS") 0), .str "first" (VH.tokAt K (He.ga K "STARTS") 1), .str "last" (VH.tokAt K (He.ga K "STARTS") 2), .str "stairs" (VH.tokAt K (He.ga K "STARTS") 3)] (VH.seqN K (He.ga K "STARTS")), ((VH.objA K (He.ga K "STARTS")).slots)⟩ := VH.tup_is (VH.allL_at (VH.chkL_at c.chk 9 rfl) 16 rfl)
theorem hf_g_MOST_KINDS {K : VH.Frag} (c : Says K) : PySem.W.nsIn K mainGlobals "MOST_KINDS" = some (some (.int 5 (VH.tokO (PySem.W.nsIn K mainGlobals "MOST_KINDS")))) := of_decide_eq_true (VH.allL_at (VH.chkL_at c.chk 9 rfl) 17 rfl)
theorem hf_g_MOST_LONG {K : VH.Frag} (c : Says K) : PySem.W.nsIn K mainGlobals "MOST_LONG" = some (some (.int 3 (VH.tokO (PySem.W.nsIn K mainGlobals "MOST_LONG")))) := of_decide_eq_true (VH.allL_at (VH.chkL_at c.chk 9 rfl) 18 rfl)
theorem hall {K : VH.Frag} {w : World} {h : Heap} {mg : Str → Option Value} {fa : Addr} (c : Says K) (X : K.In h) (G : h.Ns mainGlobals mg) (hfa : mg "law" = some (.ref fa)) :
    ∃ fd : FuncData, (∀ (s : Shared) (v : Value), BindsTo s fd ⟨[v], []⟩ [("_law_script", v)]) ∧ ∀ base : Heap, K.In base → base.Ns mainGlobals mg → FnOk (PySem.Challenge.rw_weirlines_k18_refused_program_asks).prog w K mg base (L2.CX (PySem.Challenge.rw_weirlines_k18_refused_program_asks).prog w) 8 fa fd ["_law_script"] (spLaw K) :=
  all_mk (l := PySem.Challenge.rw_weirlines_k18_refused_program_asks) X G hfa (hf_aC_Program c) (hf_a__law_draw c) (hf_l__law_draw c) (hf_c__law_draw c) (hf_h__law_draw c) (hf_a__law_rounds c) (hf_l__law_rounds c) (hf_c__law_rounds c) (hf_h__law_rounds c) (hf_a_is_whole c) (hf_l_is_whole c) (hf_c_is_whole c) (hf_h_is_whole c) (hf_a_is_round c) (hf_l_is_round c) (hf_c_is_round c) (hf_h_is_round c) (hf_a_Program___init__ c) (hf_i_Program___init__ c) (hf_l_Program___init__ c) (hf_c_Program___init__ c) (hf_h_Program___init__ c) (hf_a_check_program c) (hf_l_check_program c) (hf_c_check_program c) (hf_h_check_program c) (hf_a_check_length c) (hf_l_check_length c) (hf_c_check_length c) (hf_h_check_length c) (hf_a_check_basin c) (hf_l_check_basin c) (hf_c_check_basin c) (hf_h_check_basin c) (hf_a_gives c) (hf_l_gives c) (hf_c_gives c) (hf_h_gives c) (hf_a_got c) (hf_l_got c) (hf_c_got c) (hf_h_got c) (hf_a_is_even_handed c) (hf_l_is_even_handed c) (hf_c_is_even_handed c) (hf_h_is_even_handed c) (hf_a_stretches c) (hf_l_stretches c) (hf_c_stretches c) (hf_h_stretches c) (hf_a_check_laps c) (hf_l_check_laps c) (hf_c_check_laps c) (hf_h_check_laps c) (hf_a_left_behind c) (hf_l_left_behind c) (hf_c_left_behind c) (hf_h_left_behind c) (hf_a_judge_laps c) (hf_l_judge_laps c) (hf_c_judge_laps c) (hf_h_judge_laps c) (hf_a_is_part c) (hf_l_is_part c) (hf_c_is_part c) (hf_h_is_part c) (hf_a_common c) (hf_l_common c) (hf_c_common c) (hf_h_common c) (hf_a_part c) (hf_l_part c) (hf_t_part c) (hf_c_part c) (hf_h_part c) (hf_a_as_part c) (hf_l_as_part c) (hf_c_as_part c) (hf_h_as_part c) (hf_a_check_volumes c) (hf_l_check_volumes c) (hf_c_check_volumes c) (hf_h_check_volumes c) (hf_a_lapped c) (hf_l_lapped c) (hf_c_lapped c) (hf_h_lapped c) (hf_a_lap_limit c) (hf_l_lap_limit c) (hf_c_lap_limit c) (hf_h_lap_limit c) (hf_a_moved c) (hf_l_moved c) (hf_c_moved c) (hf_h_moved c) (hf_a_lap_recurrence c) (hf_l_lap_recurrence c) (hf_c_lap_recurrence c) (hf_h_lap_recurrence c) (hf_a__law_asked c) (hf_l__law_asked c) (hf_c__law_asked c) (hf_h__law_asked c) (hf_a_turned_back c) (hf_l_turned_back c) (hf_c_turned_back c) (hf_h_turned_back c) (hf_a_straightened c) (hf_l_straightened c) (hf_c_straightened c) (hf_h_straightened c) (hf_a_check_programs c) (hf_l_check_programs c) (hf_c_check_programs c) (hf_h_check_programs c) (hf_a_tidy_program c) (hf_l_tidy_program c) (hf_c_tidy_program c) (hf_h_tidy_program c) (hf_a_judge_even c) (hf_l_judge_even c) (hf_c_judge_even c) (hf_h_judge_even c) (hf_a_check_start c) (hf_l_check_start c) (hf_c_check_start c) (hf_h_check_start c) (hf_a_recurrence c) (hf_l_recurrence c) (hf_c_recurrence c) (hf_h_recurrence c) (hf_a_judge_programs c) (hf_l_judge_programs c) (hf_c_judge_programs c) (hf_h_judge_programs c) (hf_a_judge_later c) (hf_l_judge_later c) (hf_c_judge_later c) (hf_h_judge_later c) (hf_a_amount c) (hf_l_amount c) (hf_c_amount c) (hf_h_amount c) (hf_a_amounts c) (hf_l_amounts c) (hf_c_amounts c) (hf_h_amounts c) (hf_a_check_kinds c) (hf_l_check_kinds c) (hf_c_check_kinds c) (hf_h_check_kinds c) (hf_a_check_all c) (hf_l_check_all c) (hf_c_check_all c) (hf_h_check_all c) (hf_a_few_rounds c) (hf_l_few_rounds c) (hf_c_few_rounds c) (hf_h_few_rounds c) (hf_a__law_alone c) (hf_l__law_alone c) (hf_c__law_alone c) (hf_h__law_alone c) (hf_a_Program___eq__ c) (hf_i_Program___eq__ c) (hf_l_Program___eq__ c) (hf_c_Program___eq__ c) (hf_h_Program___eq__ c) (hf_a_Program___add__ c) (hf_i_Program___add__ c) (hf_l_Program___add__ c) (hf_c_Program___add__ c) (hf_h_Program___add__ c) (hf_a_different_programs c) (hf_l_different_programs c) (hf_c_different_programs c) (hf_h_different_programs c) (hf_a__law_mixed c) (hf_l__law_mixed c) (hf_c__law_mixed c) (hf_h__law_mixed c) (hf_a_law c) (hf_l_law c) (hf_c_law c) (hf_h_law c) (hf_pg_Program c) (hf_hd_Program c) (hf_po_Program c) (hf_sa_Program c) (hf_mk_Program c) (hf_kc_Program c) (hf_in_Program c) (hf_no_Program_rounds c) (hf_me_Program___add__ c) (hf_me_Program___eq__ c) (hf_sf_Program c) (hf_gs c) (hf_tk c) (hf_cc_Program c) (hf_mo_Program c) (hf_ki_Program_Program c) (hf_ty_Program c) (hf_su_Program c) (hf_ob_Program c) (hf_n_abs c) (hf_n_all c) (hf_n_bool c) (hf_n_enumerate c) (hf_n_int c) (hf_n_isinstance c) (hf_n_len c) (hf_n_list c) (hf_n_range c) (hf_n_str c) (hf_n_tuple c) (hf_nc_Program c) (hf_nNoneType_Program c) (hf_nbool_Program c) (hf_nint_Program c) (hf_nstr_Program c) (hf_ntuple_Program c) (hf_nlist_Program c) (hf_ndict_Program c) (hf_aC_BadProgram c) (hf_aC_BadStart c) (hf_aC_BadNumber c) (hf_aC_Mixed c) (hf_eb_BadProgram c) (hf_et_BadProgram c) (hf_ek_BadProgram c) (hf_ec_BadProgram c) (hf_es_BadProgram_BadProgram c) (hf_es_BadStart_BadProgram c) (hf_es_BadNumber_BadProgram c) (hf_es_Mixed_BadProgram c) (hf_xL_BadProgram c) (hf_xs_BadProgram c) (hf_xn0_BadProgram c) (hf_xi_BadProgram c) (hf_xt_BadProgram c) (hf_xu_BadProgram c) (hf_xv_BadProgram c) (hf_xr_BadProgram c) (hf_xl_BadProgram c) (hf_xd_BadProgram c) (hf_xo_BadProgram c) (hf_xw_BadProgram c) (hf_xp_BadProgram c) (hf_xq_BadProgram c) (hf_xe_BadProgram c) (hf_xg_BadProgram c) (hf_xh_BadProgram c) (hf_eb_BadStart c) (hf_et_BadStart c) (hf_ek_BadStart c) (hf_ec_BadStart c) (hf_es_BadProgram_BadStart c) (hf_es_BadStart_BadStart c) (hf_es_BadNumber_BadStart c) (hf_es_Mixed_BadStart c) (hf_xm_BadStart c) (hf_eb_BadNumber c) (hf_et_BadNumber c) (hf_ek_BadNumber c) (hf_xm_BadNumber c) (hf_eb_Mixed c) (hf_et_Mixed c) (hf_ek_Mixed c) (hf_ec_Mixed c) (hf_es_BadProgram_Mixed c) (hf_es_BadStart_Mixed c) (hf_es_BadNumber_Mixed c) (hf_es_Mixed_Mixed c) (hf_xm_Mixed c) (hf_ra_BadProgram c) (hf_rb_BadProgram c) (hf_rc_BadProgram c) (hf_rn_BadProgram_place c) (hf_g_MOST_ROUNDS c) (hf_g_RIGHT c) (hf_o_RIGHT c) (hf_g_LEFT c) (hf_o_LEFT c) (hf_g_MOST_EVERY c) (hf_g_MOST_LENGTH c) (hf_g_MOST_LAPS c) (hf_g_STARTS c) (hf_o_STARTS c) (hf_g_MOST_KINDS c) (hf_g_MOST_LONG c) (fun ns _ _ => law_true ns)
end K18
open PySem PySem.W PySem.Calls PyProof.Rows
set_option maxRecDepth 100000 in
set_option maxHeartbeats 0 in
theorem PySem.Challenge.cw_weirlines_k18_refused_program_asks_holds : PySem.Challenge.rw_weirlines_k18_refused_program_asks.Holds := by
  w_on; o_law
  refine HandSHeadRun.head_any (r := K18.hR) (q := K18.hq) (H := K18.hk) (ob := K18.hob) (M := 8192) (loose := ["Evidence", "part", "Recurrence", "LapsDone", "LapsLeft", "LapRecurrence", "EvenAlways", "Parted", "SameAlways", "FirstUnlike", "Later", "FewRounds", "Program"]) (d := HandSHeadRun.topDef K18.hR.prog 111) (kwd := []) K18.hob_eq
    (by kernel_rfl) (fun s => by kernel_rfl) K18.hrun (by kernel_rfl) (by kernel_rfl) (by kernel_rfl) (by rfl) (by first | assumption | decide +kernel) (by decide +kernel) ⟨rfl, rfl, rfl, rfl, rfl, by decide +kernel⟩ ?hw ?hc
  case hw => w_witness2
  case hc =>
    refine VH.walk_ofBE (l := PySem.Challenge.rw_weirlines_k18_refused_program_asks) (n := 63) (k := 8) (x := "_law_script") (CX := fun w => L2.CX (PySem.Challenge.rw_weirlines_k18_refused_program_asks).prog w) (sp := fun K => VL.spLaw K) rfl (by decide) (by kernel_rfl) ⟨rfl, by decide, by decide⟩ ?F (fun _ _ a ns hl hb _ hS => ⟨a, ns, rfl, hS, hl, hb, fun _ => rfl⟩) fun _ _ _ _ _ z => VL.noCX z
    intro w mg fa h Y G hmg0
    obtain ⟨K, KX, c⟩ := Y
    have hmg : mg ("law" : PySem.Str) = some (.ref fa) := by
      have e : (HandSHeadRun.topDef K18.hR.prog 111).name = ("law" : PySem.Str) := by kernel_rfl
      rw [← e]
      exact hmg0
    exact ⟨K, KX, K18.hall c KX G hmg⟩
#print axioms PySem.Challenge.cw_weirlines_k18_refused_program_asks_holds
