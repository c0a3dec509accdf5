import PyProof.Rows.All
import Wide.All
import OpenK.AllK
import Wide.FinOn
import KE.KStateDown
import HandS.ForMost
import HandS.ForExc
import HandS.ExcCtx
import HandS.ExcIs
import HandS.ExcInit
import HandS.ExcInitHot
import HandS.HotCalls
import HandS.IsInst
import HandS.Defaults
import HandS.Head0
import HandS.Head1
import HandS.Head2
import HandS.HeadEnd
import HandS.HeadHook1
import HandS.HeadHook2
import HandS.SetFor
import HandS.More
import HandS.Flow
import HandS.Text
import HandS.CallSlots
import HandS.TupAny
import HandS.TupMul
import HandS.Style
import HandS.FStr
import HandS.StrMore
import HandS.Conv
import HandS.Walk
import HandS.RevTup
import HandS.RevRange
import KE.GoesRev
import HandS.Rev
import PySem.Challenge.RW_passkeep_k41_slots
set_option Elab.async false
set_option linter.all false
set_option maxRecDepth 100000
set_option maxHeartbeats 0
namespace Pk
open PySem PySem.Spec PyProof.Rows L2
abbrev FaB : Type := PySem.W.Frag → Bool
abbrev ga := He.ga
abbrev ma := He.ma
def obsB (fa : List FaB) (fn : List He.DefD) (K : PySem.W.Frag) : He.AlD := ((fa.all fun f => f K) && fn.all fun d => d.ok K, fn.map fun d => He.fnW K d.at_)
def SaysB (fa : List FaB) (fn : List He.DefD) (K : PySem.W.Frag) : Prop := obsB fa fn K = He.valD fn
def obsBG (as : List Addr) (fa : List FaB) (fn : List He.DefD) (g : Addr → Option Obj) : He.AlD := obsB fa fn (He.frG g as)
def hookB (as : List Addr) (fa : List FaB) (fn : List He.DefD) : PySem.W.Hook where
  α := He.AlD
  obs := fun s => obsBG as fa fn s.heap.get?
  val := fun _ => He.valD fn
  says := fun _ h => ∃ K : PySem.W.Frag, K.In h ∧ SaysB fa fn K
  of := fun _ _ e => ⟨_, He.frG_in, e⟩
  keeps := fun _ _ _ ⟨K, hK, c⟩ k => ⟨K, PySem.W.Frag.In.keeps hK k, c⟩
theorem obsBG_eq {as : List Addr} {fa : List FaB} {fn : List He.DefD} {g : Addr → Option Obj} {s : Shared} (h : ∀ a, g a = s.heap.get? a) :
    obsBG as fa fn g = (hookB as fa fn).obs s := by
  have same : g = s.heap.get? := funext h
  subst same
  rfl
section
variable {fa : List FaB} {fn : List He.DefD} {K : PySem.W.Frag}
theorem SaysB.both (c : SaysB fa fn K) : (fa.all fun f => f K) = true ∧ (fn.all fun d => d.ok K) = true :=
  Bool.and_eq_true_iff.mp (congrArg Prod.fst c)
theorem SaysB.fact (c : SaysB fa fn K) (i : Nat) {f : FaB} (h : fa[i]? = some f := by rfl) : f K = true :=
  List.all_eq_true.mp c.both.1 f (List.mem_of_getElem? h)
theorem SaysB.def_ (c : SaysB fa fn K) (i : Nat) {d : He.DefD} (h : fn[i]? = some d := by rfl) :
    ∃ fd, FunD K d.name d.qual d.params d.body d.scope (d.dvs K) (d.kws K) (He.fAd K d.at_) fd := by
  have m : d ∈ fn := List.mem_of_getElem? h
  have e : fn.map (fun d => He.fnW K d.at_) = fn.map He.DefD.val := congrArg Prod.snd c
  exact He.DefD.funD (List.map_inj_left.mp e d m) (List.all_eq_true.mp c.both.2 d m)
end
def faF (f : He.Fa) : FaB := fun K => f.ok K
structure TxOf (fa : List FaB) (fn : List He.DefD) (K : PySem.W.Frag) (mg : Str → Option Value) : Prop where
  c : SaysB fa fn K
  g : ∀ x, (He.Fa.glo x).ok K = true → mg x = some (.ref (ga K x))
  n : ∀ x, (He.Fa.free x).ok K = true → mg x = none
  i : ∀ x j, (He.Fa.int x j).ok K = true → ∃ t, mg x = some (.int j t)
  s : ∀ x z, (He.Fa.str x z).ok K = true → ∃ t, mg x = some (.str z t)
theorem TxOf.mk_of {fa : List FaB} {fn : List He.DefD} {K : PySem.W.Frag} {h : Heap} {mg : Str → Option Value} (X : K.In h) (G : h.Ns mainGlobals mg) (c : SaysB fa fn K) : TxOf fa fn K mg :=
  ⟨c, fun _ q => He.glo_ok X G q, fun _ q => He.free_ok X G q, fun _ _ q => He.int_ok X G q, fun _ _ q => He.str_ok X G q⟩
/-- what a class of refusals must say: made with a text, raised, asked by isinstance -/
structure EOk (K : PySem.W.Frag) (C : Addr) : Prop where
  kp : PySem.W.keepIn K (.ref C) = true
  sub : PySem.W.subIn K (.ref C) (.type "BaseException") = some true
  ty : PySem.W.typeIn K (.ref C) = some (.type "type")
  isi : ExcC K C
def faE (x : Str) : FaB := fun K =>
  PySem.W.keepIn K (.ref (ga K x)) && decide (PySem.W.subIn K (.ref (ga K x)) (.type "BaseException") = some true) &&
  decide (PySem.W.typeIn K (.ref (ga K x)) = some (.type "type")) && decide (PySem.W.findIn K (.ref (ga K x)) "__getattribute__" = some (some (.builtin "BaseException.__getattribute__"))) &&
  decide (PySem.W.findIn K (.ref (ga K x)) "__getattr__" = some none) && PySem.W.hasDictIn K (ga K x) &&
  decide (PySem.W.findIn K (.ref (ga K x)) "__class__" = some (some (.builtin "object.__class__"))) &&
  decide (PySem.W.specialIn K (.builtin "object.__class__") "__get__" = some (some (.builtin "getset_descriptor.__get__"))) &&
  decide (PySem.W.takesIn K (.builtin "object.__class__") = some true) &&
  decide (PySem.W.mroIn K (ga K x) (.type "object") = some true)
theorem faE_ok {K : PySem.W.Frag} {x : Str} (h : faE x K = true) : EOk K (ga K x) := by
  simp only [faE, Bool.and_eq_true, decide_eq_true_eq] at h
  obtain ⟨⟨⟨⟨⟨⟨⟨⟨⟨e2, e3⟩, e4⟩, h2⟩, h3⟩, h4⟩, h5⟩, h6⟩, h7⟩, h8⟩ := h
  exact ⟨e2, e3, e4, ⟨h2, h3, e3, h4, h5, h6, h7, h8⟩⟩
theorem faN_ok {K : PySem.W.Frag} {x : Str} (h : (He.Fa.exc x).ok K = true) : PySem.W.excIn K (ga K x) He.veBase "ValueError.__new__" = true := (He.exc_ok h).1
/-- a class of refusals with an __init__ that stores one field -/
structure XOk (K : PySem.W.Frag) (C : Addr) (f : Str) : Prop where
  no : PySem.W.findIn K (.ref C) f = some none
def faX (x f : Str) : FaB := fun K => decide (PySem.W.findIn K (.ref (ga K x)) f = some none)
theorem faX_ok {K : PySem.W.Frag} {x f : Str} (h : faX x f K = true) : XOk K (ga K x) f := ⟨of_decide_eq_true h⟩
/-- what isinstance tells of such an exception -/
def faK (x : Str) (ys : List (Str × Bool)) : FaB := fun K => decide (PySem.W.kitOne K (.ref (ga K x)) (.type "ValueError") = some true) &&
  ys.all fun y => decide (PySem.W.kitOne K (.ref (ga K x)) (.ref (ga K y.1)) = some y.2)
structure KOk (K : PySem.W.Frag) (x : Str) (ys : List (Str × Bool)) : Prop where
  ve : PySem.W.kitOne K (.ref (ga K x)) (.type "ValueError") = some true
  of : ∀ y, y ∈ ys → PySem.W.kitOne K (.ref (ga K x)) (.ref (ga K y.1)) = some y.2
theorem faK_ok {K : PySem.W.Frag} {x : Str} {ys : List (Str × Bool)} (h : faK x ys K = true) : KOk K x ys := by
  simp only [faK, Bool.and_eq_true, decide_eq_true_eq, List.all_eq_true] at h
  exact ⟨h.1, h.2⟩
end Pk

noncomputable section
namespace Pk
open PySem PySem.W PySem.Calls PyProof.Rows HandSHeadRun
/-! ### the top in pieces, its states between written out -/
def insL : List (Nat × Obj) → PySem.W.BT → PySem.W.BT
  | [], t => t
  | x :: r, t => insL r (t.ins x.1 x.2)
def bt0 (P : Params) : PySem.W.BT := match putAll (boot_heap P).objs.toList .nil 0 with
  | some x => x.1
  | none => .nil
/-- a state of the top: its tree, how many objects, how many tokens -/
def stT (w : World) (os : OsState) (T : PySem.W.BT) (n k : Nat) : SharedT := ⟨T, n, (boot_heap w.params).life, #[], boot_drawn, k, os⟩
theorem stT_boot {w : World} {os : OsState} {n : Nat} (h : ∀ P : Params, (putAll (boot_heap P).objs.toList .nil 0).map (·.2) = some n) : (stT w os (bt0 w.params) n boot_toks).abs = ⟨boot_heap w.params, #[], boot_drawn, boot_toks, os⟩ := by
  have h1 := h w.params
  unfold stT bt0 SharedT.abs
  cases e : putAll (boot_heap w.params).objs.toList .nil 0 with
  | none => rw [e] at h1; cases h1
  | some x =>
    obtain ⟨t, m⟩ := x
    rw [e] at h1
    have hm : m = n := by simpa using h1
    subst hm
    have eh := putAll_heap e
    dsimp only
    rw [eh]
section
variable (st : SharedT → Thread → Option (SharedT × Thread)) (n0 : Nat) (ann : Option Value)
/-- a piece, to its end -/
def segF : Nat → SharedT → Thread → Option (Flow × SharedT × Code × Pos)
  | 0, _, _ => none
  | m + 1, s, t => match endAt 1 t with
    | some f => some (f, s, t.code, t.pos)
    | none => match stepOk n0 ann t with
      | false => none
      | true => match st s t with
        | none => none
        | some y => frS y.1 fun s2 => segF m s2 y.2
/-- so many steps -/
def goPF : Nat → SharedT → Thread → Option (SharedT × Thread)
  | 0, s, t => some (s, t)
  | m + 1, s, t => match through t with
    | true => none
    | false => match stepOk n0 ann t with
      | false => none
      | true => match st s t with
        | none => none
        | some y => frS y.1 fun s2 => goPF m s2 y.2
end
section
variable {tb : String → Option Builtin} {p : Program} {w : World} {n0 : Nat} {ann : Option Value}
theorem segF_ok : ∀ {m : Nat} {s s' : SharedT} {t : Thread} {f : Flow} {c : Code} {q : Pos},
    segF (stepT (denote tb) p w) n0 ann m s t = some (f, s', c, q) → segRun tb p w n0 ann 1 m s.abs t = some (f, s'.abs, c, q) := by
  intro m
  induction m with
  | zero => intro s s' t f c q h; cases h
  | succ m ih =>
    intro s s' t f c q h
    unfold segF at h
    unfold segRun
    cases he : endAt 1 t with
    | some x => rw [he] at h; cases h; rfl
    | none =>
      rw [he] at h
      cases hk : stepOk n0 ann t with
      | false => rw [hk] at h; cases h
      | true =>
        rw [hk] at h
        cases hs : stepT (denote tb) p w s t with
        | none => rw [hs] at h; cases h
        | some y =>
          rw [hs] at h
          simp only [frS_eq] at h
          obtain ⟨s2, t2⟩ := y
          rw [stepT_spec hs]
          exact ih h
theorem goPF_ok : ∀ {m : Nat} {s s' : SharedT} {t t' : Thread},
    goPF (stepT (denote tb) p w) n0 ann m s t = some (s', t') → topGo tb p w n0 ann m s.abs t = some (s'.abs, t') := by
  intro m
  induction m with
  | zero => intro s s' t t' h; cases h; rfl
  | succ m ih =>
    intro s s' t t' h
    unfold goPF at h
    unfold topGo
    cases he : through t with
    | true => rw [he] at h; cases h
    | false =>
      rw [he] at h
      cases hk : stepOk n0 ann t with
      | false => rw [hk] at h; cases h
      | true =>
        rw [hk] at h
        cases hs : stepT (denote tb) p w s t with
        | none => rw [hs] at h; cases h
        | some y =>
          rw [hs] at h
          simp only [frS_eq] at h
          obtain ⟨s2, t2⟩ := y
          rw [stepT_spec hs]
          exact ih h
end
/-- what the end of the top must show -/
def Shows (r : OpenRow) (q : Program) (H : Hook) (loose : List PySem.Str) (w : World) (s : Shared) : Prop :=
  looksF r.prog (boot_heap w.params) s = true ∧ openSeen q loose (importedModules r.prog.main.body) (fun s => xlAt q [] s && recOk r.toRowW.records s) true s = openGood q loose ∧ H.obs s = H.val w
theorem shows_of {r : OpenRow} {q : Program} {H : Hook} {ob : SharedT → H.α} {loose : List PySem.Str} {w : World} {x : Option SharedT} (ho : ∀ s : SharedT, ob s = H.obs s.abs)
    (h : x.map (fun s => (looksF r.prog (boot_heap w.params) s.abs, seenQ q loose (importedModules r.prog.main.body) (fun s => xlAt q [] s && recOk r.toRowW.records s) s.abs, ob s)) = some (true, openGood q loose, H.val w)) :
    ∃ s, x = some s ∧ Shows r q H loose w s.abs := by
  obtain ⟨s, hs, hv⟩ := Option.map_eq_some_iff.mp h
  rw [← seenQ_eq] at hv
  simp only [Prod.mk.injEq] at hv
  exact ⟨s, hs, hv.1, hv.2.1, (ho s).symm.trans hv.2.2⟩
theorem head_pieces {r : OpenRow} {q : Program} {H : Hook} {N : Nat} {loose : List PySem.Str} {d : DefRec} {kwd : List (PySem.Str × PySem.Expr)}
    (e : opening r.prog = plainProg r.prog.main.scope.names) (f : ∀ s, fenceModules? r.prog s = some s) (hN : Nat.ble 600 N = true)
    (run : ∀ (w : World) (os : OsState), ∃ s, topRun treeTable r.prog w (boot_heap w.params).objs.size (bootAnn w) N ⟨boot_heap w.params, #[], boot_drawn, boot_toks, os⟩ (topStub r.prog) = some s ∧ Shows r q H loose w s)
    (hdef : defOf q r.name = some (d, kwd)) (hp : r.prog.theDef r.name = some (d.params, d.body, d.scope)) (hk : kwWritten? d.params.kwonlyargs d.params.kw_defaults = some kwd)
    (hwr : (!r.writes || r.records.isEmpty) = true) (k1 : r.wellSaid = true) (ok : (chainsOk q && opensWell r.prog && (frees r.toRowW && r.within.isEmpty)) = true) (hb : r.prog.bare) (hw : r.toRowW.promised)
    (call : WalkO q loose (XL q []) H.says r.toRowW d kwd fun f vs => PySem.call f vs) : r.Holds := by
  have left : LeftO r.prog q loose (fun s => xlAt q [] s && recOk r.toRowW.records s) H.obs H.val N true := fun w => by
    obtain ⟨⟨h, gs, d, k, os⟩, a, a'⟩ := Option.map_eq_some_iff.mp (boot_open e hN f w)
    obtain ⟨rfl, rfl, rfl, rfl⟩ : h = boot_heap w.params ∧ gs = Array.mk [] ∧ d = boot_drawn ∧ k = boot_toks := by simpa using a'
    obtain ⟨s, hs, l1, l2, l3⟩ := run w os
    have l4 : (staticsOk (importedModules r.prog.main.body) (boot_heap w.params) s.heap && namesBound r.prog s.heap && gensDone s && laidKept (boot_heap w.params) s.heap) = true := l1
    unfold openEnds
    rw [a]
    have t : topFrom treeTable r.prog w N ⟨boot_heap w.params, Array.mk [], boot_drawn, boot_toks, os⟩ = some s := by
      have b := boot_ns w.params
      unfold topFrom
      have b2 : ((boot_heap w.params).isNs mainGlobals && (Array.mk ([] : List GenState)).size == 0) = true := by rw [b]; rfl
      simp only [b2]
      refine (congrArg (fun z => Option.bind z _) hs).trans ?_
      simp only [Option.bind_some, l4]
    show Option.map _ (topFrom treeTable r.prog w N _) = _
    rw [t]
    exact congrArg some (Prod.ext l2 l3)
  exact holds_open (r := r) (q := q) (loose := loose) (XP := XL q []) (YP := H.says) (d := d) (kwd := kwd) left H.of H.keeps (fun s z => xl_of s (Bool.and_eq_true_iff.mp z).1) XL.keeps hdef hp hk (fun s z => recFacts_of (Bool.and_eq_true_iff.mp z).2) hwr k1 ok hb hw call
end Pk
end

namespace Pk
open PySem PySem.Spec PyProof.Rows L2
/-! ### promises with named arguments -/
def Sp.of {α : Type} (vs : α → List V) (body : α → Hp → VK → XK → Prop) : Sp := fun us H Q E => ∃ a : α, us = vs a ∧ body a H Q E
/-- a def that keeps a promise, however its parameters beyond the given ones are filled -/
structure Fw (P : Program) (w : World) (K : PySem.W.Frag) (mg : Str → Option Value) (base : Heap) (k : Nat) (f : Addr) (sp : Sp) : Prop where
  kp : PySem.W.keepIn K (.ref f) = true
  ex : ∃ (fd : FuncData) (ps : List Str) (ds : List Value) (dvs : List V) (sp' : Sp), FnOk P w K mg base (L2N.CX P w) k f fd ps sp' ∧ Binds K fd ps ds ∧ Vals dvs ds ∧ ∀ vs H Q E, sp vs H Q E → sp' (vs ++ dvs) H Q E
section
variable {P : Program} {w : World} {K : PySem.W.Frag} {mg : Str → Option Value} {base : Heap}
theorem Fw.mono {j k : Nat} {f : Addr} {sp : Sp} (F : Fw P w K mg base j f sp) (h : j ≤ k) : Fw P w K mg base k f sp := by
  obtain ⟨kp, fd, ps, ds, dvs, sp', F', rest⟩ := F
  exact ⟨kp, fd, ps, ds, dvs, sp', F'.mono h, rest⟩
theorem Fw.imp {k : Nat} {f : Addr} {sp sp2 : Sp} (F : Fw P w K mg base k f sp) (h : ∀ vs H Q E, sp2 vs H Q E → sp vs H Q E) : Fw P w K mg base k f sp2 := by
  obtain ⟨kp, fd, ps, ds, dvs, sp', F', hb, hd, hi⟩ := F
  exact ⟨kp, fd, ps, ds, dvs, sp', F', hb, hd, fun vs H Q E q => hi vs H Q E (h vs H Q E q)⟩
/-- the context of a body -/
abbrev cxB (P : Program) (w : World) (K : PySem.W.Frag) (mg : Str → Option Value) (base : Heap) (N : List Str) (qual : Str) (scope : Scope) (f : Addr) (cdv : Value) (A : Around) (outer : List Env) (s : Shared) (H : Hp) (E : XK) : Cx :=
  cxOf (L2N.CX P w) P w K mg base N qual scope f cdv A outer s H E
theorem Fw.mk_of {α : Type} {vsf : α → List V} {bd : α → Hp → VK → XK → Prop} {x qual : Str} {params : Arguments} {body : List Stmt} {scope : Scope} {f : Addr} {N ps : List Str} {k : Nat}
    (F : ∃ fd, FunD K x qual params body scope [] [] f fd) (S : FnScope N ps scope)
    (hb : ∀ (kV doc pm : Value) (an : Option Addr) (cdv ct : Value) (us : List Value), us.length = ps.length → bindArgs (PySem.W.fnOf x qual params body scope .none kV doc pm an cdv ct) ⟨us, []⟩ = pure (ps.zip us))
    (hl : ∀ a, (vsf a).length = ps.length)
    (hbody : ∀ (cdv : Value) (A : Around) (outer : List Env) (s : Shared) (H : Hp) (a : α) (Q : VK) (E : XK), Room k (A.deeper (envOfC qual scope s.heap.objs.size f cdv)) → bd a H Q E →
      ∃ t, PSs (cxB P w K mg base N qual scope f cdv A outer s H E) body t ∧ t { nx := fun _ H' => Q .non H', rt := Q } (start N (vsf a)) H) : Fw P w K mg base (k + 1) f (Sp.of vsf bd) := by
  obtain ⟨fd, F⟩ := F
  refine ⟨F.kp, fd, ps, [], [], Sp.of vsf bd, ?_, F.bindsN hb, .nil, fun vs H Q E h => by rw [List.append_nil]; exact h⟩
  refine F.ok S (fun vs H Q E h => ?_) (fun cdv A outer s H vs Q E hr h => ?_)
  · obtain ⟨a, rfl, _⟩ := h
    exact hl a
  · obtain ⟨a, rfl, hbd⟩ := h
    exact hbody cdv A outer s H a Q E hr hbd
end
/-- the law itself, for the end -/
theorem Fd.mk_of {P : Program} {w : World} {K : PySem.W.Frag} {mg : Str → Option Value} {base : Heap} {α : Type} {vsf : α → List V} {bd : α → Hp → VK → XK → Prop} {x qual : Str} {params : Arguments} {body : List Stmt} {scope : Scope} {f : Addr} {N ps : List Str} {k : Nat} (S : FnScope N ps scope)
    (hl : ∀ a, (vsf a).length = ps.length)
    (hbody : ∀ (cdv : Value) (A : Around) (outer : List Env) (s : Shared) (H : Hp) (a : α) (Q : VK) (E : XK), Room k (A.deeper (envOfC qual scope s.heap.objs.size f cdv)) → bd a H Q E →
      ∃ t, PSs (cxB P w K mg base N qual scope f cdv A outer s H E) body t ∧ t { nx := fun _ H' => Q .non H', rt := Q } (start N (vsf a)) H) :
    ∀ fd, FunD K x qual params body scope [] [] f fd → FnOk P w K mg base (L2N.CX P w) (k + 1) f fd ps (Sp.of vsf bd) := by
  intro fd F
  refine F.ok S (fun vs H Q E h => ?_) (fun cdv A outer s H vs Q E hr h => ?_)
  · obtain ⟨a, rfl, _⟩ := h
    exact hl a
  · obtain ⟨a, rfl, hbd⟩ := h
    exact hbody cdv A outer s H a Q E hr hbd
/-- what is let out, told of no world -/
def CXe : CXT := fun _ _ _ E _ _ => ∃ cls d H', E cls d H'
theorem toE {P : Program} {w : World} {K : PySem.W.Frag} {mg : Str → Option Value} {base : Heap} {k : Nat} {f : Addr} {fd : FuncData} {ps : List Str} {sp : Sp} (F : FnOk P w K mg base (L2N.CX P w) k f fd ps sp) : FnOk P w K mg base CXe k f fd ps sp := by
  refine ⟨F.len, fun A outer s H args us vs Q E hr e0 hb r h => codeAny_mono (F.run A outer s H args us vs Q E hr e0 hb r h) ?_⟩
  intro r s' h
  cases r with
  | error e =>
    obtain ⟨_, _, H', cls, d, _, _, _, _, _, _, _, hE⟩ := h
    exact ⟨cls, d, H', hE⟩
  | ok fl => cases fl <;> exact h
/-! ### calls -/
section
variable {X : Cx} {k : Nat} {f C : Addr} {sp : Sp} {E : L2.St → XK} {x m : Str} {p pos apos : Pos} {e o : Expr} {es : List Expr} {ta : TE} {t : TA}
theorem Fw.runs {pins : List (Addr × Obj)} {σ : L2.St} {H : Hp} {s : Shared} {Q : VK} {us : List Value} {vs : List V} (F : Fw X.prog X.w X.K X.mg X.base k f sp) (hr : Room k X.A) (hx : PassesAt (L2N.CX X.prog X.w) X σ (E σ))
    (I : Inv X pins σ H s) (r : Vals vs us) (h : sp vs H Q (E σ)) : wpAny (model X.prog X.w) X.A (call (.ref f) us) (EP X pins σ Q) X.xe s := by
  obtain ⟨fd, ps, ds, dvs, sp', F', hb, hd, hi⟩ := F.ex
  exact run_fnSD F' hr hb hd hx I r (hi _ _ _ _ h)
theorem pe_callW (F : Fw X.prog X.w X.K X.mg X.base k f sp) (hr : Room k X.A) (hm : X.mg x = some (.ref f)) (hx : ∀ σ, PassesAt (L2N.CX X.prog X.w) X σ (E σ)) (ha : PA X (e :: es) t) (hg : Gl X x := by rfl)
    (hdb : (x == ("__debug__" : Str)) = false := by decide) (he : starEach (e :: es) X.env = (false, eval e X.env) :: starEach es X.env := by rfl) (hpl : (backTo pos (starEach es X.env)).any (·.1) = false := by rfl) :
    PE X (.Call (.Name x p) (e :: es) [] pos) (tCallS sp E t) := by
  constructor
  intro pins s σ H Q I h
  refine wpAny_Call_Name_kw (ld_glob I hg hm ?_ hdb)
  refine PySem.W.callWith_K (h₀ := X.base) I.ok.mod.kin F.kp (thn (ha.run pos pins s σ H _ I h) ?_) he hpl
  rintro us s1 ⟨vs, H1, I1, r, q⟩
  exact ⟨I1.kIn, F.runs hr (hx σ) I1 r q⟩
theorem pe_callW0 (F : Fw X.prog X.w X.K X.mg X.base k f sp) (hr : Room k X.A) (hm : X.mg x = some (.ref f)) (hx : ∀ σ, PassesAt (L2N.CX X.prog X.w) X σ (E σ)) (hg : Gl X x := by rfl)
    (hdb : (x == ("__debug__" : Str)) = false := by decide) : PE X (.Call (.Name x p) [] [] pos) (tCallS sp E tNil) := by
  constructor
  intro pins s σ H Q I h
  refine wpAny_Call_Name_kw (ld_glob I hg hm ?_ hdb)
  exact PySem.W.callWith_K0 I.kIn F.kp (F.runs (us := []) hr (hx σ) I .nil h)
/-- o.m(..): o an instance of one of the classes Cs, each of which keeps its own promise -/
def tMethW (Cs : List Addr) (m : Str) (sp : Addr → Sp) (E : L2.St → XK) (ta : TE) (t : TA) : TE := fun σ H Q => ta σ H fun x H1 => ∃ a C dx fs, x = .ref a ∧ H1 a = some (.ins C dx fs) ∧ C ∈ Cs ∧ fs.lookup m = none ∧
  t σ H1 fun vs H2 => sp C (x :: vs) H2 Q (E σ)
structure MethW (P : Program) (w : World) (K : PySem.W.Frag) (mg : Str → Option Value) (base : Heap) (k : Nat) (m : Str) (C : Addr) (sp : Sp) : Prop where
  cls : Cls K C
  meth : Meth K C m (ma K C m)
  fw : Fw P w K mg base k (ma K C m) sp
theorem pe_methW {Cs : List Addr} {sp : Addr → Sp} {pl : Sem Bool} (he : PE X o ta) (M : ∀ C, C ∈ Cs → MethW X.prog X.w X.K X.mg X.base k m C (sp C)) (hr : Room k X.A) (hx : ∀ σ, PassesAt (L2N.CX X.prog X.w) X σ (E σ)) (ha : PA X (e :: es) t)
    (hst : starEach (e :: es) X.env = (false, eval e X.env) :: starEach es X.env := by rfl) (hpl : (backTo pos (starEach es X.env)).any (·.1) = false := by rfl)
    (ht : eval (.Call (.Attribute o m apos) (e :: es) [] pos) X.env = (do
      let ov ← eval o X.env
      standAt apos.atName
      let (f, first) ← holding [ov] (getMethod ov m pl)
      callWith pos f first (backTo pos (starEach (e :: es) X.env)) (backToKw pos (keywordEach [] X.env))) := by rfl) :
    PE X (.Call (.Attribute o m apos) (e :: es) [] pos) (tMethW Cs m sp E ta t) := by
  constructor
  intro pins s σ H Q I h
  refine PySem.W.methodCall_KW (pl := pl) (thn (he.run pins s σ H _ I h) ?_) ht
  rintro u s1 ⟨x, H1, I1, rx, a, C, dx, fs, rfl, ea, hC, l, q⟩
  cases rx
  have mC := M C hC
  refine getmeth_ok I1 ea mC.cls mC.meth l ?_
  refine PySem.W.callWith_K (first := [.ref a]) (h₀ := X.base) I.ok.mod.kin mC.meth.kp (thn (ha.run pos pins s1 σ H1 _ I1 q) ?_) hst hpl
  rintro us s2 ⟨vs, H2, I2, r, q2⟩
  exact ⟨I2.kIn, mC.fw.runs (us := .ref a :: us) (vs := .ref a :: vs) hr (hx σ) I2 (.cons rfl r) q2⟩
theorem pe_methW0 {Cs : List Addr} {sp : Addr → Sp} {pl : Sem Bool} (he : PE X o ta) (M : ∀ C, C ∈ Cs → MethW X.prog X.w X.K X.mg X.base k m C (sp C)) (hr : Room k X.A) (hx : ∀ σ, PassesAt (L2N.CX X.prog X.w) X σ (E σ))
    (ht : eval (.Call (.Attribute o m apos) [] [] pos) X.env = (do
      let ov ← eval o X.env
      standAt apos.atName
      let (f, first) ← holding [ov] (getMethod ov m pl)
      callWith pos f first (backTo pos (starEach [] X.env)) (backToKw pos (keywordEach [] X.env))) := by rfl) :
    PE X (.Call (.Attribute o m apos) [] [] pos) (tMethW Cs m sp E ta tNil) := by
  constructor
  intro pins s σ H Q I h
  refine PySem.W.methodCall_KW (pl := pl) (thn (he.run pins s σ H _ I h) ?_) ht
  rintro u s1 ⟨x, H1, I1, rx, a, C, dx, fs, rfl, ea, hC, l, q⟩
  cases rx
  have mC := M C hC
  refine getmeth_ok I1 ea mC.cls mC.meth l ?_
  exact PySem.W.callWith_K0 (first := [.ref a]) I1.kIn mC.meth.kp (mC.fw.runs (us := [.ref a]) (vs := [.ref a]) hr (hx σ) I1 (.cons rfl .nil) q)
theorem one_cls {P : Program} {w : World} {K : PySem.W.Frag} {mg : Str → Option Value} {base : Heap} {C : Addr} {sp : Sp} (c : Cls K C) (mm : Meth K C m (ma K C m)) (F : Fw P w K mg base k (ma K C m) sp) :
    ∀ D, D ∈ [C] → MethW P w K mg base k m D ((fun _ => sp) D) := by
  intro D hD
  have e : D = C := by simpa using hD
  subst e
  exact ⟨c, mm, F⟩
/-- C(..) -/
def tMakeW (C : Addr) (sp : Sp) (E : XK) (t : TA) : TE := fun σ H Q => t σ H fun vs H1 => ∀ x dx, H1 x = none → H1 dx = none → dx ≠ x →
  sp (.ref x :: vs) (upd (upd H1 dx (.own x)) x (.ins C dx [])) (fun v H2 => v = .non ∧ Q (.ref x) H2) E
theorem Fw.makes {E : XK} {pins : List (Addr × Obj)} {σ : L2.St} {H : Hp} {s : Shared} {Q : VK} {us : List Value} {vs : List V} (M : Mk X.K C f) (F : Fw X.prog X.w X.K X.mg X.base k f sp) (hr : Room (k + 1) X.A)
    (hx : Passes (L2N.CX X.prog X.w) X E) (I : Inv X pins σ H s) (r : Vals vs us)
    (h : ∀ x dx, H x = none → H dx = none → dx ≠ x → sp (.ref x :: vs) (upd (upd H dx (.own x)) x (.ins C dx [])) (fun v H2 => v = .non ∧ Q (.ref x) H2) E) :
    wpAny (model X.prog X.w) X.A (call (.ref C) us) (EP X pins σ Q) X.xe s := by
  obtain ⟨fd, ps, ds, dvs, sp', F', hb, hd, hi⟩ := F.ex
  exact run_make M F' hr hb hd hx I r fun x dx h1 h2 h3 => hi _ _ _ _ (h x dx h1 h2 h3)
theorem pe_makeW {E : XK} (M : Mk X.K C f) (F : Fw X.prog X.w X.K X.mg X.base k f sp) (hr : Room (k + 1) X.A) (hm : X.mg x = some (.ref C)) (hx : Passes (L2N.CX X.prog X.w) X E) (ha : PA X (e :: es) t) (hg : Gl X x := by rfl)
    (hdb : (x == ("__debug__" : Str)) = false := by decide) (he : starEach (e :: es) X.env = (false, eval e X.env) :: starEach es X.env := by rfl) (hpl : (backTo pos (starEach es X.env)).any (·.1) = false := by rfl) :
    PE X (.Call (.Name x p) (e :: es) [] pos) (tMakeW C sp E t) := by
  constructor
  intro pins s σ H Q I h
  refine wpAny_Call_Name_kw (ld_glob I hg hm ?_ hdb)
  refine PySem.W.callWith_K (h₀ := X.base) I.ok.mod.kin M.kp (thn (ha.run pos pins s σ H _ I h) ?_) he hpl
  rintro us s1 ⟨vs, H1, I1, r, q⟩
  exact ⟨I1.kIn, F.makes M hr hx I1 r q⟩
theorem pe_makeW0 {E : XK} (M : Mk X.K C f) (F : Fw X.prog X.w X.K X.mg X.base k f sp) (hr : Room (k + 1) X.A) (hm : X.mg x = some (.ref C)) (hx : Passes (L2N.CX X.prog X.w) X E) (hg : Gl X x := by rfl)
    (hdb : (x == ("__debug__" : Str)) = false := by decide) : PE X (.Call (.Name x p) [] [] pos) (tMakeW C sp E tNil) := by
  constructor
  intro pins s σ H Q I h
  refine wpAny_Call_Name_kw (ld_glob I hg hm ?_ hdb)
  exact PySem.W.callWith_K0 I.kIn M.kp (F.makes (us := []) M hr hx I .nil h)
end
/-! ### exceptions of a def's body -/
/-- what the def lets out, at its own level -/
abbrev WF (E : XK) : WX := fun cls d _ H => E cls d H
theorem passF {X : Cx} {E : XK} (tk : L2N.Takes X (WF E)) : Passes (L2N.CX X.prog X.w) X E := L2N.passes_call tk fun _ _ _ _ h => h
theorem passNo {X : Cx} (σ : L2.St) : PassesAt (L2N.CX X.prog X.w) X σ E0 := fun _ _ _ _ _ _ c => by
  obtain ⟨_, _, _, _, _, _, _, _, _, _, _, _, z⟩ := c
  exact z.elim
/-- raise C('..') -/
theorem ps_raiseW {X : Cx} {W : WX} {C : Addr} {x m : Str} {j : Nat} {p p2 pos pos2 : Pos} (hc : X.calm = true) (tk : L2N.Takes X W) (gC : X.mg x = some (.ref C)) (e : EOk X.K C) (n : PySem.W.excIn X.K C He.veBase "ValueError.__new__" = true) (hg : Gl X x := by rfl)
    (hdb : (x == ("__debug__" : Str)) = false := by decide) : PS X (.Raise (some (.Call (.Name x p) [.Constant (.str m) j p2] [] pos)) none pos2) (fun _ σ H => W (.ref C) none σ H) :=
  L2N.ps_raise hc tk (L2N.pmk_own PySem.F.excBase_ValueError n gC e.kp (raises_own e.sub e.ty) hg hdb)
end Pk

namespace Pk
open PySem PySem.Spec PyProof.Rows L2
section
variable {X : Cx}
/-! ### operators whose operands may be of several kinds -/
def rCatS : R2 := fun x y H Q => ∃ i j, x = .str i ∧ y = .str j ∧ i.length + j.length ≤ sizeLine ∧ Q (.str (i ++ j)) H
def rAddU (K : PySem.W.Frag) : R2 := fun x y H Q => rI0 (fun i j => .int (i + j)) x y H Q ∨ (rCatS x y H Q ∨ (rCat x y H Q ∨ rCatA K x y H Q))
theorem op_addU : OpR X (binaryOp .Add) (rAddU X.K) := op_add.or (op_add_str.or (op_cat.or op_catA))
def rMulU : R2 := fun x y H Q => rI CMul (fun i j => .int (i * j)) x y H Q ∨ rRep x y H Q
theorem op_mulU : OpR X (binaryOp .Mult) rMulU := op_mul.or op_rep
def rEqU (K : PySem.W.Frag) : R2 := fun x y H Q => rEq x y H Q ∨ rEqD K x y H Q
theorem op_eqU (hu : X.A.units + 64 < cLine) : OpR X (compareOp .Eq) (rEqU X.K) := op_eq.or (op_eqD hu)
def rNeU (K : PySem.W.Frag) : R2 := fun x y H Q => rNe x y H Q ∨ rNeD K x y H Q
theorem op_neU (hu : X.A.units + 64 < cLine) : OpR X (compareOp .NotEq) (rNeU X.K) := op_ne.or (op_neD hu)
def rDIn : R2 := fun y x H Q => ∃ a o, x = .ref a ∧ DGet H a y o ∧ Q (.bl o.isSome) H
theorem op_dIn (hu : X.A.units + 64 < cLine) : OpR X (compareOp .In) rDIn := by
  rintro pins s σ H y x v u Q I ry rx ⟨a, o, rfl, g, q⟩
  cases rx
  exact d_in (by omega) I g ry fun s3 I3 => ⟨.bl o.isSome, H, I3, rfl, q⟩
def rDNotIn : R2 := fun y x H Q => ∃ a o, x = .ref a ∧ DGet H a y o ∧ Q (.bl (!o.isSome)) H
theorem op_dNotIn (hu : X.A.units + 64 < cLine) : OpR X (compareOp .NotIn) rDNotIn := by
  rintro pins s σ H y x v u Q I ry rx ⟨a, o, rfl, g, q⟩
  cases rx
  exact d_notIn (by omega) I g ry fun s3 I3 => ⟨.bl (!o.isSome), H, I3, rfl, q⟩
def rSignIn : R2 := fun x y H Q => ∃ (c : Nat) (z : Str), x = .str ⟨#[c]⟩ ∧ y = .str z ∧ Q (.bl (decide (c ∈ z.cps.toList))) H
def rSignNot : R2 := fun x y H Q => ∃ (c : Nat) (z : Str), x = .str ⟨#[c]⟩ ∧ y = .str z ∧ Q (.bl (!decide (c ∈ z.cps.toList))) H
def rInU (K : PySem.W.Frag) : R2 := fun x y H Q => rIn K false x y H Q ∨ (rDIn x y H Q ∨ rSignIn x y H Q)
theorem op_inU (hu : X.A.units + 64 < cLine) : OpR X (compareOp .In) (rInU X.K) := op_in_seq.or ((op_dIn hu).or op_in_sign)
def rNotInU (K : PySem.W.Frag) : R2 := fun x y H Q => rIn K true x y H Q ∨ (rDNotIn x y H Q ∨ rSignNot x y H Q)
theorem op_notInU (hu : X.A.units + 64 < cLine) : OpR X (compareOp .NotIn) (rNotInU X.K) := op_notIn_seq.or ((op_dNotIn hu).or op_notIn_sign)
/-- o[i] -/
def rDIx : R2 := fun x y H Q => ∃ a v, x = .ref a ∧ DGet H a y (some v) ∧ Q v H
theorem ix_dict (hu : X.A.units + 64 < cLine) : IxR X rDIx := by
  rintro value slice pins s σ H x y v u Q I rx ry ⟨a, w, rfl, g, q⟩ hs
  cases rx
  have isD := dict_typeIs I g
  have got : wpAny (model X.prog X.w) X.A (getItem (.ref a) u) (EP X pins σ Q) X.xe s := d_getItem (by omega) I g ry fun w' s3 I3 rw' => ⟨_, H, I3, rw', q⟩
  have tail : wpAny (model X.prog X.w) X.A (subscripted slice false (.ref a) u) (fun r s₃ => wpAny (model X.prog X.w) X.A (letTemporaryGo value (.ref a) r >>= fun _ => pure r) (EP X pins σ Q) X.xe s₃) X.xe s := by
    rw [hs]
    exact wpAny_operating (thn got fun r s₃ h₃ => wpAny_bind (wpAny_letTemporaryGo (wpAny_pure h₃)))
  unfold subscriptTail
  refine wpAny_bind ?_; rw [getitemInPython_of_ne isD.not_modules]
  refine wpAny_bind (wpAny_specialOf isD PySem.F.slot_dict_getitem.lookup ?_)
  first
    | exact wpAny_pure (wpAny_bind tail)
    | exact wpAny_bind (wpAny_pure (wpAny_bind tail))
    | exact wpAny_bind tail
def rIxU (K : PySem.W.Frag) : R2 := fun x y H Q => rIx K x y H Q ∨ rDIx x y H Q
theorem ix_U (hu : X.A.units + 64 < cLine) : IxR X (rIxU X.K) := ix_seq.or (ix_dict hu)
/-- o[i] = v -/
def rSetD : V → V → V → Hp → (Hp → Prop) → Prop := fun o i v H Q => ∃ a H', o = .ref a ∧ DPut H a i v H' ∧ Q H'
theorem set_dict (hu : X.A.units + 64 < cLine) : PSet X rSetD := by
  rintro pins s σ H o i v ov iv vv Q I ro ri rv ⟨a, H', rfl, g, q⟩
  cases ro
  exact d_setItem (by omega) I g ri rv fun s4 I4 => ⟨H', I4, q⟩
def rSetU : V → V → V → Hp → (Hp → Prop) → Prop := fun o i v H Q => rSetL o i v H Q ∨ rSetD o i v H Q
theorem set_U (hu : X.A.units + 64 < cLine) : PSet X rSetU := by
  intro pins s σ H o i v ov iv vv Q I ro ri rv q
  rcases q with q | q
  · exact set_list pins s σ H o i v ov iv vv Q I ro ri rv q
  · exact set_dict hu pins s σ H o i v ov iv vv Q I ro ri rv q
/-- x += y -/
def ipCat : TIp := fun x y H Q => ∃ l b xs zs, x = .ref l ∧ y = .ref b ∧ H l = some (.lst xs) ∧ H b = some (.lst zs) ∧ xs.length + zs.length ≤ sizeLine ∧ Q (.ref l) (upd H l (.lst (xs ++ zs)))
/-- order of ints and texts -/
def rLtU : R2 := fun x y H Q => rI0 (fun i j => .bl (decide (i < j))) x y H Q ∨ (∃ i j, x = .str i ∧ y = .str j ∧ Q (.bl (decide (i.cps.toList < j.cps.toList))) H)
theorem op_ltU : OpR X (compareOp .Lt) rLtU := op_lt.or op_lt_str
def rLeU : R2 := fun x y H Q => rI0 (fun i j => .bl (decide (i ≤ j))) x y H Q ∨ (∃ i j, x = .str i ∧ y = .str j ∧ Q (.bl (!decide (j.cps.toList < i.cps.toList))) H)
theorem op_leU : OpR X (compareOp .LtE) rLeU := op_le.or op_le_str
def rGtU : R2 := fun x y H Q => rI0 (fun i j => .bl (decide (j < i))) x y H Q ∨ (∃ i j, x = .str i ∧ y = .str j ∧ Q (.bl (decide (j.cps.toList < i.cps.toList))) H)
theorem op_gtU : OpR X (compareOp .Gt) rGtU := op_gt.or op_gt_str
def rGeU : R2 := fun x y H Q => rI0 (fun i j => .bl (decide (j ≤ i))) x y H Q ∨ (∃ i j, x = .str i ∧ y = .str j ∧ Q (.bl (!decide (i.cps.toList < j.cps.toList))) H)
theorem op_geU : OpR X (compareOp .GtE) rGeU := op_ge.or op_ge_str
/-- a constant of the module -/
theorem pe_gint {x : Str} {j : Int} {pos : Pos} (h : ∃ t, X.mg x = some (.int j t)) (hg : Gl X x := by rfl) (hd : (x == ("__debug__" : Str)) = false := by decide) : PE X (.Name x pos) (tC (.int j)) := by
  obtain ⟨t, h⟩ := h
  exact pe_glob hg h ⟨t, rfl⟩ hd
theorem pe_gstr {x z : Str} {pos : Pos} (h : ∃ t, X.mg x = some (.str z t)) (hg : Gl X x := by rfl) (hd : (x == ("__debug__" : Str)) = false := by decide) : PE X (.Name x pos) (tC (.str z)) := by
  obtain ⟨t, h⟩ := h
  exact pe_glob hg h ⟨t, rfl⟩ hd
/-- len -/
def rLenU (K : PySem.W.Frag) : List V → Hp → VK → Prop := fun xs H Q => (∃ x n, xs = [x] ∧ LenV K x H n ∧ Q (.int n) H) ∨ (∃ a kvs, xs = [V.ref a] ∧ Rd H a (.dK kvs) ∧ Q (.int kvs.length) H)
theorem call_lenR : CallR X (.builtin "len") (fun xs H Q => ∃ a kvs, xs = [V.ref a] ∧ Rd H a (.dK kvs) ∧ Q (.int kvs.length) H) := by
  rintro pins s σ H xs us Q I r ⟨a, kvs, rfl, ha, q⟩
  obtain ⟨u, rfl, ru⟩ := vals1 r
  cases ru
  exact d_len I ha fun t s' I' => ⟨.int kvs.length, H, I', ⟨t, rfl⟩, q⟩
theorem call_lenU : CallR X (.builtin "len") (rLenU X.K) := call_len.or call_lenR
/-- isinstance with a class, with a tuple of classes -/
def rIsU (K : PySem.W.Frag) : List V → Hp → VK → Prop := fun xs H Q => rIsi K xs H Q ∨ rIsiT K xs H Q
theorem call_isU : CallR X (.builtin "isinstance") (rIsU X.K) := call_isi.or call_isiT
/-- int(..) -/
def rIntU : List V → Hp → VK → Prop := fun xs H Q => ((∃ i, xs = [.int i] ∧ Q (.int i) H) ∨ ∃ k, xs = [.bl k] ∧ Q (.int (if k then 1 else 0)) H) ∨ ∃ a n, xs = [.str a] ∧ PySem.intText? a = some n ∧ a.length ≤ 640 ∧ Q (.int n) H
theorem call_intU : CallR X (.type "int") rIntU := call_int1.or call_int_str
/-- list.count of flat items -/
def rCntF (K : PySem.W.Frag) : V → List V → Hp → VK → Prop := fun x xs H Q => ∃ (p : Addr) (ys : List V) (y : V), x = .ref p ∧ xs = [y] ∧ SqL K H p ys ∧ flatV y = true ∧ ys.all flatV = true ∧ Q (.int (ys.countP fun z => eqV z y : Nat)) H
theorem count_eqU {x : V} : ∀ {xs : List V} {us : List Value}, Vals xs us → xs.all flatV = true → us.countP (eqU x) = xs.countP fun y => eqV y x := by
  intro xs us r
  induction r with
  | nil => intro _; rfl
  | cons r _ ih =>
    intro f
    rw [List.all_cons, Bool.and_eq_true] at f
    rw [List.countP_cons, List.countP_cons, eqU_of r f.1, ih f.2]
theorem mt_countF : MtR X "list.count" (rCntF X.K) := by
  rintro pins s σ H x xs v us Q I rx rxs ⟨p, ys, y, rfl, rfl, hs, fy, fs, q⟩
  cases rx
  obtain ⟨u, rfl, ru⟩ := rxs.one
  obtain ⟨its, rv, ⟨⟨cls, dd, data, sl⟩, n, ho, hc, hdn, hd⟩, hlen⟩ := I.list hs
  cases hc; cases hd
  refine call_meets PySem.F.slot_list_count ⟨_, ho, rfl⟩ PySem.F.entry_list_count (PySem.F.args_list_count_2 _ _)
    (SeqAt.list_countAt p its.toArray n dd sl u (eqU y)) ⟨ho, fun z hz => mem_eqAt ru fy rv fs z (by simpa using hz), ?_⟩
  have ec : its.toArray.toList.countP (eqU y) = ys.countP fun z => eqV z y := count_eqU rv fs
  refine ⟨.int (ys.countP fun z => eqV z y : Nat), H, I.tok _, ⟨s.toks, ?_⟩, q⟩
  show Value.int ((its.toArray.toList.countP (eqU y) : Nat) : Int) s.toks = _
  rw [ec]
end
/-! ### a def's body: what is let out, and the frames -/
section
variable {P : Program} {w : World} {K : PySem.W.Frag} {mg : Str → Option Value} {base : Heap} {N : List Str} {qual : Str} {scope : Scope} {f : Addr} {cdv : Value} {A : Around} {outer : List Env} {s : Shared} {H : Hp} {E : XK}
theorem tkF : L2N.Takes (cxB P w K mg base N qual scope f cdv A outer s H E) (WF E) := L2N.takes_of rfl rfl rfl rfl
theorem poF : PassesOwn (model P w) (cxB P w K mg base N qual scope f cdv A outer s H E).A (cxB P w K mg base N qual scope f cdv A outer s H E).env (cxB P w K mg base N qual scope f cdv A outer s H E).xe := L2.passes_of rfl
end
end Pk

namespace Pk
open PySem PySem.Spec PyProof.Rows L2
/-! ### what stands where: roles, their addresses, what they hold -/
structure Hold {R : Type} (A : R → Addr) (c : R → Option HO) (H : Hp) : Prop where
  at_ : ∀ r o, c r = some o → H (A r) = some o
  inj : ∀ r r', (c r).isSome = true → (c r').isSome = true → A r = A r' → r = r'
def Foot {R : Type} (A : R → Addr) (c : R → Option HO) : Addr → Prop := fun a => ∃ r, (c r).isSome = true ∧ A r = a
section
variable {R : Type} {A A' : R → Addr} {c c' : R → Option HO} {H H' : Hp}
theorem Hold.ne (h : Hold A c H) {r r' : R} {o o' : HO} (e : c r = some o) (e' : c r' = some o') (n : r ≠ r') : A r ≠ A r' := fun z =>
  n (h.inj r r' (by rw [e]; rfl) (by rw [e']; rfl) z)
/-- one object changes -/
theorem Hold.set [DecidableEq R] (h : Hold A c H) {r0 : R} {o0 o' : HO} (e0 : c r0 = some o0) (hc : ∀ r, c' r = if r = r0 then some o' else c r) : Hold A c' (upd H (A r0) o') := by
  have live : ∀ r, (c' r).isSome = true → (c r).isSome = true := fun r q => by
    rw [hc r] at q
    by_cases z : r = r0
    · rw [z, e0]; rfl
    · rw [if_neg z] at q; exact q
  refine ⟨fun r o q => ?_, fun r r' q q' z => h.inj r r' (live r q) (live r' q') z⟩
  rw [hc r] at q
  by_cases z : r = r0
  · rw [if_pos z] at q
    rw [z, upd_same, q]
  · rw [if_neg z] at q
    rw [upd_ne (h.ne q e0 z)]
    exact h.at_ r o q
theorem Foot.set [DecidableEq R] {r0 : R} {o0 o' : HO} (e0 : c r0 = some o0) (hc : ∀ r, c' r = if r = r0 then some o' else c r) (a : Addr) : Foot A c' a ↔ Foot A c a := by
  have live : ∀ r, (c' r).isSome = (c r).isSome := fun r => by
    rw [hc r]
    by_cases z : r = r0
    · rw [if_pos z, z, e0]; rfl
    · rw [if_neg z]
  exact ⟨fun ⟨r, q, z⟩ => ⟨r, by rw [← live r]; exact q, z⟩, fun ⟨r, q, z⟩ => ⟨r, by rw [live r]; exact q, z⟩⟩
/-- one object more, at p -/
theorem Hold.new [DecidableEq R] (h : Hold A c H) {r0 : R} {o' : HO} {p : Addr} (np : H p = none) (e0 : c r0 = none) (hA : ∀ r, A' r = if r = r0 then p else A r) (hc : ∀ r, c' r = if r = r0 then some o' else c r) : Hold A' c' (upd H p o') := by
  have nl : ∀ r o, c r = some o → A r ≠ p := fun r o e z => by
    have q := h.at_ r o e
    rw [z, np] at q
    cases q
  have pr : A' r0 = p := by rw [hA r0, if_pos rfl]
  refine ⟨fun r o q => ?_, fun r r' q q' z => ?_⟩
  · rw [hc r] at q
    by_cases y : r = r0
    · rw [if_pos y] at q
      rw [y, pr, upd_same, q]
    · rw [if_neg y] at q
      rw [hA r, if_neg y, upd_ne (nl r o q)]
      exact h.at_ r o q
  · rw [hc r] at q
    rw [hc r'] at q'
    rw [hA r, hA r'] at z
    by_cases y : r = r0
    · by_cases y' : r' = r0
      · rw [y, y']
      · rw [if_pos y, if_neg y'] at z
        rw [if_neg y'] at q'
        obtain ⟨o, e⟩ := Option.isSome_iff_exists.mp q'
        exact absurd z.symm (nl r' o e)
    · by_cases y' : r' = r0
      · rw [if_neg y, if_pos y'] at z
        rw [if_neg y] at q
        obtain ⟨o, e⟩ := Option.isSome_iff_exists.mp q
        exact absurd z (nl r o e)
      · rw [if_neg y, if_neg y'] at z
        rw [if_neg y] at q
        rw [if_neg y'] at q'
        exact h.inj r r' q q' z
/-- what does not touch them keeps them -/
theorem Hold.keep (h : Hold A c H) (k : ∀ a, Foot A c a → H' a = H a) : Hold A c H' :=
  ⟨fun r o q => (k (A r) ⟨r, by rw [q]; rfl, rfl⟩).trans (h.at_ r o q), h.inj⟩
theorem Hold.same (h : Hold A c H) (s : Same H H') : Hold A c H' := ⟨fun r o q => s _ _ (h.at_ r o q), h.inj⟩
theorem Hold.live (h : Hold A c H) {a : Addr} (f : Foot A c a) : H a ≠ none := by
  obtain ⟨r, q, rfl⟩ := f
  obtain ⟨o, e⟩ := Option.isSome_iff_exists.mp q
  rw [h.at_ r o e]
  exact fun z => nomatch z
end
/-- from H to H', what is owned grows from S to S': all else stays; what is new was free -/
structure Upd (H : Hp) (S : Addr → Prop) (H' : Hp) (S' : Addr → Prop) : Prop where
  keep : ∀ b o, H b = some o → ¬ S b → H' b = some o
  grow : ∀ b, S' b → S b ∨ H b = none
theorem Upd.refl (H : Hp) (S : Addr → Prop) : Upd H S H S := ⟨fun _ _ h _ => h, fun _ h => .inl h⟩
theorem Upd.trans {H H1 H2 : Hp} {S S1 S2 : Addr → Prop} (a : Upd H S H1 S1) (b : Upd H1 S1 H2 S2) : Upd H S H2 S2 where
  keep := fun x o e n => b.keep x o (a.keep x o e n) fun z => (a.grow x z).elim n fun q => by rw [q] at e; cases e
  grow := fun x z => (b.grow x z).elim (fun q => a.grow x q) fun q => by
    by_cases n : S x
    · exact .inl n
    · cases e : H x with
      | none => exact .inr rfl
      | some o =>
        have := a.keep x o e n
        rw [q] at this
        cases this
theorem Upd.of_same {H H' : Hp} {S : Addr → Prop} (s : Same H H') : Upd H S H' S := ⟨fun b o e _ => s b o e, fun _ h => .inl h⟩
theorem same_upd {H : Hp} {p : Addr} {o : HO} (n : H p = none) : Same H (upd H p o) := fun b u e => by rw [upd_ne (ne_of_none e n)]; exact e
theorem upd_owned {H : Hp} {S : Addr → Prop} {p : Addr} {o : HO} (s : S p) : Upd H S (upd H p o) S :=
  ⟨fun b u e n => by rw [upd_ne (fun z => n (by rw [z]; exact s))]; exact e, fun _ h => .inl h⟩
/-! ### kinds of values -/
def tyName (H : Hp) : V → Option String
  | .non => some "NoneType"
  | .bl _ => some "bool"
  | .int _ => some "int"
  | .str _ => some "str"
  | .ref a => match H a with
    | some (.lst _) => some "list"
    | some (.tup _) => some "tuple"
    | some (.dK _) => some "dict"
    | _ => none
  | _ => none
def isT (n m : String) : Bool := n == m || (n == "bool" && m == "int")
theorem tyName_tyx {K : PySem.W.Frag} {H : Hp} {v : V} {n : String} (h : tyName H v = some n) : TyX K H v (.type n) := by
  cases v with
  | non => cases h; exact .base .non
  | bl b => cases h; exact .base (.bl b)
  | int i => cases h; exact .base (.int i)
  | str z => cases h; exact .base (.str z)
  | ref a =>
    unfold tyName at h
    cases e : H a with
    | none => simp only [e] at h; cases h
    | some o =>
      simp only [e] at h
      cases o with
      | lst xs => cases h; exact .base (.lst e)
      | tup xs => cases h; exact .base (.tup e)
      | dK kvs => cases h; exact .base (.dK e)
      | _ => cases h
  | _ => cases h
theorem tyName_some {H : Hp} {v : V} {n : String} (h : tyName H v = some n) : n ∈ ["NoneType", "bool", "int", "str", "list", "tuple", "dict"] := by
  cases v with
  | non => cases h; decide
  | bl b => cases h; decide
  | int i => cases h; decide
  | str z => cases h; decide
  | ref a =>
    unfold tyName at h
    cases e : H a with
    | none => simp only [e] at h; cases h
    | some o =>
      simp only [e] at h
      cases o with
      | lst xs => cases h; decide
      | tup xs => cases h; decide
      | dK kvs => cases h; decide
      | _ => cases h
  | _ => cases h
theorem tyName_ref_not {H : Hp} {a : Addr} {n m : String} (h : tyName H (.ref a) = some n) (e1 : isT "list" m = false) (e2 : isT "tuple" m = false) (e3 : isT "dict" m = false) : isT n m = false := by
  unfold tyName at h
  cases ea : H a with
  | none => simp only [ea] at h; cases h
  | some o =>
    simp only [ea] at h
    cases o <;> first | (cases h; assumption) | cases h
theorem tyName_ref_str {H : Hp} {a : Addr} {n : String} (h : tyName H (.ref a) = some n) : isT n "str" = false := tyName_ref_not h (by decide) (by decide) (by decide)
theorem tyName_ref_int {H : Hp} {a : Addr} {n : String} (h : tyName H (.ref a) = some n) : isT n "int" = false := tyName_ref_not h (by decide) (by decide) (by decide)
theorem tyName_ref_bool {H : Hp} {a : Addr} {n : String} (h : tyName H (.ref a) = some n) : isT n "bool" = false := tyName_ref_not h (by decide) (by decide) (by decide)
theorem kit_names {K : PySem.W.Frag} {n m : String} (hn : n ∈ ["NoneType", "bool", "int", "str", "list", "tuple", "dict"]) (hm : m ∈ ["int", "str", "bool", "list", "tuple", "dict"]) :
    PySem.W.kitOne K (.type n) (.type m) = some (isT n m) := by
  simp only [List.mem_cons, List.not_mem_nil, or_false] at hn hm
  rcases hn with rfl | rfl | rfl | rfl | rfl | rfl | rfl <;> rcases hm with rfl | rfl | rfl | rfl | rfl | rfl <;> exact kit_ty (by decide +kernel)
theorem is_step {K : PySem.W.Frag} {H : Hp} {v : V} {n m : String} {Q : VK} (h : tyName H v = some n) (q : Q (.bl (isT n m)) H) (hm : m ∈ ["int", "str", "bool", "list", "tuple", "dict"] := by decide) : rIsU K [v, .ty m] H Q :=
  .inl ⟨v, .ty m, .type n, .type m, isT n m, rfl, .ty m, tyName_tyx h, kit_names (tyName_some h) hm, q⟩
/-! ### optional numbers -/
def optV : Option Int → V
  | none => .non
  | some n => .int n
theorem flat_optV (xs : List (Option Int)) : (xs.map optV).all flatV = true := by
  rw [List.all_map, List.all_eq_true]
  intro x _
  cases x <;> rfl
theorem inV_non (xs : List (Option Int)) : inV .non (xs.map optV) = xs.contains none := by
  induction xs with
  | nil => rfl
  | cons x xs ih =>
    have e : inV .non ((x :: xs).map optV) = (eqV (optV x) .non || inV .non (xs.map optV)) := rfl
    rw [e, ih]
    cases x <;> rfl
theorem count_non (xs : List (Option Int)) : ((xs.map optV).countP fun z => eqV z .non) = xs.count none := by
  induction xs with
  | nil => rfl
  | cons x xs ih =>
    rw [List.map_cons, List.countP_cons, List.count_cons, ih]
    cases x <;> rfl
end Pk

namespace Pk
open PySem PySem.Spec PyProof.Rows L2
/-! ### readings that the heap itself decides -/
section
variable {X : Cx}
theorem OpR.imp {f : Value → Value → Sem Value} {r r' : R2} (h : OpR X f r) (i : ∀ x y H Q, r' x y H Q → r x y H Q) : OpR X f r' :=
  fun pins s σ H x y v u Q I rx ry q => h pins s σ H x y v u Q I rx ry (i x y H Q q)
theorem IxR.imp {r r' : R2} (h : IxR X r) (i : ∀ x y H Q, r' x y H Q → r x y H Q) : IxR X r' :=
  fun value slice pins s σ H x y v u Q I rx ry q hs => h value slice pins s σ H x y v u Q I rx ry (i x y H Q q) hs
theorem CallR.imp {f : Value} {r r' : List V → Hp → VK → Prop} (h : CallR X f r) (i : ∀ xs H Q, r' xs H Q → r xs H Q) : CallR X f r' :=
  fun pins s σ H xs us Q I rx q => h pins s σ H xs us Q I rx (i xs H Q q)
theorem MtR.imp {id : String} {r r' : V → List V → Hp → VK → Prop} (h : MtR X id r) (i : ∀ x xs H Q, r' x xs H Q → r x xs H Q) : MtR X id r' :=
  fun pins s σ H x xs v us Q I rx rs q => h pins s σ H x xs v us Q I rx rs (i x xs H Q q)
/-- x + y -/
def rAddF : R2 := fun x y H Q => match x, y with
  | .int i, .int j => Q (.int (i + j)) H
  | .str i, .str j => i.length + j.length ≤ sizeLine ∧ Q (.str (i ++ j)) H
  | .ref a, .ref b => match H a, H b with
    | some (.lst xs), some (.lst ys) => xs.length + ys.length ≤ sizeLine ∧ ∀ p, H p = none → Q (.ref p) (upd H p (.lst (xs ++ ys)))
    | some (.tup xs), some (.tup ys) => xs.length + ys.length ≤ sizeLine ∧ (xs = [] → Q (.ref b) H) ∧ (xs ≠ [] → ys = [] → Q (.ref a) H) ∧ (xs ≠ [] → ys ≠ [] → ∀ p, H p = none → Q (.ref p) (upd H p (.tup (xs ++ ys))))
    | _, _ => False
  | _, _ => False
theorem op_addF : OpR X (binaryOp .Add) rAddF := OpR.imp op_addU fun x y H Q h => by
  unfold rAddF at h
  split at h
  · exact .inl ⟨_, _, rfl, rfl, h⟩
  · exact .inr (.inl ⟨_, _, rfl, rfl, h⟩)
  · split at h
    · rename_i e1 e2
      exact .inr (.inr (.inl ⟨_, _, _, _, rfl, rfl, e1, e2, h.1, h.2⟩))
    · rename_i e1 e2
      exact .inr (.inr (.inr ⟨_, _, _, _, rfl, rfl, .inl (.inl e1), .inl (.inl e2), h⟩))
    · exact h.elim
  · exact h.elim
def rMulF : R2 := fun x y H Q => match x, y with
  | .int i, .int j => CMul i j ∧ Q (.int (i * j)) H
  | .ref a, .int k => match H a with
    | some (.lst xs) => -(2 ^ 63) ≤ k ∧ k < 2 ^ 63 ∧ xs.length * k.toNat ≤ sizeLine ∧ ∀ p, H p = none → Q (.ref p) (upd H p (.lst (List.replicate k.toNat xs).flatten))
    | _ => False
  | _, _ => False
theorem op_mulF : OpR X (binaryOp .Mult) rMulF := OpR.imp op_mulU fun x y H Q h => by
  unfold rMulF at h
  split at h
  · exact .inl ⟨_, _, rfl, rfl, h.1, h.2⟩
  · split at h
    · rename_i e1
      exact .inr ⟨_, _, _, rfl, rfl, e1, h.1, h.2.1, h.2.2.1, h.2.2.2⟩
    · exact h.elim
  · exact h.elim
/-- x == y: scalars by value, the rest as data -/
def rEqF (K : PySem.W.Frag) : R2 := fun x y H Q => match scal x y with
  | true => Q (.bl (decide (x = y))) H
  | false => rEqD K x y H Q
theorem op_eqF (hu : X.A.units + 64 < cLine) : OpR X (compareOp .Eq) (rEqF X.K) := OpR.imp (op_eqU hu) fun x y H Q h => by
  unfold rEqF at h
  split at h
  · rename_i e
    exact .inl ⟨e, h⟩
  · exact .inr h
def rNeF (K : PySem.W.Frag) : R2 := fun x y H Q => match scal x y with
  | true => Q (.bl (!decide (x = y))) H
  | false => rNeD K x y H Q
theorem op_neF (hu : X.A.units + 64 < cLine) : OpR X (compareOp .NotEq) (rNeF X.K) := OpR.imp (op_neU hu) fun x y H Q h => by
  unfold rNeF at h
  split at h
  · rename_i e
    exact .inl ⟨e, h⟩
  · exact .inr h
/-- x in y -/
def inF (x y : V) (H : Hp) (Q : Bool → Prop) : Prop := match y with
  | .str z => ∃ c, x = .str ⟨#[c]⟩ ∧ Q (decide (c ∈ z.cps.toList))
  | .ref p => match H p with
    | some (.lst xs) => flatV x = true ∧ xs.all flatV = true ∧ Q (inV x xs)
    | some (.tup xs) => flatV x = true ∧ xs.all flatV = true ∧ Q (inV x xs)
    | some (.dK kvs) => ∃ k, x = kV k ∧ Q (valV kvs k).isSome
    | some (.frz _ (.dK kvs)) => ∃ k, x = kV k ∧ Q (valV kvs k).isSome
    | _ => False
  | _ => False
def rInF : R2 := fun x y H Q => inF x y H fun b => Q (.bl b) H
def rNotInF : R2 := fun x y H Q => inF x y H fun b => Q (.bl (!b)) H
theorem op_inF (hu : X.A.units + 64 < cLine) : OpR X (compareOp .In) rInF := OpR.imp (op_inU hu) fun x y H Q h => by
  unfold rInF inF at h
  split at h
  · obtain ⟨c, rfl, q⟩ := h
    exact .inr (.inr ⟨c, _, rfl, rfl, q⟩)
  · split at h
    · rename_i e
      exact .inl ⟨_, _, rfl, .inl (.inl (.inl e)), h.1, h.2.1, h.2.2⟩
    · rename_i e
      exact .inl ⟨_, _, rfl, .inr (.inl (.inl e)), h.1, h.2.1, h.2.2⟩
    · rename_i e
      obtain ⟨k, rfl, q⟩ := h
      exact .inr (.inl ⟨_, _, rfl, .inl ⟨_, k, .inl e, rfl, rfl⟩, q⟩)
    · rename_i e
      obtain ⟨k, rfl, q⟩ := h
      exact .inr (.inl ⟨_, _, rfl, .inl ⟨_, k, .inr ⟨_, e⟩, rfl, rfl⟩, q⟩)
    · exact h.elim
  · exact h.elim
theorem op_notInF (hu : X.A.units + 64 < cLine) : OpR X (compareOp .NotIn) rNotInF := OpR.imp (op_notInU hu) fun x y H Q h => by
  unfold rNotInF inF at h
  split at h
  · obtain ⟨c, rfl, q⟩ := h
    exact .inr (.inr ⟨c, _, rfl, rfl, q⟩)
  · split at h
    · rename_i e
      exact .inl ⟨_, _, rfl, .inl (.inl (.inl e)), h.1, h.2.1, h.2.2⟩
    · rename_i e
      exact .inl ⟨_, _, rfl, .inr (.inl (.inl e)), h.1, h.2.1, h.2.2⟩
    · rename_i e
      obtain ⟨k, rfl, q⟩ := h
      exact .inr (.inl ⟨_, _, rfl, .inl ⟨_, k, .inl e, rfl, rfl⟩, q⟩)
    · rename_i e
      obtain ⟨k, rfl, q⟩ := h
      exact .inr (.inl ⟨_, _, rfl, .inl ⟨_, k, .inr ⟨_, e⟩, rfl, rfl⟩, q⟩)
    · exact h.elim
  · exact h.elim
/-- x[y] -/
def rIxF : R2 := fun x y H Q => match x with
  | .str z => ∃ i c, y = .int i ∧ z.length ≤ sizeLine ∧ atI z.cps.toList i = some c ∧ Q (.str ⟨#[c]⟩) H
  | .ref p => match H p with
    | some (.lst xs) => ∃ i v, y = .int i ∧ atI xs i = some v ∧ Q v H
    | some (.tup xs) => ∃ i v, y = .int i ∧ atI xs i = some v ∧ Q v H
    | some (.dK kvs) => ∃ k v, y = kV k ∧ valV kvs k = some v ∧ Q v H
    | some (.frz _ (.dK kvs)) => ∃ k v, y = kV k ∧ valV kvs k = some v ∧ Q v H
    | _ => False
  | _ => False
theorem ix_F (hu : X.A.units + 64 < cLine) : IxR X rIxF := IxR.imp (ix_U hu) fun x y H Q h => by
  unfold rIxF at h
  split at h
  · obtain ⟨i, c, rfl, hz, e, q⟩ := h
    exact .inl (.inr (.inr ⟨_, i, c, rfl, rfl, hz, e, q⟩))
  · split at h
    · rename_i e
      obtain ⟨i, v, rfl, e2, q⟩ := h
      exact .inl (.inl ⟨_, _, i, v, rfl, rfl, .inl (.inl e), e2, q⟩)
    · rename_i e
      obtain ⟨i, v, rfl, e2, q⟩ := h
      exact .inl (.inr (.inl ⟨_, _, i, v, rfl, rfl, .inl (.inl e), e2, q⟩))
    · rename_i e
      obtain ⟨k, v, rfl, e2, q⟩ := h
      exact .inr ⟨_, v, rfl, .inl ⟨_, k, .inl e, rfl, e2.symm⟩, q⟩
    · rename_i e
      obtain ⟨k, v, rfl, e2, q⟩ := h
      exact .inr ⟨_, v, rfl, .inl ⟨_, k, .inr ⟨_, e⟩, rfl, e2.symm⟩, q⟩
    · exact h.elim
  · exact h.elim
/-- o[i] = v -/
def rSetF : V → V → V → Hp → (Hp → Prop) → Prop := fun o i v H Q => match o with
  | .ref p => match H p with
    | some (.lst xs) => ∃ k j, i = .int k ∧ ixN xs.length k = some j ∧ Q (upd H p (.lst (xs.set j v)))
    | some (.dK kvs) => ∃ k, i = kV k ∧ kvs.length < sizeLine ∧ Q (upd H p (.dK (putK kvs k v)))
    | _ => False
  | _ => False
theorem set_F (hu : X.A.units + 64 < cLine) : PSet X rSetF := by
  intro pins s σ H o i v ov iv vv Q I ro ri rv q
  refine set_U hu pins s σ H o i v ov iv vv Q I ro ri rv ?_
  unfold rSetF at q
  split at q
  · split at q
    · rename_i e
      obtain ⟨k, j, rfl, h, q⟩ := q
      exact .inl ⟨_, _, k, j, rfl, rfl, e, h, q⟩
    · rename_i e
      obtain ⟨k, rfl, h, q⟩ := q
      exact .inr ⟨_, _, rfl, DPut.k e h, q⟩
    · exact q.elim
  · exact q.elim
/-- len -/
def rLenF : List V → Hp → VK → Prop := fun xs H Q => match xs with
  | [.str z] => z.length ≤ sizeLine ∧ Q (.int z.length) H
  | [.ref p] => match H p with
    | some (.lst ys) => Q (.int ys.length) H
    | some (.tup ys) => Q (.int ys.length) H
    | some (.dK kvs) => Q (.int kvs.length) H
    | some (.frz _ (.dK kvs)) => Q (.int kvs.length) H
    | _ => False
  | _ => False
theorem call_lenF : CallR X (.builtin "len") rLenF := CallR.imp call_lenU fun xs H Q h => by
  unfold rLenF at h
  split at h
  · exact .inl ⟨_, _, rfl, ⟨h.1, rfl⟩, h.2⟩
  · split at h
    · rename_i e
      exact .inl ⟨_, _, rfl, .inl ⟨_, .inl (.inl e), rfl⟩, h⟩
    · rename_i e
      exact .inl ⟨_, _, rfl, .inr ⟨_, .inl (.inl e), rfl⟩, h⟩
    · rename_i e
      exact .inr ⟨_, _, rfl, .inl e, h⟩
    · rename_i e
      exact .inr ⟨_, _, rfl, .inr ⟨_, e⟩, h⟩
    · exact h.elim
  · exact h.elim
/-- isinstance with one built-in class -/
def rIsF : List V → Hp → VK → Prop := fun xs H Q => match xs with
  | [x, .ty m] => m ∈ ["int", "str", "bool", "list", "tuple", "dict"] ∧ ∃ n, tyName H x = some n ∧ Q (.bl (isT n m)) H
  | _ => False
theorem call_isF : CallR X (.builtin "isinstance") rIsF := CallR.imp call_isU fun xs H Q h => by
  unfold rIsF at h
  split at h
  · obtain ⟨hm, n, hn, q⟩ := h
    exact is_step hn q hm
  · exact h.elim
/-- a value's truth -/
def truF (x : V) (H : Hp) (Q : Bool → Prop) : Prop := match x with
  | .non => Q false
  | .bl b => Q b
  | .int i => Q (i != 0)
  | .str y => y.length ≤ sizeLine ∧ Q ((y.length : Int) != 0)
  | .ref p => match H p with
    | some (.lst xs) => Q (!xs.isEmpty)
    | some (.tup xs) => Q (!xs.isEmpty)
    | some (.dK kvs) => Q (!kvs.isEmpty)
    | _ => False
  | _ => False
theorem truF_of {K : PySem.W.Frag} {x : V} {H : Hp} {Q : Bool → Prop} (h : truF x H Q) : ∃ k, TruV K x H k ∧ Q k := by
  unfold truF at h
  split at h
  · exact ⟨_, rfl, h⟩
  · exact ⟨_, rfl, h⟩
  · exact ⟨_, rfl, h⟩
  · exact ⟨_, ⟨h.1, rfl⟩, h.2⟩
  · split at h
    · rename_i e
      exact ⟨_, .inl ⟨_, .inl (.inl e), rfl⟩, h⟩
    · rename_i e
      exact ⟨_, .inr (.inl ⟨_, .inl (.inl e), rfl⟩), h⟩
    · rename_i e
      exact ⟨_, .inr (.inr ⟨_, e, rfl⟩), h⟩
    · exact h.elim
  · exact h.elim
def tTru (ta : TE) : TT := fun σ H Q => ta σ H fun x H' => truF x H' fun k => Q k H'
theorem pt_truF {a : Expr} {ta : TE} (ha : PE X a ta) (he : ∀ whole, isTrue a X.env whole = (do let v ← whole; standAt a.pos; holding [v] (truthy v))) : PT X a (tTru ta) := by
  constructor
  intro pins s σ H Q I h
  refine isTrue_plain (thn (ha.run pins s σ H _ I h) ?_) (he _)
  rintro v s1 ⟨x, H1, I1, r1, q1⟩
  exact tru_ok pins s1 σ H1 x v Q I1 r1 (truF_of q1)
/-- order -/
def rLtF : R2 := fun x y H Q => match x, y with
  | .int i, .int j => Q (.bl (decide (i < j))) H
  | .str i, .str j => Q (.bl (decide (i.cps.toList < j.cps.toList))) H
  | _, _ => False
theorem op_ltF : OpR X (compareOp .Lt) rLtF := OpR.imp op_ltU fun x y H Q h => by
  unfold rLtF at h
  split at h
  · exact .inl ⟨_, _, rfl, rfl, h⟩
  · exact .inr ⟨_, _, rfl, rfl, h⟩
  · exact h.elim
def rLeF : R2 := fun x y H Q => match x, y with
  | .int i, .int j => Q (.bl (decide (i ≤ j))) H
  | .str i, .str j => Q (.bl (!decide (j.cps.toList < i.cps.toList))) H
  | _, _ => False
theorem op_leF : OpR X (compareOp .LtE) rLeF := OpR.imp op_leU fun x y H Q h => by
  unfold rLeF at h
  split at h
  · exact .inl ⟨_, _, rfl, rfl, h⟩
  · exact .inr ⟨_, _, rfl, rfl, h⟩
  · exact h.elim
def rGtF : R2 := fun x y H Q => match x, y with
  | .int i, .int j => Q (.bl (decide (j < i))) H
  | .str i, .str j => Q (.bl (decide (j.cps.toList < i.cps.toList))) H
  | _, _ => False
theorem op_gtF : OpR X (compareOp .Gt) rGtF := OpR.imp op_gtU fun x y H Q h => by
  unfold rGtF at h
  split at h
  · exact .inl ⟨_, _, rfl, rfl, h⟩
  · exact .inr ⟨_, _, rfl, rfl, h⟩
  · exact h.elim
def rGeF : R2 := fun x y H Q => match x, y with
  | .int i, .int j => Q (.bl (decide (j ≤ i))) H
  | .str i, .str j => Q (.bl (!decide (i.cps.toList < j.cps.toList))) H
  | _, _ => False
theorem op_geF : OpR X (compareOp .GtE) rGeF := OpR.imp op_geU fun x y H Q h => by
  unfold rGeF at h
  split at h
  · exact .inl ⟨_, _, rfl, rfl, h⟩
  · exact .inr ⟨_, _, rfl, rfl, h⟩
  · exact h.elim
/-- xs.append, index, count -/
def rAppF : V → List V → Hp → VK → Prop := fun x vs H Q => match x, vs with
  | .ref l, [y] => match H l with
    | some (.lst xs) => xs.length < sizeLine ∧ Q .non (upd H l (.lst (xs ++ [y])))
    | _ => False
  | _, _ => False
theorem mt_appF : MtR X "list.append" rAppF := MtR.imp mt_append fun x vs H Q h => by
  unfold rAppF at h
  split at h
  · split at h
    · rename_i e
      exact ⟨_, _, _, rfl, rfl, e, h.1, h.2⟩
    · exact h.elim
  · exact h.elim
def rCntFF : V → List V → Hp → VK → Prop := fun x vs H Q => match x, vs with
  | .ref l, [y] => match H l with
    | some (.lst xs) => flatV y = true ∧ xs.all flatV = true ∧ Q (.int (xs.countP fun z => eqV z y : Nat)) H
    | _ => False
  | _, _ => False
theorem mt_cntF : MtR X "list.count" rCntFF := MtR.imp mt_countF fun x vs H Q h => by
  unfold rCntFF at h
  split at h
  · split at h
    · rename_i e
      exact ⟨_, _, _, rfl, rfl, .inl (.inl e), h.1, h.2.1, h.2.2⟩
    · exact h.elim
  · exact h.elim
/-- a method of a list: the receiver's type told by the heap -/
def isLst (x : V) (H : Hp) : Prop := match x with
  | .ref p => match H p with
    | some (.lst _) => True
    | _ => False
  | _ => False
def tLM (r : V → List V → Hp → VK → Prop) (to : TE) (t : TA) : TE := fun σ H Q => to σ H fun x H1 => isLst x H1 ∧ t σ H1 fun xs H2 => r x xs H2 Q
theorem tyV_list {K : PySem.W.Frag} {x : V} {H : Hp} (h : isLst x H) : tyV K "list" x H := by
  unfold isLst at h
  split at h
  · split at h
    · rename_i e
      exact .inl ⟨rfl, _, .inl (.inl e)⟩
    · exact h.elim
  · exact h.elim
theorem pe_lm {o e : Expr} {es : List Expr} {to : TE} {t : TA} {name : Str} {apos cpos : Pos} {id : String} {r : V → List V → Hp → VK → Prop} (slot : Slot "list" name id) (hty : typeOf (.builtin id) = pure (.type "method_descriptor")) (hm : MtR X id r) (ho : PE X o to) (ha : PA X (e :: es) t)
    (hbase : attributeBase o name X.env (eval o X.env) = eval o X.env := by rfl)
    (hfew : ((backTo cpos (starEach (e :: es) X.env)).all (fun x => !x.1) && (backToKw cpos (keywordEach [] X.env)).all (fun x => x.1.isSome)
      && decide ((e :: es).length + ([] : List Keyword).length + (if ([] : List Keyword).isEmpty then 0 else 1) < 30)) = true := by rfl)
    (hline : (apos.endLine == cpos.line) = true := by rfl) (hs : starEach (e :: es) X.env = (false, eval e X.env) :: starEach es X.env := by rfl) (hplain : (backTo cpos (starEach es X.env)).any (·.1) = false := by rfl) :
    PE X (.Call (.Attribute o name apos) (e :: es) [] cpos) (tLM r to t) := by
  constructor
  intro pins s σ H Q I h
  refine wpAny_Call_method_late hbase hfew hline rfl (thn (ho.run pins s σ H _ I h) ?_)
  rintro v s1 ⟨x, H1, I1, r1, ty, q1⟩
  obtain ⟨h1, h2⟩ := tyV_is I1 r1 (tyV_list ty)
  refine ⟨"list", id, PySem.F.plainAttrs_list, slot, hty, h1, h2, ?_⟩
  have hA := ha.run cpos pins s1 σ H1 _ I1 q1
  rw [hs] at hA ⊢
  refine Calls.callWith_builtin (by exact hplain) (Calls.evalArgs_plain (thn hA ?_))
  rintro us s2 ⟨vs, H2, I2, r2, q2⟩
  exact hm pins s2 σ H2 x vs v us Q I2 r1 r2 q2
/-- xs.index(y), flat items: the first place -/
def rIdxF : V → List V → Hp → VK → Prop := fun x vs H Q => match x, vs with
  | .ref l, [y] => match H l with
    | some (.lst xs) => flatV y = true ∧ xs.all flatV = true ∧ ∃ j, xs.findIdx? (fun z => eqV z y) = some j ∧ Q (.int (j : Nat)) H
    | _ => False
  | _, _ => False
theorem mt_idxF : MtR X "list.index" rIdxF := MtR.imp mt_index fun x vs H Q h => by
  unfold rIdxF at h
  split at h
  · split at h
    · rename_i e
      obtain ⟨f1, f2, j, hj, q⟩ := h
      obtain ⟨hlt, e1, e2⟩ := List.findIdx?_eq_some_iff_getElem.mp hj
      refine ⟨_, _, _, j, _, rfl, rfl, .inl (.inl e), f1, f2, List.getElem?_eq_getElem hlt, e1, fun m z' hm hz => ?_, q⟩
      obtain ⟨hm2, ez⟩ := List.getElem?_eq_some_iff.mp hz
      have := e2 m hm
      rw [ez] at this
      simpa using this
    · exact h.elim
  · exact h.elim
end
/-! ### contexts, told short -/
section
variable {P : Program} {w : World} {K : PySem.W.Frag} {mg : Str → Option Value} {base : Heap} {N : List Str} {qual : Str} {scope : Scope} {f : Addr} {cdv : Value} {A : Around} {outer : List Env} {s : Shared} {H : Hp} {E : XK}
theorem cxB_K : (cxB P w K mg base N qual scope f cdv A outer s H E).K = K := rfl
end
end Pk

namespace Pk
open PySem PySem.Spec PyProof.Rows L2
/-! ### the readings' equations, each at values that are told -/
section
variable {H : Hp} {Q : VK} {i j : Int} {x y z : Str} {b c : Bool} {p q : Addr} {xs ys : List V} {kvs : List (Key × V)} {v u : V}
theorem qAddI : rAddF (.int i) (.int j) H Q = Q (.int (i + j)) H := rfl
theorem qAddS : rAddF (.str x) (.str y) H Q = (x.length + y.length ≤ sizeLine ∧ Q (.str (x ++ y)) H) := rfl
theorem qAddL (h : H p = some (.lst xs)) (h2 : H q = some (.lst ys)) : rAddF (.ref p) (.ref q) H Q = (xs.length + ys.length ≤ sizeLine ∧ ∀ a, H a = none → Q (.ref a) (upd H a (.lst (xs ++ ys)))) := by
  unfold rAddF; simp only [h, h2]
theorem qAddT (h : H p = some (.tup xs)) (h2 : H q = some (.tup ys)) : rAddF (.ref p) (.ref q) H Q = (xs.length + ys.length ≤ sizeLine ∧ (xs = [] → Q (.ref q) H) ∧ (xs ≠ [] → ys = [] → Q (.ref p) H) ∧ (xs ≠ [] → ys ≠ [] → ∀ a, H a = none → Q (.ref a) (upd H a (.tup (xs ++ ys))))) := by
  unfold rAddF; simp only [h, h2]
theorem qMulI : rMulF (.int i) (.int j) H Q = (CMul i j ∧ Q (.int (i * j)) H) := rfl
theorem qMulL (h : H p = some (.lst xs)) : rMulF (.ref p) (.int i) H Q = (-(2 ^ 63) ≤ i ∧ i < 2 ^ 63 ∧ xs.length * i.toNat ≤ sizeLine ∧ ∀ a, H a = none → Q (.ref a) (upd H a (.lst (List.replicate i.toNat xs).flatten))) := by
  unfold rMulF; simp only [h]
theorem qSubI {g : Int → Int → V} : rI0 g (.int i) (.int j) H Q = Q (g i j) H := by
  unfold rI0; simp
theorem qI {C : Int → Int → Prop} {g : Int → Int → V} : rI C g (.int i) (.int j) H Q = (C i j ∧ Q (g i j) H) := by
  unfold rI; simp
theorem qUI {g : Int → V} : rU g (.int i) H Q = Q (g i) H := by
  unfold rU; simp
theorem qEqS {K : PySem.W.Frag} (h : scal u v = true) : rEqF K u v H Q = Q (.bl (decide (u = v))) H := by
  unfold rEqF; rw [h]
theorem qNeS {K : PySem.W.Frag} (h : scal u v = true) : rNeF K u v H Q = Q (.bl (!decide (u = v))) H := by
  unfold rNeF; rw [h]
theorem scNI : scal .non (.int i) = true := Eq.trans rfl rfl
theorem scIN : scal (.int i) .non = true := Eq.trans rfl rfl
theorem scNS : scal .non (.str x) = true := Eq.trans rfl rfl
theorem scSN : scal (.str x) .non = true := Eq.trans rfl rfl
theorem scNB : scal .non (.bl b) = true := Eq.trans rfl rfl
theorem scBN : scal (.bl b) .non = true := Eq.trans rfl rfl
theorem scNN : scal .non .non = true := Eq.trans rfl rfl
theorem scII : scal (.int i) (.int j) = true := Eq.trans rfl rfl
theorem scSS : scal (.str x) (.str y) = true := Eq.trans rfl rfl
theorem scBB : scal (.bl b) (.bl c) = true := Eq.trans rfl rfl
theorem scIS : scal (.int i) (.str x) = true := Eq.trans rfl rfl
theorem scSI : scal (.str x) (.int i) = true := Eq.trans rfl rfl
theorem scBS : scal (.bl b) (.str x) = true := Eq.trans rfl rfl
theorem scSB : scal (.str x) (.bl b) = true := Eq.trans rfl rfl
theorem qInL (h : H p = some (.lst xs)) (f1 : flatV v = true) (f2 : xs.all flatV = true) : rInF v (.ref p) H Q = Q (.bl (inV v xs)) H := by
  unfold rInF inF; simp only [h, f1, f2, true_and]
theorem qInT (h : H p = some (.tup xs)) (f1 : flatV v = true) (f2 : xs.all flatV = true) : rInF v (.ref p) H Q = Q (.bl (inV v xs)) H := by
  unfold rInF inF; simp only [h, f1, f2, true_and]
theorem qNiL (h : H p = some (.lst xs)) (f1 : flatV v = true) (f2 : xs.all flatV = true) : rNotInF v (.ref p) H Q = Q (.bl (!inV v xs)) H := by
  unfold rNotInF inF; simp only [h, f1, f2, true_and]
theorem qNiT (h : H p = some (.tup xs)) (f1 : flatV v = true) (f2 : xs.all flatV = true) : rNotInF v (.ref p) H Q = Q (.bl (!inV v xs)) H := by
  unfold rNotInF inF; simp only [h, f1, f2, true_and]
theorem kV_eq_str {k : Key} : (V.str x = kV k) = (k = Sum.inr x) := by
  cases k <;> simp [kV, eq_comm]
theorem kV_eq_int {k : Key} : (V.int i = kV k) = (k = Sum.inl i) := by
  cases k <;> simp [kV, eq_comm]
theorem qInDs (h : Rd H p (.dK kvs)) : rInF (.str x) (.ref p) H Q = Q (.bl (valV kvs (Sum.inr x)).isSome) H := by
  rcases h with h | ⟨o, h⟩ <;> (unfold rInF inF; simp only [h, kV_eq_str, exists_eq_left])
theorem qNiDs (h : Rd H p (.dK kvs)) : rNotInF (.str x) (.ref p) H Q = Q (.bl (!(valV kvs (Sum.inr x)).isSome)) H := by
  rcases h with h | ⟨o, h⟩ <;> (unfold rNotInF inF; simp only [h, kV_eq_str, exists_eq_left])
theorem qInDi (h : Rd H p (.dK kvs)) : rInF (.int i) (.ref p) H Q = Q (.bl (valV kvs (Sum.inl i)).isSome) H := by
  rcases h with h | ⟨o, h⟩ <;> (unfold rInF inF; simp only [h, kV_eq_int, exists_eq_left])
theorem qNiDi (h : Rd H p (.dK kvs)) : rNotInF (.int i) (.ref p) H Q = Q (.bl (!(valV kvs (Sum.inl i)).isSome)) H := by
  rcases h with h | ⟨o, h⟩ <;> (unfold rNotInF inF; simp only [h, kV_eq_int, exists_eq_left])
theorem qInS {ch : Nat} : rInF (.str ⟨#[ch]⟩) (.str z) H Q = Q (.bl (decide (ch ∈ z.cps.toList))) H := by
  unfold rInF inF; simp
theorem qIxL (h : H p = some (.lst xs)) : rIxF (.ref p) (.int i) H Q = ∃ v, atI xs i = some v ∧ Q v H := by
  unfold rIxF; simp [h]
theorem qIxT (h : H p = some (.tup xs)) : rIxF (.ref p) (.int i) H Q = ∃ v, atI xs i = some v ∧ Q v H := by
  unfold rIxF; simp [h]
theorem qIxDs (h : Rd H p (.dK kvs)) : rIxF (.ref p) (.str x) H Q = ∃ v, valV kvs (Sum.inr x) = some v ∧ Q v H := by
  rcases h with h | ⟨o, h⟩ <;> (unfold rIxF; simp [h, kV_eq_str])
theorem qIxDi (h : Rd H p (.dK kvs)) : rIxF (.ref p) (.int i) H Q = ∃ v, valV kvs (Sum.inl i) = some v ∧ Q v H := by
  rcases h with h | ⟨o, h⟩ <;> (unfold rIxF; simp [h, kV_eq_int])
theorem qIxS : rIxF (.str z) (.int i) H Q = (z.length ≤ sizeLine ∧ ∃ ch, atI z.cps.toList i = some ch ∧ Q (.str ⟨#[ch]⟩) H) := by
  unfold rIxF; simp
theorem qSetL {R : Hp → Prop} (h : H p = some (.lst xs)) : rSetF (.ref p) (.int i) v H R = ∃ j, ixN xs.length i = some j ∧ R (upd H p (.lst (xs.set j v))) := by
  unfold rSetF; simp [h]
theorem qSetDs {R : Hp → Prop} (h : H p = some (.dK kvs)) : rSetF (.ref p) (.str x) v H R = (kvs.length < sizeLine ∧ R (upd H p (.dK (putK kvs (Sum.inr x) v)))) := by
  unfold rSetF; simp [h, kV_eq_str]
theorem qSetDi {R : Hp → Prop} (h : H p = some (.dK kvs)) : rSetF (.ref p) (.int i) v H R = (kvs.length < sizeLine ∧ R (upd H p (.dK (putK kvs (Sum.inl i) v)))) := by
  unfold rSetF; simp [h, kV_eq_int]
theorem qLenS : rLenF [.str z] H Q = (z.length ≤ sizeLine ∧ Q (.int z.length) H) := rfl
theorem qLenL (h : H p = some (.lst xs)) : rLenF [.ref p] H Q = Q (.int xs.length) H := by
  unfold rLenF; simp only [h]
theorem qLenT (h : H p = some (.tup xs)) : rLenF [.ref p] H Q = Q (.int xs.length) H := by
  unfold rLenF; simp only [h]
theorem qLenD (h : Rd H p (.dK kvs)) : rLenF [.ref p] H Q = Q (.int kvs.length) H := by
  rcases h with h | ⟨o, h⟩ <;> (unfold rLenF; simp only [h])
theorem qIs {m : String} : rIsF [v, .ty m] H Q = (m ∈ ["int", "str", "bool", "list", "tuple", "dict"] ∧ ∃ n, tyName H v = some n ∧ Q (.bl (isT n m)) H) := rfl
theorem okInt : ("int" ∈ ["int", "str", "bool", "list", "tuple", "dict"]) = True := by decide
theorem okStr : ("str" ∈ ["int", "str", "bool", "list", "tuple", "dict"]) = True := by decide
theorem okBool : ("bool" ∈ ["int", "str", "bool", "list", "tuple", "dict"]) = True := by decide
theorem okList : ("list" ∈ ["int", "str", "bool", "list", "tuple", "dict"]) = True := by decide
theorem okTup : ("tuple" ∈ ["int", "str", "bool", "list", "tuple", "dict"]) = True := by decide
theorem okDict : ("dict" ∈ ["int", "str", "bool", "list", "tuple", "dict"]) = True := by decide
theorem tyNon : tyName H .non = some "NoneType" := rfl
theorem tyBl : tyName H (.bl b) = some "bool" := rfl
theorem tyInt : tyName H (.int i) = some "int" := rfl
theorem tyStr : tyName H (.str x) = some "str" := rfl
theorem tyLst (h : H p = some (.lst xs)) : tyName H (.ref p) = some "list" := by
  unfold tyName; simp only [h]
theorem tyTup (h : H p = some (.tup xs)) : tyName H (.ref p) = some "tuple" := by
  unfold tyName; simp only [h]
theorem tyDK (h : H p = some (.dK kvs)) : tyName H (.ref p) = some "dict" := by
  unfold tyName; simp only [h]
theorem qTN {R : Bool → Prop} : truF .non H R = R false := rfl
theorem qTB {R : Bool → Prop} : truF (.bl b) H R = R b := rfl
theorem qTI {R : Bool → Prop} : truF (.int i) H R = R (i != 0) := rfl
theorem qTS {R : Bool → Prop} : truF (.str x) H R = (x.length ≤ sizeLine ∧ R ((x.length : Int) != 0)) := rfl
theorem qTL {R : Bool → Prop} (h : H p = some (.lst xs)) : truF (.ref p) H R = R (!xs.isEmpty) := by
  unfold truF; simp only [h]
theorem qLtI : rLtF (.int i) (.int j) H Q = Q (.bl (decide (i < j))) H := rfl
theorem qLeI : rLeF (.int i) (.int j) H Q = Q (.bl (decide (i ≤ j))) H := rfl
theorem qGtI : rGtF (.int i) (.int j) H Q = Q (.bl (decide (j < i))) H := rfl
theorem qGeI : rGeF (.int i) (.int j) H Q = Q (.bl (decide (j ≤ i))) H := rfl
theorem qLtS : rLtF (.str x) (.str y) H Q = Q (.bl (decide (x.cps.toList < y.cps.toList))) H := rfl
theorem qLeS : rLeF (.str x) (.str y) H Q = Q (.bl (!decide (y.cps.toList < x.cps.toList))) H := rfl
theorem qApp (h : H p = some (.lst xs)) : rAppF (.ref p) [v] H Q = (xs.length < sizeLine ∧ Q .non (upd H p (.lst (xs ++ [v])))) := by
  unfold rAppF; simp only [h]
theorem qCnt (h : H p = some (.lst xs)) (f1 : flatV v = true) (f2 : xs.all flatV = true) : rCntFF (.ref p) [v] H Q = Q (.int (xs.countP fun z => eqV z v : Nat)) H := by
  unfold rCntFF; simp only [h, f1, f2, true_and]
theorem qIdx (h : H p = some (.lst xs)) (f1 : flatV v = true) (f2 : xs.all flatV = true) : rIdxF (.ref p) [v] H Q = ∃ j, xs.findIdx? (fun z => eqV z v) = some j ∧ Q (.int (j : Nat)) H := by
  unfold rIdxF; simp only [h, f1, f2, true_and]
theorem flN : flatV .non = true := Eq.trans rfl rfl
theorem flI : flatV (.int i) = true := Eq.trans rfl rfl
theorem flS : flatV (.str x) = true := Eq.trans rfl rfl
theorem flB : flatV (.bl b) = true := Eq.trans rfl rfl
theorem qIsL (h : H p = some (.lst xs)) : isLst (.ref p) H = True := by
  unfold isLst; simp only [h]
end
theorem isT_NoneType_int : isT "NoneType" "int" = false := by decide
theorem isT_NoneType_str : isT "NoneType" "str" = false := by decide
theorem isT_NoneType_bool : isT "NoneType" "bool" = false := by decide
theorem isT_NoneType_list : isT "NoneType" "list" = false := by decide
theorem isT_NoneType_tuple : isT "NoneType" "tuple" = false := by decide
theorem isT_NoneType_dict : isT "NoneType" "dict" = false := by decide
theorem isT_bool_int : isT "bool" "int" = true := by decide
theorem isT_bool_str : isT "bool" "str" = false := by decide
theorem isT_bool_bool : isT "bool" "bool" = true := by decide
theorem isT_bool_list : isT "bool" "list" = false := by decide
theorem isT_bool_tuple : isT "bool" "tuple" = false := by decide
theorem isT_bool_dict : isT "bool" "dict" = false := by decide
theorem isT_int_int : isT "int" "int" = true := by decide
theorem isT_int_str : isT "int" "str" = false := by decide
theorem isT_int_bool : isT "int" "bool" = false := by decide
theorem isT_int_list : isT "int" "list" = false := by decide
theorem isT_int_tuple : isT "int" "tuple" = false := by decide
theorem isT_int_dict : isT "int" "dict" = false := by decide
theorem isT_str_int : isT "str" "int" = false := by decide
theorem isT_str_str : isT "str" "str" = true := by decide
theorem isT_str_bool : isT "str" "bool" = false := by decide
theorem isT_str_list : isT "str" "list" = false := by decide
theorem isT_str_tuple : isT "str" "tuple" = false := by decide
theorem isT_str_dict : isT "str" "dict" = false := by decide
theorem isT_list_int : isT "list" "int" = false := by decide
theorem isT_list_str : isT "list" "str" = false := by decide
theorem isT_list_bool : isT "list" "bool" = false := by decide
theorem isT_list_list : isT "list" "list" = true := by decide
theorem isT_list_tuple : isT "list" "tuple" = false := by decide
theorem isT_list_dict : isT "list" "dict" = false := by decide
theorem isT_tuple_int : isT "tuple" "int" = false := by decide
theorem isT_tuple_str : isT "tuple" "str" = false := by decide
theorem isT_tuple_bool : isT "tuple" "bool" = false := by decide
theorem isT_tuple_list : isT "tuple" "list" = false := by decide
theorem isT_tuple_tuple : isT "tuple" "tuple" = true := by decide
theorem isT_tuple_dict : isT "tuple" "dict" = false := by decide
theorem isT_dict_int : isT "dict" "int" = false := by decide
theorem isT_dict_str : isT "dict" "str" = false := by decide
theorem isT_dict_bool : isT "dict" "bool" = false := by decide
theorem isT_dict_list : isT "dict" "list" = false := by decide
theorem isT_dict_tuple : isT "dict" "tuple" = false := by decide
theorem isT_dict_dict : isT "dict" "dict" = true := by decide
section
variable {H : Hp} {Q : VK} {p : Addr}
theorem sz0 : (0 ≤ sizeLine) = True := by simp
theorem sz1 : (1 ≤ sizeLine) = True := by simp [sizeLine_eq]
theorem sz2 : (2 ≤ sizeLine) = True := by simp [sizeLine_eq]
theorem sz3 : (3 ≤ sizeLine) = True := by simp [sizeLine_eq]
theorem sz4 : (4 ≤ sizeLine) = True := by simp [sizeLine_eq]
theorem sz5 : (5 ≤ sizeLine) = True := by simp [sizeLine_eq]
theorem sz6 : (6 ≤ sizeLine) = True := by simp [sizeLine_eq]
theorem sz7 : (7 ≤ sizeLine) = True := by simp [sizeLine_eq]
theorem sz8 : (8 ≤ sizeLine) = True := by simp [sizeLine_eq]
theorem sz9 : (9 ≤ sizeLine) = True := by simp [sizeLine_eq]
theorem sz10 : (10 ≤ sizeLine) = True := by simp [sizeLine_eq]
theorem sz11 : (11 ≤ sizeLine) = True := by simp [sizeLine_eq]
theorem sz12 : (12 ≤ sizeLine) = True := by simp [sizeLine_eq]
theorem kV_s {z : Str} : kV (Sum.inr z) = .str z := rfl
theorem kV_i {z : Int} : kV (Sum.inl z) = .int z := rfl
theorem rAll_of {K : PySem.W.Frag} {bs : List Bool} (h : H p = some (.lst (bs.map V.bl))) (q : Q (.bl (bs.all id)) H) : rAll K [.ref p] H Q := ⟨p, bs, rfl, .inl (.inl h), q⟩
theorem rAny_of {K : PySem.W.Frag} {bs : List Bool} (h : H p = some (.lst (bs.map V.bl))) (q : Q (.bl (bs.any id)) H) : rAny K [.ref p] H Q := ⟨p, bs, rfl, .inl (.inl h), q⟩
theorem rSum_of {K : PySem.W.Frag} {ns : List Int} (h : H p = some (.lst (ns.map V.int))) (q : Q (.int ns.sum) H) : rSum K [.ref p] H Q := ⟨p, ns, rfl, .inl (.inl h), q⟩
theorem filter_all {α : Type} (l : List α) : (l.filter fun _ => true) = l := by
  rw [List.filter_eq_self]; intros; rfl
end
end Pk

namespace Pk
open PySem PySem.Spec PyProof.Rows L2
/-! ### the tasks: the data -/
structure TaskS where
  name : Str
  maker : Str
  runs : Bool
  rows : List (Option Int)
inductive TR where
  | tI | tO | tK | aI (i : Nat) | aO (i : Nat) | aR (i : Nat)
  deriving DecidableEq
abbrev fTask (m : Str) (b : Bool) (r : Addr) : List (Str × V) := [("maker", .str m), ("runs", .bl b), ("rows", .ref r)]
abbrev fTasks (k : Addr) : List (Str × V) := [("known", .ref k)]
def frzO : Option Obj → HO → HO
  | none, u => u
  | some o, u => .frz o u
def tKvs (A : TR → Addr) (ts : List TaskS) : List (Key × V) := ts.mapIdx fun i t => (Sum.inr t.name, V.ref (A (.aI i)))
def tCt (K : PySem.W.Frag) (lk : Option Obj) (A : TR → Addr) (ts : List TaskS) : TR → Option HO
  | .tI => some (.ins (ga K "Tasks") (A .tO) (fTasks (A .tK)))
  | .tO => some (.own (A .tI))
  | .tK => some (frzO lk (.dK (tKvs A ts)))
  | .aI i => (ts[i]?).map fun t => .ins (ga K "Task") (A (.aO i)) (fTask t.maker t.runs (A (.aR i)))
  | .aO i => (ts[i]?).map fun _ => .own (A (.aI i))
  | .aR i => (ts[i]?).map fun t => .lst (t.rows.map optV)
structure WfT (ts : List TaskS) : Prop where
  nd : (ts.map (·.name)).Nodup
  rows : ∀ t, t ∈ ts → t.rows.length = 16
  few : ts.length ≤ 1000
/-- the tasks stand at p, S is theirs -/
structure RepT (K : PySem.W.Frag) (lk : Option Obj) (A : TR → Addr) (ts : List TaskS) (H : Hp) : Prop where
  h : Hold A (tCt K lk A ts) H
  wf : WfT ts
/-- the place of a running task -/
def findT (ts : List TaskS) (z : Str) : Option Nat := ts.findIdx? fun t => decide (t.name = z)
def runIx (ts : List TaskS) : V → Option Nat
  | .str z => match findT ts z with
    | some i => match ts[i]? with
      | some t => if t.runs then some i else none
      | none => none
    | none => none
  | _ => none
theorem findT_some {ts : List TaskS} {z : Str} {i : Nat} (h : findT ts z = some i) : ∃ t, ts[i]? = some t ∧ t.name = z := by
  obtain ⟨hi, e, _⟩ := List.findIdx?_eq_some_iff_getElem.mp h
  exact ⟨ts[i], List.getElem?_eq_getElem hi, of_decide_eq_true e⟩
theorem valV_tKvs (A : TR → Addr) (ts : List TaskS) (z : Str) : valV (tKvs A ts) (Sum.inr z) = (findT ts z).map fun i => V.ref (A (.aI i)) := by
  unfold tKvs findT
  have gen : ∀ (l : List TaskS) (k : Nat), valV (l.mapIdx fun i t => ((Sum.inr t.name : Key), V.ref (A (.aI (i + k))))) (Sum.inr z) = (l.findIdx? fun t => decide (t.name = z)).map fun i => V.ref (A (.aI (i + k))) := by
    intro l
    induction l with
    | nil => intro k; rfl
    | cons t l ih =>
      intro k
      rw [List.mapIdx_cons, List.findIdx?_cons]
      by_cases e : t.name = z
      · subst e
        simp [valV]
      · rw [valV_neg (by intro q; exact e (Sum.inr.inj q))]
        have := ih (k + 1)
        simp only [Nat.add_assoc, Nat.add_comm 1] at this ⊢
        rw [this]
        simp only [decide_eq_true_eq, e, if_false, Option.map_map]
        cases l.findIdx? fun t => decide (t.name = z) <;> simp [Nat.add_comm, Nat.add_left_comm]
  exact gen ts 0
section
variable {K : PySem.W.Frag} {lk : Option Obj} {A : TR → Addr} {ts : List TaskS} {H : Hp}
theorem RepT.tI (R : RepT K lk A ts H) : H (A .tI) = some (.ins (ga K "Tasks") (A .tO) (fTasks (A .tK))) := R.h.at_ .tI _ rfl
theorem RepT.tK (R : RepT K lk A ts H) : Rd H (A .tK) (.dK (tKvs A ts)) := by
  have h := R.h.at_ .tK _ rfl
  cases lk with
  | none => exact .inl h
  | some o => exact .inr ⟨o, h⟩
theorem RepT.aI (R : RepT K lk A ts H) {i : Nat} {t : TaskS} (e : ts[i]? = some t) : H (A (.aI i)) = some (.ins (ga K "Task") (A (.aO i)) (fTask t.maker t.runs (A (.aR i)))) := R.h.at_ (.aI i) _ (by simp [tCt, e])
theorem RepT.aR (R : RepT K lk A ts H) {i : Nat} {t : TaskS} (e : ts[i]? = some t) : H (A (.aR i)) = some (.lst (t.rows.map optV)) := R.h.at_ (.aR i) _ (by simp [tCt, e])
theorem RepT.dget (R : RepT K lk A ts H) (z : Str) : DGet H (A .tK) (.str z) ((findT ts z).map fun i => V.ref (A (.aI i))) :=
  .inl ⟨_, Sum.inr z, R.tK, rfl, (valV_tKvs A ts z).symm⟩
theorem RepT.same {H' : Hp} (R : RepT K lk A ts H) (s : Same H H') : RepT K lk A ts H' := ⟨R.h.same s, R.wf⟩
end
end Pk

namespace Pk
open PySem PySem.Spec PyProof.Rows L2
/-! ### a comprehension that only reads: what is kept, what is made of it -/
theorem none_of {H H' : Hp} (s : Same H H') {a : Addr} (h : H' a = none) : H a = none := by
  cases e : H a with
  | none => rfl
  | some o => rw [s _ _ e] at h; cases h
theorem take_snoc {α : Type} {l : List α} {i : Nat} {x : α} (h : l[i]? = some x) : l.take (i + 1) = l.take i ++ [x] := by
  rw [List.take_add_one, h]; rfl
/-- a list of which the first i are changed already -/
def mid {α : Type} (f : α → α) (l : List α) (i : Nat) : List α := (l.take i).map f ++ l.drop i
theorem mid_zero {α : Type} (f : α → α) (l : List α) : mid f l 0 = l := by simp [mid]
theorem mid_full {α : Type} (f : α → α) (l : List α) {n : Nat} (h : l.length ≤ n) : mid f l n = l.map f := by simp [mid, List.take_of_length_le h, List.drop_eq_nil_of_le h]
theorem mid_len {α : Type} (f : α → α) (l : List α) (i : Nat) : (mid f l i).length = l.length := by simp [mid]; omega
theorem mid_get {α : Type} (f : α → α) (l : List α) (i : Nat) : (mid f l i)[i]? = l[i]? := by
  unfold mid
  by_cases h : i < l.length
  · rw [List.getElem?_append_right (by simp; omega)]
    simp [Nat.min_eq_left (Nat.le_of_lt h)]
  · have h2 : l.length ≤ i := by omega
    rw [List.getElem?_eq_none h2, List.getElem?_eq_none (by simp; omega)]
theorem mid_set {α : Type} {f : α → α} {l : List α} {i : Nat} {a : α} (e : l[i]? = some a) : (mid f l i).set i (f a) = mid f l (i + 1) := by
  obtain ⟨h, ea⟩ := List.getElem?_eq_some_iff.mp e
  unfold mid
  rw [take_snoc e, List.map_append, List.append_assoc, List.set_append_right _ _ (by simp; omega)]
  congr 1
  rw [List.length_map, List.length_take, Nat.min_eq_left (Nat.le_of_lt h), Nat.sub_self, List.drop_eq_getElem_cons h, ea]
  rfl
theorem mid_skip {α : Type} {f : α → α} {l : List α} {i : Nat} {a : α} (e : l[i]? = some a) (hf : f a = a) : mid f l (i + 1) = mid f l i := by
  rw [← mid_set e, hf]
  have := mid_get f l i
  rw [e] at this
  obtain ⟨h, ea⟩ := List.getElem?_eq_some_iff.mp this
  rw [← ea, List.set_getElem_self]
theorem fresh {H : Hp} {a b : Addr} {o : HO} (h : upd H a o b = none) : b ≠ a ∧ H b = none := by
  have n : b ≠ a := fun z => by rw [z, upd_same] at h; cases h
  rw [upd_ne n] at h
  exact ⟨n, h⟩
/-- all but lists is kept -/
def KeepNL (H H' : Hp) : Prop := ∀ b o, (∀ l, o ≠ .lst l) → H b = some o → H' b = some o
theorem KeepNL.of_same {H H' : Hp} (s : Same H H') : KeepNL H H' := fun b o _ e => s b o e
theorem paired_snoc {α β : Type} {R : α → β → Prop} : ∀ {xs : List α} {ys : List β} {x : α} {y : β}, Paired R xs ys → R x y → Paired R (xs ++ [x]) (ys ++ [y])
  | _, _, _, _, .nil, r => .cons r .nil
  | _, _, _, _, .cons q t, r => .cons q (paired_snoc t r)
theorem paired_imp {α β : Type} {R R' : α → β → Prop} {xs : List α} {ys : List β} (h : Paired R xs ys) (i : ∀ x y, R x y → R' x y) : Paired R' xs ys := by
  induction h with
  | nil => exact .nil
  | cons r _ ih => exact .cons (i _ _ r) ih
theorem paired_getR {α β : Type} {R : α → β → Prop} {xs : List α} {ys : List β} (h : Paired R xs ys) : ∀ {i : Nat} {y : β}, ys[i]? = some y → ∃ x, xs[i]? = some x ∧ R x y := by
  induction h with
  | nil => intro i y e; cases e
  | cons r _ ih =>
    intro i y e
    cases i with
    | zero => cases e; exact ⟨_, rfl, r⟩
    | succ i => exact ih e
theorem paired_eq {α : Type} {f : α → V} {xs : List α} {ys : List V} (h : Paired (fun a y => y = f a) xs ys) : ys = xs.map f := by
  induction h with
  | nil => rfl
  | cons r _ ih => rw [r, ih]; rfl
theorem paired_map {α β γ : Type} {f : α → β} {R : β → γ → Prop} {xs : List α} {ys : List γ} (h : Paired (fun a y => R (f a) y) xs ys) : Paired R (xs.map f) ys := by
  induction h with
  | nil => exact .nil
  | cons r _ ih => exact .cons r ih
theorem lc_gen {J : It} {n : Nat} {G : Hp → Prop} {Y : Nat → Hp → V → Hp → Prop} (w : Walk J n G Y) {α : Type} (src : List α) (hn : src.length = n) (keep : α → Bool) (R : α → V → Hp → Prop) {g : TG} {tt : TT} {te : TE} {vs : List Nat} {σ : L2.St} {H1 : Hp} {D : Addr} {Qd : Hp → Prop}
    (hR : ∀ a y H H', KeepNL H H' → R a y H → R a y H') (hG : ∀ H, Same H1 H → G H) (hD : H1 D = none) (hz : n ≤ 100000)
    (hs : ∀ i a x H H' (C : V → Hp → Prop) (N : Hp → Prop), src[i]? = some a → Same H1 H → Y i H x H' → (keep a = true → ∀ y H4, Same H H4 → R a y H4 → C y H4) → (keep a = false → ∀ H3, Same H H3 → N H3) →
      g x (wipe σ vs) H' fun σ2 H2 => wipe σ2 vs = wipe σ vs ∧ tt σ2 H2 fun b H3 => if b = true then te σ2 H3 C else N H3)
    (hd : ∀ H ys, Same H1 H → H D = some (.lst ys) → Paired (fun a y => R a y H) (src.filter keep) ys → Qd H) :
    ∃ W : Nat → Nat → Hp → Prop, (∃ m, W 0 m (upd H1 D (.lst []))) ∧ ∀ i m H, W i m H →
      (J.stop i H ∧ Qd H) ∨ (J.go i H ∧ ∃ Nx : Hp → Prop, (∀ H', Nx H' → ∃ m', m' < m ∧ W (i + 1) m' H') ∧ ∀ x H', J.yld i H x H' → g x (wipe σ vs) H' fun σ2 H2 => wipe σ2 vs = wipe σ vs ∧ tt σ2 H2 fun b H3 =>
        if b = true then te σ2 H3 fun y H4 => ∃ acc, H4 D = some (.lst acc) ∧ acc.length < sizeLine ∧ Nx (upd H4 D (.lst (acc ++ [y]))) else Nx H3) := by
  have s0 : Same H1 (upd H1 D (.lst [])) := same_upd hD
  refine lc_it w (fun i H => Same H1 H ∧ ∃ ys, H D = some (.lst ys) ∧ Paired (fun a y => R a y H) ((src.take i).filter keep) ys) ⟨s0, [], upd_same, .nil⟩ (fun i H _ p => hG H p.1) ?_ ?_
  · rintro i x H H' hi ⟨s, ys, hy, hp⟩ hY
    have hlt : i < src.length := by omega
    have ea := List.getElem?_eq_getElem hlt
    refine hs i src[i] x H H' _ _ ea s hY (fun hk y H4 s4 r => ?_) (fun hk H3 s3 => ?_)
    · have nls : KeepNL H4 (upd H4 D (.lst (ys ++ [y]))) := fun b o ho e => by
        by_cases z : b = D
        · subst z
          rw [s4 _ _ hy] at e
          cases e
          exact absurd rfl (ho ys)
        · rw [upd_ne z]; exact e
      have hl := hp.length
      have hl2 : ((src.take i).filter keep).length ≤ i := Nat.le_trans (List.length_filter_le _ _) (by rw [List.length_take]; omega)
      refine ⟨ys, s4 _ _ hy, ?_, fun b o e => ?_, ys ++ [y], upd_same, ?_⟩
      · have : sizeLine = 16777216 := sizeLine_eq
        omega
      · rw [upd_ne (ne_of_none e hD)]
        exact s4 _ _ (s _ _ e)
      · rw [take_snoc ea, List.filter_append, List.filter_cons, if_pos hk]
        exact paired_snoc (paired_imp hp fun a z q => hR a z _ _ nls (hR a z _ _ (KeepNL.of_same s4) q)) (hR _ _ _ _ nls r)
    · refine ⟨s.trans s3, ys, s3 _ _ hy, ?_⟩
      rw [take_snoc ea, List.filter_append, List.filter_cons, if_neg (by simp [hk]), List.filter_nil, List.append_nil]
      exact paired_imp hp fun a z q => hR a z _ _ (KeepNL.of_same s3) q
  · rintro H ⟨s, ys, hy, hp⟩
    rw [← hn, List.take_length] at hp
    exact hd H ys s hy hp
/-- each item a value of its own -/
theorem lc_map {J : It} {n : Nat} {G : Hp → Prop} {Y : Nat → Hp → V → Hp → Prop} (w : Walk J n G Y) {α : Type} (src : List α) (hn : src.length = n) (keep : α → Bool) (f : α → V) {g : TG} {tt : TT} {te : TE} {vs : List Nat} {σ : L2.St} {H1 : Hp} {D : Addr} {Qd : Hp → Prop}
    (hG : ∀ H, Same H1 H → G H) (hD : H1 D = none) (hz : n ≤ 100000)
    (hs : ∀ i a x H H' (C : V → Hp → Prop) (N : Hp → Prop), src[i]? = some a → Same H1 H → Y i H x H' → (keep a = true → ∀ H4, Same H H4 → C (f a) H4) → (keep a = false → ∀ H3, Same H H3 → N H3) →
      g x (wipe σ vs) H' fun σ2 H2 => wipe σ2 vs = wipe σ vs ∧ tt σ2 H2 fun b H3 => if b = true then te σ2 H3 C else N H3)
    (hd : ∀ H, Same H1 H → H D = some (.lst ((src.filter keep).map f)) → Qd H) :
    ∃ W : Nat → Nat → Hp → Prop, (∃ m, W 0 m (upd H1 D (.lst []))) ∧ ∀ i m H, W i m H →
      (J.stop i H ∧ Qd H) ∨ (J.go i H ∧ ∃ Nx : Hp → Prop, (∀ H', Nx H' → ∃ m', m' < m ∧ W (i + 1) m' H') ∧ ∀ x H', J.yld i H x H' → g x (wipe σ vs) H' fun σ2 H2 => wipe σ2 vs = wipe σ vs ∧ tt σ2 H2 fun b H3 =>
        if b = true then te σ2 H3 fun y H4 => ∃ acc, H4 D = some (.lst acc) ∧ acc.length < sizeLine ∧ Nx (upd H4 D (.lst (acc ++ [y]))) else Nx H3) :=
  lc_gen w src hn keep (fun a y _ => y = f a) (fun _ _ _ _ _ h => h) hG hD hz (fun i a x H H' C N ea s y c1 c2 => hs i a x H H' C N ea s y (fun hk H4 s4 => c1 hk _ H4 s4 rfl) c2)
    fun H ys s hy hp => hd H s (by rw [hy, paired_eq hp])
/-! ### loops, opened at their iterators -/
def forW (J : It) (g : TG) (tb : TS) (D : Ends) (σ : L2.St) (H : Hp) : Prop := ∃ W : Nat → Nat → L2.St → Hp → Prop, (∃ m, W 0 m σ H) ∧ ∀ i m σ H, W i m σ H →
  (J.stop i H ∧ D.nx σ H) ∨ (J.go i H ∧ ∃ N : L2.St → Hp → Prop, (∀ σ' H', N σ' H' → ∃ m', m' < m ∧ W (i + 1) m' σ' H') ∧ ∀ x H', J.yld i H x H' → g x σ H' fun σ2 H2 => tb { D with nx := N, ct := N, bk := D.nx } σ2 H2)
theorem tFor_eq {wi : TI} {g : TG} {tb : TS} {D : Ends} {σ : L2.St} {H : Hp} : tFor wi g tb D σ H = wi σ H fun J H1 => forW J g tb D σ H1 := rfl
def lcW (J : It) (g : TG) (tt : TT) (te : TE) (vs : List Nat) (σ : L2.St) (Q : VK) (H1 : Hp) : Prop := ∀ D, H1 D = none → ∃ W : Nat → Nat → Hp → Prop, (∃ m, W 0 m (upd H1 D (.lst []))) ∧ ∀ i m H, W i m H →
  (J.stop i H ∧ Q (.ref D) H) ∨ (J.go i H ∧ ∃ Nx : Hp → Prop, (∀ H', Nx H' → ∃ m', m' < m ∧ W (i + 1) m' H') ∧ ∀ x H', J.yld i H x H' → g x (wipe σ vs) H' fun σ2 H2 => wipe σ2 vs = wipe σ vs ∧ tt σ2 H2 fun b H3 =>
    if b = true then te σ2 H3 fun y H4 => ∃ acc, H4 D = some (.lst acc) ∧ acc.length < sizeLine ∧ Nx (upd H4 D (.lst (acc ++ [y]))) else Nx H3)
theorem tLc_eq {wi : TI} {g : TG} {tt : TT} {te : TE} {vs : List Nat} {σ : L2.St} {H : Hp} {Q : VK} : tLc wi g tt te vs σ H Q = wi σ H fun J H1 => lcW J g tt te vs σ Q H1 := rfl
theorem for_W {J : It} {n : Nat} {G : Hp → Prop} {Y : Nat → Hp → V → Hp → Prop} (w : Walk J n G Y) {g : TG} {tb : TS} {D : Ends} {σ : L2.St} {H : Hp} (Pv : Nat → L2.St → Hp → Prop) (h0 : Pv 0 σ H) (hG : ∀ i σ H, i ≤ n → Pv i σ H → G H)
    (hs : ∀ i x σ H H', i < n → Pv i σ H → Y i H x H' → g x σ H' fun σ2 H2 => tb { D with nx := Pv (i + 1), ct := Pv (i + 1), bk := D.nx } σ2 H2) (hd : ∀ σ H, Pv n σ H → D.nx σ H) : forW J g tb D σ H := for_it w Pv h0 hG hs hd
theorem lc_W {J : It} {n : Nat} {G : Hp → Prop} {Y : Nat → Hp → V → Hp → Prop} (w : Walk J n G Y) {α : Type} (src : List α) (keep : α → Bool) (f : α → V) {g : TG} {tt : TT} {te : TE} {vs : List Nat} {σ : L2.St} {H1 : Hp} {Q : VK} (hn : src.length = n)
    (hG : ∀ H, Same H1 H → G H) (hz : n ≤ 100000)
    (hs : ∀ i a x H H' (C : V → Hp → Prop) (N : Hp → Prop), src[i]? = some a → Same H1 H → Y i H x H' → (keep a = true → ∀ H4, Same H H4 → C (f a) H4) → (keep a = false → ∀ H3, Same H H3 → N H3) →
      g x (wipe σ vs) H' fun σ2 H2 => wipe σ2 vs = wipe σ vs ∧ tt σ2 H2 fun b H3 => if b = true then te σ2 H3 C else N H3)
    (hd : ∀ D H, H1 D = none → Same H1 H → H D = some (.lst ((src.filter keep).map f)) → Q (.ref D) H) : lcW J g tt te vs σ Q H1 :=
  fun D hD => lc_map w src hn keep f hG hD hz hs fun H s e => hd D H hD s e
theorem lc_G {J : It} {n : Nat} {G : Hp → Prop} {Y : Nat → Hp → V → Hp → Prop} (w : Walk J n G Y) {α : Type} (src : List α) (keep : α → Bool) {H1 : Hp} (R : α → V → Hp → Prop) {g : TG} {tt : TT} {te : TE} {vs : List Nat} {σ : L2.St} {Q : VK} (hn : src.length = n)
    (hR : ∀ a y H H', KeepNL H H' → R a y H → R a y H') (hG : ∀ H, Same H1 H → G H) (hz : n ≤ 100000)
    (hs : ∀ i a x H H' (C : V → Hp → Prop) (N : Hp → Prop), src[i]? = some a → Same H1 H → Y i H x H' → (keep a = true → ∀ y H4, Same H H4 → R a y H4 → C y H4) → (keep a = false → ∀ H3, Same H H3 → N H3) →
      g x (wipe σ vs) H' fun σ2 H2 => wipe σ2 vs = wipe σ vs ∧ tt σ2 H2 fun b H3 => if b = true then te σ2 H3 C else N H3)
    (hd : ∀ D H ys, H1 D = none → Same H1 H → H D = some (.lst ys) → Paired (fun a y => R a y H) (src.filter keep) ys → Q (.ref D) H) : lcW J g tt te vs σ Q H1 :=
  fun D hD => lc_gen w src hn keep R hR hG hD hz hs fun H ys s e p => hd D H ys hD s e p
end Pk

namespace Pk
open PySem PySem.Spec PyProof.Rows L2
/-! ### slices -/
theorem SlR.imp {X : Cx} {r r' : V → Option Int → Option Int → Hp → VK → Prop} (h : L2.SlR X r) (i : ∀ x lo hi H Q, r' x lo hi H Q → r x lo hi H Q) : L2.SlR X r' :=
  fun pins s σ H x v vl vu lo hi sl Q I rx hs pl pu q => h pins s σ H x v vl vu lo hi sl Q I rx hs pl pu (i x lo hi H Q q)
def rSlF : V → Option Int → Option Int → Hp → VK → Prop := fun x lo hi H Q => match x with
  | .str z => z.length ≤ sizeLine ∧ Q (.str (cutS z lo hi)) H
  | .ref a => match H a with
    | some (.lst xs) => ∀ p, H p = none → Q (.ref p) (upd H p (.lst (cutV xs lo hi)))
    | some (.tup xs) => (HT.sIx xs.length 0 lo = 0 ∧ HT.sIx xs.length xs.length hi = xs.length → Q (.ref a) H) ∧ (¬ (HT.sIx xs.length 0 lo = 0 ∧ HT.sIx xs.length xs.length hi = xs.length) → ∀ p, H p = none → Q (.ref p) (upd H p (.tup (cutV xs lo hi))))
    | _ => False
  | _ => False
theorem sl_U {X : Cx} : L2.SlR X rSlF := SlR.imp (L2.SlR.or L2.sl_str (L2.SlR.or L2.sl_list L2.sl_tupA)) fun x lo hi H Q h => by
  unfold rSlF at h
  split at h
  · exact .inl ⟨_, rfl, h.1, h.2⟩
  · split at h
    · rename_i e
      exact .inr (.inl ⟨_, _, rfl, .inl (.inl e), h⟩)
    · rename_i e
      exact .inr (.inr ⟨_, _, rfl, .inl (.inl e), h⟩)
    · exact h.elim
  · exact h.elim
/-! ### list(..) -/
theorem CallR.or {X : Cx} {f : Value} {r r' : List V → Hp → VK → Prop} (h : L2.CallR X f r) (h' : L2.CallR X f r') : L2.CallR X f (fun xs H Q => r xs H Q ∨ r' xs H Q) :=
  fun pins s σ H xs us Q I rx q => q.elim (h pins s σ H xs us Q I rx) (h' pins s σ H xs us Q I rx)
def rListF : List V → Hp → VK → Prop := fun xs H Q => match xs with
  | [.ref p] => match H p with
    | some (.lst ys) => ∀ l, H l = none → Q (.ref l) (upd H l (.lst ys))
    | some (.tup ys) => ∀ l, H l = none → Q (.ref l) (upd H l (.lst ys))
    | some (.dK kvs) => ∀ l, H l = none → Q (.ref l) (upd H l (.lst (kvs.map fun kv => kV kv.1)))
    | some (.frz _ (.dK kvs)) => ∀ l, H l = none → Q (.ref l) (upd H l (.lst (kvs.map fun kv => kV kv.1)))
    | _ => False
  | _ => False
theorem call_listU {X : Cx} (hc : X.calm = true) : L2.CallR X (.type "list") rListF := CallR.imp (CallR.or L2.call_list_of (L2.call_listD hc)) fun xs H Q h => by
  unfold rListF at h
  split at h
  · split at h
    · rename_i e
      exact .inl ⟨_, _, rfl, .inl (.inl (.inl e)), h⟩
    · rename_i e
      exact .inl ⟨_, _, rfl, .inr (.inl (.inl e)), h⟩
    · rename_i e
      exact .inr ⟨_, _, rfl, .inl e, h⟩
    · rename_i e
      exact .inr ⟨_, _, rfl, .inr ⟨_, e⟩, h⟩
    · exact h.elim
  · exact h.elim
/-! ### += -/
def rIpF : TIp := fun x y H Q => match x, y with
  | .int i, .int j => Q (.int (i + j)) H
  | _, _ => False
theorem ip_addU {X : Cx} : PIp X .Add rIpF := fun pins s σ H x y v u Q I r1 r2 h => by
  refine ip_add pins s σ H x y v u Q I r1 r2 ?_
  unfold rIpF at h
  split at h
  · exact ⟨_, _, rfl, rfl, h⟩
  · exact h.elim
/-! ### a lock where it is not locked yet -/
def tLockU (t : TS) : TS := fun D σ H => tLock t D σ H ∨ t D σ H
theorem ps_lockU {X : Cx} {st : Stmt} {t : TS} (h : PS X st t) : PS X st (tLockU t) :=
  ⟨fun pins s σ H D I hw => hw.elim (fun q => (ps_lock h).run pins s σ H D I q) fun q => h.run pins s σ H D I q⟩
def tLockEU (t : TE) : TE := fun σ H Q => tLockE t σ H Q ∨ t σ H Q
theorem pe_lockU {X : Cx} {e : Expr} {t : TE} (h : PE X e t) : PE X e (tLockEU t) :=
  ⟨fun pins s σ H Q I hw => hw.elim (fun q => (pe_lock h).run pins s σ H Q I q) fun q => h.run pins s σ H Q I q⟩
/-! ### and, or of values -/
def tAndF (ta tb : TE) : TE := fun σ H Q => ta σ H fun x H1 => truF x H1 fun k => if k = true then tb σ H1 Q else Q x H1
def tOrF (ta tb : TE) : TE := fun σ H Q => ta σ H fun x H1 => truF x H1 fun k => if k = true then Q x H1 else tb σ H1 Q
section
variable {X : Cx} {a b : Expr} {rest : List Expr} {pos : Pos} {ta tb : TE}
theorem tru_is {pins : List (Addr × Obj)} {s : Shared} {σ : L2.St} {H : Hp} {x : V} {v : Value} {R : Bool → Shared → Prop} (I : Inv X pins σ H s) (rx : RelV x v) {Q : Bool → Prop} (h : truF x H Q) (f : ∀ k s', Inv X pins σ H s' → Q k → R k s') :
    wpAny (model X.prog X.w) X.A (truthy v) R X.xe s := by
  obtain ⟨k, e, q⟩ := truF_of (K := X.K) h
  refine thn (tru_ok pins s σ H x v (fun c H2 => c = k ∧ H2 = H) I rx ⟨k, e, rfl, rfl⟩) ?_
  rintro c s2 ⟨H2, I2, e1, e2⟩
  rw [e2] at I2
  rw [e1]
  exact f k s2 I2 q
theorem pe_andF (ha : PE X a ta) (hb : PE X (.BoolOp .And (b :: rest) pos) tb) : PE X (.BoolOp .And (a :: b :: rest) pos) (tAndF ta tb) := by
  constructor
  intro pins s σ H Q I h
  refine BoolOp_and (thn (ha.run pins s σ H _ I h) ?_)
  rintro v s1 ⟨x, H1, I1, r1, q1⟩
  refine tru_is I1 r1 q1 ?_
  intro k s2 I2 q
  cases k with
  | true => exact hb.run pins s2 σ H1 Q I2 q
  | false => exact ⟨x, H1, I2, r1, q⟩
theorem pe_orF (ha : PE X a ta) (hb : PE X (.BoolOp .Or (b :: rest) pos) tb) : PE X (.BoolOp .Or (a :: b :: rest) pos) (tOrF ta tb) := by
  constructor
  intro pins s σ H Q I h
  refine BoolOp_or (thn (ha.run pins s σ H _ I h) ?_)
  rintro v s1 ⟨x, H1, I1, r1, q1⟩
  refine tru_is I1 r1 q1 ?_
  intro k s2 I2 q
  cases k with
  | false => exact hb.run pins s2 σ H1 Q I2 q
  | true => exact ⟨x, H1, I2, r1, q⟩
end
/-! ### rules within a comprehension's block: the K told -/
section
variable {X : Cx} {K : PySem.W.Frag}
theorem pg_tupB (hK : X.K = K) {es : List Expr} {k : Nat} {t : TGs} {n : Nat} {pos : Pos} (hc : X.calm = true) (h : PGs X es t)
    (hn : (assignEach es X.env).length = n := by rfl) (hst : (assignEach es X.env).findIdx? (·.1) = none := by rfl) : PG X (.Tuple es k pos) (gTup K n t) := by
  subst hK; exact pg_tup hc h hn hst
theorem pe_fldB (hK : X.K = K) {e : Expr} {ta : TE} {f : Str} {pos : Pos} (he : PE X e ta) (hb : attributeBase e f X.env (eval e X.env) = eval e X.env) : PE X (.Attribute e f pos) (tFld K ta f) := by
  subst hK; exact pe_fld he hb
theorem op_eqFB (hK : X.K = K) (hu : X.A.units + 64 < cLine) : OpR X (compareOp .Eq) (rEqF K) := by
  subst hK; exact op_eqF hu
theorem op_neFB (hK : X.K = K) (hu : X.A.units + 64 < cLine) : OpR X (compareOp .NotEq) (rNeF K) := by
  subst hK; exact op_neF hu
theorem cr_allB (hK : X.K = K) (hc : X.calm = true) : CallR X (.builtin "all") (rAll K) := by
  subst hK; exact cr_all hc
theorem cr_anyB (hK : X.K = K) (hc : X.calm = true) : CallR X (.builtin "any") (rAny K) := by
  subst hK; exact cr_any hc
theorem cr_sumB (hK : X.K = K) (hc : X.calm = true) : CallR X (.builtin "sum") (rSum K) := by
  subst hK; exact cr_sum hc
theorem pi_listB (hK : X.K = K) {tg l : Expr} {tl : TE} (hl : PE X l tl) : PI X tg l (iList K tl) := by
  subst hK; exact pi_list hl
theorem pi_tupB (hK : X.K = K) {tg l : Expr} {tl : TE} (hl : PE X l tl) : PI X tg l (iTup K tl) := by
  subst hK; exact pi_tup hl
end
/-! ### a cut between two statements: what holds there, told once -/
def tSeqC (t u : TS) : TS := tSeq t u
theorem pss_consC {X : Cx} {s : Stmt} {r : List Stmt} {t u : TS} (h1 : PS X s t) (h2 : PSs X r u) : PSs X (s :: r) (tSeqC t u) := pss_cons h1 h2
theorem cut_at {t u : TS} {D : Ends} {σ : L2.St} {H : Hp} (M : L2.St → Hp → Prop) (h1 : ∀ N : L2.St → Hp → Prop, (∀ σ' H', M σ' H' → N σ' H') → t { D with nx := N } σ H) (h2 : ∀ σ' H', M σ' H' → u D σ' H') : tSeqC t u D σ H := h1 _ h2
/-! ### equations -/
section
variable {H : Hp} {Q : VK} {i j : Int} {x y z : Str} {p q : Addr} {xs ys : List V} {kvs : List (Key × V)} {lo hi : Option Int}
theorem qSlS : rSlF (.str z) lo hi H Q = (z.length ≤ sizeLine ∧ Q (.str (cutS z lo hi)) H) := rfl
theorem qSlL (h : H p = some (.lst xs)) : rSlF (.ref p) lo hi H Q = ∀ a, H a = none → Q (.ref a) (upd H a (.lst (cutV xs lo hi))) := by
  unfold rSlF; simp only [h]
theorem qLiL (h : H p = some (.lst xs)) : rListF [.ref p] H Q = ∀ l, H l = none → Q (.ref l) (upd H l (.lst xs)) := by
  unfold rListF; simp only [h]
theorem qLiT (h : H p = some (.tup xs)) : rListF [.ref p] H Q = ∀ l, H l = none → Q (.ref l) (upd H l (.lst xs)) := by
  unfold rListF; simp only [h]
theorem qLiD (h : Rd H p (.dK kvs)) : rListF [.ref p] H Q = ∀ l, H l = none → Q (.ref l) (upd H l (.lst (kvs.map fun kv => kV kv.1))) := by
  rcases h with h | ⟨o, h⟩ <;> (unfold rListF; simp only [h])
theorem li_D (h : Rd H p (.dK kvs)) (q : ∀ l, H l = none → Q (.ref l) (upd H l (.lst (kvs.map fun kv => kV kv.1)))) : rListF [.ref p] H Q := by
  rw [qLiD h]; exact q
theorem li_L (h : H p = some (.lst xs)) (q : ∀ l, H l = none → Q (.ref l) (upd H l (.lst xs))) : rListF [.ref p] H Q := by
  rw [qLiL h]; exact q
theorem ix_Ds {k : Str} {v : V} (h : Rd H p (.dK kvs)) (e : valV kvs (Sum.inr k) = some v) (q : Q v H) : rIxF (.ref p) (.str k) H Q := by
  rw [qIxDs h]; exact ⟨v, e, q⟩
theorem int_b {b : Bool} (q : Q (.int (if b then 1 else 0)) H) : rIntU [.bl b] H Q := by
  exact .inl (.inr ⟨b, rfl, q⟩)
theorem qIpI : rIpF (.int i) (.int j) H Q = Q (.int (i + j)) H := rfl
end
end Pk

namespace Pk
open PySem PySem.Spec PyProof.Rows L2
/-! ### the tasks: what changes them -/
def liveT (n : Nat) : TR → Bool
  | .aI i => decide (i < n)
  | .aO i => decide (i < n)
  | .aR i => decide (i < n)
  | _ => true
def FT (A : TR → Addr) (n : Nat) : Addr → Prop := fun a => ∃ r, liveT n r = true ∧ A r = a
section
variable {K : PySem.W.Frag} {lk : Option Obj} {A : TR → Addr} {ts : List TaskS} {H H' : Hp}
theorem live_tCt (r : TR) : (tCt K lk A ts r).isSome = liveT ts.length r := by
  have g : ∀ i, ts[i]?.isSome = decide (i < ts.length) := fun i => by
    by_cases h : i < ts.length
    · simp [h]
    · simp [h]
  cases r <;> simp [tCt, liveT, g]
theorem foot_FT : Foot A (tCt K lk A ts) = FT A ts.length := by
  funext a
  simp only [Foot, FT, live_tCt]
theorem RepT.ne (R : RepT K lk A ts H) {r r' : TR} (h : liveT ts.length r = true) (h' : liveT ts.length r' = true) (n : r ≠ r') : A r ≠ A r' :=
  fun z => n (R.h.inj r r' (by rw [live_tCt]; exact h) (by rw [live_tCt]; exact h') z)
theorem RepT.live (R : RepT K lk A ts H) {a : Addr} (f : FT A ts.length a) : H a ≠ none := R.h.live (by rw [foot_FT]; exact f)
theorem RepT.keep (R : RepT K lk A ts H) (k : ∀ a o, FT A ts.length a → H a = some o → H' a = some o) : RepT K lk A ts H' :=
  ⟨⟨fun r o q => k _ _ ⟨r, by rw [← live_tCt (K := K) (lk := lk) (A := A), q]; rfl, rfl⟩ (R.h.at_ r o q), R.h.inj⟩, R.wf⟩
theorem lt_of_get {i : Nat} {t : TaskS} (e : ts[i]? = some t) : i < ts.length := (List.getElem?_eq_some_iff.mp e).1
theorem tKvs_set {i : Nat} {t t' : TaskS} (e : ts[i]? = some t) (hn : t'.name = t.name) : tKvs A (ts.set i t') = tKvs A ts := by
  unfold tKvs
  apply List.ext_getElem?
  intro j
  rw [List.getElem?_mapIdx, List.getElem?_mapIdx, List.getElem?_set]
  by_cases z : i = j
  · subst z
    simp [lt_of_get e, (List.getElem?_eq_some_iff.mp e).2, hn]
  · simp [z]
theorem WfT.set {i : Nat} {t t' : TaskS} (w : WfT ts) (e : ts[i]? = some t) (hn : t'.name = t.name) (hl : t'.rows.length = 16) : WfT (ts.set i t') := by
  refine ⟨?_, fun u hu => ?_, by rw [List.length_set]; exact w.few⟩
  · have : (ts.set i t').map (·.name) = ts.map (·.name) := by
      rw [List.map_set]
      apply List.ext_getElem?
      intro j
      rw [List.getElem?_set]
      by_cases z : i = j
      · subst z
        simp [lt_of_get e, (List.getElem?_eq_some_iff.mp e).2, hn]
      · simp [z]
    rw [this]; exact w.nd
  · rcases List.mem_or_eq_of_mem_set hu with h | h
    · exact w.rows u h
    · rw [h]; exact hl
/-- a task's rows, anew -/
theorem RepT.upRow (R : RepT K lk A ts H) {i : Nat} {t : TaskS} (e : ts[i]? = some t) {rw' : List (Option Int)} (hl : rw'.length = 16) :
    RepT K lk A (ts.set i { t with rows := rw' }) (upd H (A (.aR i)) (.lst (rw'.map optV))) := by
  refine ⟨R.h.set (r0 := .aR i) (o0 := .lst (t.rows.map optV)) (by simp [tCt, e]) ?_, R.wf.set e rfl hl⟩
  have hi := lt_of_get e
  intro r
  cases r with
  | tI => rfl
  | tO => rfl
  | tK => simp only [tCt, tKvs_set (t' := { t with rows := rw' }) e rfl]; rfl
  | aI j =>
    simp only [tCt, List.getElem?_set, reduceCtorEq, if_false]
    by_cases z : i = j
    · subst z; simp [hi, (List.getElem?_eq_some_iff.mp e).2]
    · simp [z]
  | aO j =>
    simp only [tCt, List.getElem?_set, reduceCtorEq, if_false]
    by_cases z : i = j
    · subst z; simp [hi, (List.getElem?_eq_some_iff.mp e).2]
    · simp [z]
  | aR j =>
    simp only [tCt, List.getElem?_set, TR.aR.injEq]
    by_cases z : i = j
    · subst z; simp [hi, (List.getElem?_eq_some_iff.mp e).2]
    · simp [z, Ne.symm z]
theorem FT.row {i : Nat} {t : TaskS} (e : ts[i]? = some t) : FT A ts.length (A (.aR i)) := ⟨.aR i, by simp [liveT, lt_of_get e], rfl⟩
theorem FT.set (i : Nat) (t' : TaskS) : FT A (ts.set i t').length = FT A ts.length := by rw [List.length_set]
/-- a task's runs, anew -/
theorem RepT.upRuns (R : RepT K lk A ts H) {i : Nat} {t : TaskS} (e : ts[i]? = some t) (b : Bool) :
    RepT K lk A (ts.set i { t with runs := b }) (upd H (A (.aI i)) (.ins (ga K "Task") (A (.aO i)) (fTask t.maker b (A (.aR i))))) := by
  refine ⟨R.h.set (r0 := .aI i) (o0 := .ins (ga K "Task") (A (.aO i)) (fTask t.maker t.runs (A (.aR i)))) (by simp [tCt, e]) ?_, R.wf.set e rfl (R.wf.rows t (List.mem_of_getElem? e))⟩
  have hi := lt_of_get e
  intro r
  cases r with
  | tI => rfl
  | tO => rfl
  | tK => simp only [tCt, tKvs_set (t' := { t with runs := b }) e rfl]; rfl
  | aI j =>
    simp only [tCt, List.getElem?_set, TR.aI.injEq]
    by_cases z : i = j
    · subst z; simp [hi, (List.getElem?_eq_some_iff.mp e).2]
    · simp [z, Ne.symm z]
  | aO j =>
    simp only [tCt, List.getElem?_set, reduceCtorEq, if_false]
    by_cases z : i = j
    · subst z; simp [hi, (List.getElem?_eq_some_iff.mp e).2]
    · simp [z]
  | aR j =>
    simp only [tCt, List.getElem?_set, reduceCtorEq, if_false]
    by_cases z : i = j
    · subst z; simp [hi, (List.getElem?_eq_some_iff.mp e).2]
    · simp [z]
/-- locked, unlocked -/
theorem RepT.lock (R : RepT K none A ts H) (od : Obj) : RepT K (some od) A ts (upd H (A .tK) (.frz od (.dK (tKvs A ts)))) := by
  refine ⟨R.h.set (r0 := .tK) (o0 := .dK (tKvs A ts)) rfl ?_, R.wf⟩
  intro r
  cases r <;> simp [tCt, frzO]
theorem RepT.unlock {od : Obj} (R : RepT K (some od) A ts H) : RepT K none A ts (upd H (A .tK) (.dK (tKvs A ts))) := by
  refine ⟨R.h.set (r0 := .tK) (o0 := .frz od (.dK (tKvs A ts))) rfl ?_, R.wf⟩
  intro r
  cases r <;> simp [tCt, frzO]
theorem RepT.tKn (R : RepT K none A ts H) : H (A .tK) = some (.dK (tKvs A ts)) := R.h.at_ .tK _ rfl
theorem RepT.tKs {od : Obj} (R : RepT K (some od) A ts H) : H (A .tK) = some (.frz od (.dK (tKvs A ts))) := R.h.at_ .tK _ rfl
/-- locked and unlocked again, nothing else having changed but what is new -/
theorem same_unlock {H : Hp} {d : Addr} {u : HO} {o : HO} {H2 : Hp} (e : H d = some u) (s : Same (upd H d o) H2) : Same H (upd H2 d u) := by
  intro b v hb
  by_cases z : b = d
  · subst z
    rw [upd_same, ← e, hb]
  · rw [upd_ne z]
    exact s b v (by rw [upd_ne z]; exact hb)
/-- a task more -/
def addT (A : TR → Addr) (n : Nat) (x dx p : Addr) : TR → Addr
  | .aI i => if i = n then x else A (.aI i)
  | .aO i => if i = n then dx else A (.aO i)
  | .aR i => if i = n then p else A (.aR i)
  | r => A r
theorem tKvs_add {x dx p : Addr} {t : TaskS} : tKvs (addT A ts.length x dx p) (ts ++ [t]) = tKvs A ts ++ [(Sum.inr t.name, .ref x)] := by
  unfold tKvs
  rw [List.mapIdx_append]
  congr 1
  · apply List.ext_getElem?
    intro j
    rw [List.getElem?_mapIdx, List.getElem?_mapIdx]
    cases e : ts[j]? with
    | none => rfl
    | some u =>
      have := lt_of_get e
      have n : j ≠ ts.length := by omega
      simp [addT, n]
  · simp [addT]
theorem RepT.grow (R : RepT K none A ts H) {nm mk : Str} {x dx p : Addr} (fx : H x = none) (fd : H dx = none) (fp : H p = none) (n1 : dx ≠ x) (n2 : p ≠ x) (n3 : p ≠ dx) (nn : findT ts nm = none) (few : ts.length < 1000)
    (hx : H' x = some (.ins (ga K "Task") dx (fTask mk true p))) (hdx : H' dx = some (.own x)) (hp : H' p = some (.lst (List.replicate 16 .non))) (hk : H' (A .tK) = some (.dK (tKvs A ts ++ [(Sum.inr nm, .ref x)])))
    (hkeep : ∀ b o, b ≠ A .tK → H b = some o → H' b = some o) :
    RepT K none (addT A ts.length x dx p) (ts ++ [⟨nm, mk, true, List.replicate 16 none⟩]) H' := by
  have ol : ∀ r, liveT ts.length r = true → ∃ o, H (A r) = some o := fun r h => by
    have q : (tCt K none A ts r).isSome = true := by rw [live_tCt]; exact h
    obtain ⟨o, e⟩ := Option.isSome_iff_exists.mp q
    exact ⟨o, R.h.at_ r o e⟩
  have old : ∀ r, liveT ts.length r = true → A r ≠ x ∧ A r ≠ dx ∧ A r ≠ p := fun r h => by
    obtain ⟨o, e⟩ := ol r h
    exact ⟨fun z => (by rw [z, fx] at e; cases e), fun z => (by rw [z, fd] at e; cases e), fun z => (by rw [z, fp] at e; cases e)⟩
  have kp : ∀ i t, ts[i]? = some t → i ≠ ts.length := fun i t e => by have := lt_of_get e; omega
  have ix : ∀ i, (ts ++ [(⟨nm, mk, true, List.replicate 16 none⟩ : TaskS)])[i]? = if i = ts.length then some ⟨nm, mk, true, List.replicate 16 none⟩ else ts[i]? := fun i => by
    rw [List.getElem?_append]
    by_cases h : i < ts.length
    · have : i ≠ ts.length := by omega
      simp [h, this]
    · by_cases z : i = ts.length
      · subst z; simp
      · have h2 : ts.length ≤ i := by omega
        have h3 : 1 ≤ i - ts.length := by omega
        simp [h, z, List.getElem?_eq_none h2, show ¬ i - ts.length = 0 by omega]
  refine ⟨⟨?_, ?_⟩, ⟨?_, ?_, ?_⟩⟩
  · intro r o e
    cases r with
    | tI =>
      have e2 : tCt K none A ts .tI = some o := e
      exact hkeep _ _ (R.ne (r := .tI) (r' := .tK) rfl rfl (by decide)) (R.h.at_ _ _ e2)
    | tO =>
      have e2 : tCt K none A ts .tO = some o := e
      exact hkeep _ _ (R.ne (r := .tO) (r' := .tK) rfl rfl (by decide)) (R.h.at_ _ _ e2)
    | tK =>
      simp only [tCt, frzO, tKvs_add] at e
      cases e
      exact hk
    | aI i =>
      simp only [tCt, ix] at e
      by_cases z : i = ts.length
      · simp only [z, if_true, Option.map_some, Option.some.injEq] at e
        subst e
        simp only [addT, z, if_true]
        exact hx
      · simp only [z, if_false, addT] at e ⊢
        have hl : liveT ts.length (.aI i) = true := by
          cases q : ts[i]? with
          | none => rw [q] at e; cases e
          | some t => simp [liveT, lt_of_get q]
        refine hkeep _ _ (R.ne hl (r' := .tK) rfl (by simp)) (R.h.at_ (.aI i) o ?_)
        simp only [tCt]
        exact e
    | aO i =>
      simp only [tCt, ix] at e
      by_cases z : i = ts.length
      · simp only [z, if_true, Option.map_some, Option.some.injEq, addT] at e
        subst e
        simp only [addT, z, if_true]
        exact hdx
      · simp only [z, if_false, addT] at e ⊢
        have hl : liveT ts.length (.aO i) = true := by
          cases q : ts[i]? with
          | none => rw [q] at e; cases e
          | some t => simp [liveT, lt_of_get q]
        refine hkeep _ _ (R.ne hl (r' := .tK) rfl (by simp)) (R.h.at_ (.aO i) o ?_)
        simp only [tCt]
        exact e
    | aR i =>
      simp only [tCt, ix] at e
      by_cases z : i = ts.length
      · simp only [z, if_true, Option.map_some, Option.some.injEq, addT, List.map_replicate] at e
        subst e
        simp only [addT, z, if_true]
        exact hp
      · simp only [z, if_false, addT] at e ⊢
        have hl : liveT ts.length (.aR i) = true := by
          cases q : ts[i]? with
          | none => rw [q] at e; cases e
          | some t => simp [liveT, lt_of_get q]
        refine hkeep _ _ (R.ne hl (r' := .tK) rfl (by simp)) (R.h.at_ (.aR i) o ?_)
        simp only [tCt]
        exact e
  · intro r r' q q' z
    rw [live_tCt] at q q'
    have cs : ∀ r, liveT (ts ++ [(⟨nm, mk, true, List.replicate 16 none⟩ : TaskS)]).length r = true → (r = .aI ts.length ∧ addT A ts.length x dx p r = x) ∨ (r = .aO ts.length ∧ addT A ts.length x dx p r = dx) ∨ (r = .aR ts.length ∧ addT A ts.length x dx p r = p) ∨ (liveT ts.length r = true ∧ addT A ts.length x dx p r = A r) := by
      intro r q
      cases r with
      | tI => exact .inr (.inr (.inr ⟨rfl, rfl⟩))
      | tO => exact .inr (.inr (.inr ⟨rfl, rfl⟩))
      | tK => exact .inr (.inr (.inr ⟨rfl, rfl⟩))
      | aI i =>
        by_cases z : i = ts.length
        · subst z; exact .inl ⟨rfl, by simp [addT]⟩
        · simp [liveT] at q; exact .inr (.inr (.inr ⟨by simp [liveT]; omega, by simp [addT, z]⟩))
      | aO i =>
        by_cases z : i = ts.length
        · subst z; exact .inr (.inl ⟨rfl, by simp [addT]⟩)
        · simp [liveT] at q; exact .inr (.inr (.inr ⟨by simp [liveT]; omega, by simp [addT, z]⟩))
      | aR i =>
        by_cases z : i = ts.length
        · subst z; exact .inr (.inr (.inl ⟨rfl, by simp [addT]⟩))
        · simp [liveT] at q; exact .inr (.inr (.inr ⟨by simp [liveT]; omega, by simp [addT, z]⟩))
    rcases cs r q with ⟨e, a⟩ | ⟨e, a⟩ | ⟨e, a⟩ | ⟨e, a⟩ <;> rcases cs r' q' with ⟨e', a'⟩ | ⟨e', a'⟩ | ⟨e', a'⟩ | ⟨e', a'⟩ <;> rw [a, a'] at z <;>
      first
        | (rw [e, e']; done)
        | exact absurd z n1 | exact absurd z.symm n1 | exact absurd z n2 | exact absurd z.symm n2 | exact absurd z n3 | exact absurd z.symm n3
        | exact absurd z (old r e).1 | exact absurd z (old r e).2.1 | exact absurd z (old r e).2.2
        | exact absurd z.symm (old r' e').1 | exact absurd z.symm (old r' e').2.1 | exact absurd z.symm (old r' e').2.2
        | exact R.h.inj r r' (by rw [live_tCt]; exact e) (by rw [live_tCt]; exact e') z
  · rw [List.map_append]
    refine List.nodup_append.mpr ⟨R.wf.nd, by simp, ?_⟩
    intro a ha b hb ab
    simp at hb
    subst hb; subst ab
    obtain ⟨t, ht, he⟩ := List.mem_map.mp ha
    have : findT ts a ≠ none := by
      unfold findT
      rw [Ne, List.findIdx?_eq_none_iff]
      intro all
      have := all t ht
      simp [he] at this
    exact this nn
  · intro t ht
    rcases List.mem_append.mp ht with h | h
    · exact R.wf.rows t h
    · simp at h; rw [h]; simp
  · simp; omega
theorem FT.grow {x dx p : Addr} (fx : H x = none) (fd : H dx = none) (fp : H p = none) (b : Addr) (h : FT (addT A ts.length x dx p) (ts.length + 1) b) : FT A ts.length b ∨ H b = none := by
  obtain ⟨r, q, rfl⟩ := h
  cases r with
  | tI => exact .inl ⟨.tI, rfl, rfl⟩
  | tO => exact .inl ⟨.tO, rfl, rfl⟩
  | tK => exact .inl ⟨.tK, rfl, rfl⟩
  | aI i =>
    by_cases z : i = ts.length
    · subst z; right; simp [addT, fx]
    · left; simp [liveT] at q; exact ⟨.aI i, by simp [liveT]; omega, by simp [addT, z]⟩
  | aO i =>
    by_cases z : i = ts.length
    · subst z; right; simp [addT, fd]
    · left; simp [liveT] at q; exact ⟨.aO i, by simp [liveT]; omega, by simp [addT, z]⟩
  | aR i =>
    by_cases z : i = ts.length
    · subst z; right; simp [addT, fp]
    · left; simp [liveT] at q; exact ⟨.aR i, by simp [liveT]; omega, by simp [addT, z]⟩
end
end Pk

namespace Pk
open PySem PySem.Spec PyProof.Rows L2
/-! ### the tasks' deeds, told plainly -/
theorem runIx_get {ts : List TaskS} {v : V} {i : Nat} (h : runIx ts v = some i) : ∃ t, ts[i]? = some t ∧ t.runs = true ∧ v = .str t.name := by
  unfold runIx at h
  split at h
  · rename_i z
    split at h
    · rename_i j hj
      obtain ⟨t, e, hz⟩ := findT_some hj
      rw [e] at h
      dsimp only at h
      split at h
      · rename_i hr
        cases h
        exact ⟨t, e, hr, by rw [hz]⟩
      · cases h
    · cases h
  · cases h
theorem idx_non (xs : List (Option Int)) : ((xs.map optV).findIdx? fun z => eqV z .non) = xs.findIdx? (·.isNone) := by
  rw [List.findIdx?_map]
  congr 1
  funext x
  cases x <;> rfl
theorem contains_none (xs : List (Option Int)) : xs.contains none = (xs.findIdx? (·.isNone)).isSome := by
  induction xs with
  | nil => rfl
  | cons x xs ih =>
    rw [List.findIdx?_cons]
    cases x with
    | none => rfl
    | some n =>
      have : (some n :: xs).contains none = xs.contains none := by simp
      rw [this, ih]
      cases xs.findIdx? (·.isNone) <;> rfl
theorem ixN_lt {n : Nat} {j : Nat} (h : j < n) : ixN n (j : Int) = some j := by
  unfold ixN
  simp
  omega
theorem keys_tKvs (A : TR → Addr) (ts : List TaskS) : ((tKvs A ts).map fun kv => kV kv.1) = ts.map fun t => .str t.name := by
  unfold tKvs
  apply List.ext_getElem?
  intro j
  rw [List.getElem?_map, List.getElem?_mapIdx, List.getElem?_map]
  cases ts[j]? <;> rfl
/-- the slots that are filled -/
def slotsOf (rows : List (Option Int)) : List (Int × Int) := (rows.zipIdx.filter (·.1.isSome)).map fun a => ((a.2 : Int), a.1.getD 0)
/-- a number taken out of a task's slots -/
def outO (n : Int) (o : Option Int) : Option Int := if o = some n then none else o
def outRow (n : Int) (rows : List (Option Int)) : List (Option Int) := rows.map (outO n)
theorem set_same {α : Type} {l : List α} {i : Nat} {a : α} (e : l[i]? = some a) : l.set i a = l := by
  obtain ⟨h, ea⟩ := List.getElem?_eq_some_iff.mp e
  rw [← ea, List.set_getElem_self]
def outT (n : Int) (t : TaskS) : TaskS := { t with rows := outRow n t.rows }
def outs (n : Int) (ts : List TaskS) : Nat := (ts.map fun t => t.rows.count (some n)).sum
theorem tKvs_mid {A : TR → Addr} (n : Int) {ts : List TaskS} {i : Nat} : tKvs A (mid (outT n) ts i) = tKvs A ts := by
  unfold tKvs
  apply List.ext_getElem?
  intro j
  rw [List.getElem?_mapIdx, List.getElem?_mapIdx]
  unfold mid
  by_cases h : j < i
  · by_cases h2 : j < ts.length
    · rw [List.getElem?_append_left (by simp; omega)]
      simp [h, h2, outT]
    · rw [List.getElem?_eq_none (by simp; omega), List.getElem?_eq_none (by omega)]
  · by_cases h2 : j < ts.length
    · rw [List.getElem?_append_right (by simp; omega)]
      have : min i ts.length = i := by omega
      simp [this, show i + (j - i) = j by omega]
    · rw [List.getElem?_eq_none (by simp; omega), List.getElem?_eq_none (by omega)]
/-- what at(name, slot) tells -/
def atT (rows : List (Option Int)) : V → Option Int
  | .int k => if 0 ≤ k ∧ k < 16 then rows[k.toNat]?.join else none
  | _ => none
/-- what added(name, maker) does -/
def running (ts : List TaskS) : List TaskS := ts.filter (·.runs)
end Pk

namespace Pk
open PySem PySem.Spec PyProof.Rows L2
/-! ### texts by their lists of signs -/
def strL (l : List Nat) : Str := ⟨l.toArray⟩
theorem strL_len (l : List Nat) : (strL l).length = l.length := by simp [strL, Str.length]
theorem strL_tl (l : List Nat) : (strL l).cps.toList = l := by simp [strL]
theorem strL_inj {a b : List Nat} (h : strL a = strL b) : a = b := by
  have := congrArg (fun z : Str => z.cps.toList) h
  simpa [strL] using this
theorem strL_eq (z : Str) : z = strL z.cps.toList := by cases z; simp [strL]
theorem strL_app (a b : List Nat) : strL a ++ strL b = strL (a ++ b) := by
  show Str.append (strL a) (strL b) = _
  simp [Str.append, strL]
theorem cut_L (l : List Nat) (lo hi : Option Int) : cutS (strL l) lo hi = strL ((l.drop (HT.sIx l.length 0 lo)).take (HT.sIx l.length l.length hi - HT.sIx l.length 0 lo)) := by
  unfold cutS
  rw [strL_len, strL_tl]
  rfl
theorem cut_to (l : List Nat) {n : Int} (h : 0 ≤ n) : cutS (strL l) none (some n) = strL (l.take n.toNat) := by
  rw [cut_L]
  have e : ¬ n < 0 := by omega
  simp only [HT.sIx, e, if_false, List.drop_zero, Nat.sub_zero]
  congr 1
  rcases Nat.le_total n.toNat l.length with h | h
  · rw [Nat.min_eq_left h]
  · rw [Nat.min_eq_right h, List.take_of_length_le (Nat.le_refl _), List.take_of_length_le h]
theorem cut_mid (l : List Nat) {a b : Int} (h : 0 ≤ a) (h2 : 0 ≤ b) : cutS (strL l) (some a) (some b) = strL ((l.drop a.toNat).take (b.toNat - a.toNat)) := by
  rw [cut_L]
  have e : ¬ a < 0 := by omega
  have e2 : ¬ b < 0 := by omega
  simp only [HT.sIx, e, e2, if_false]
  congr 1
  by_cases z : a.toNat ≤ l.length
  · rw [Nat.min_eq_left z]
    rcases Nat.le_total b.toNat l.length with h | h
    · rw [Nat.min_eq_left h]
    · rw [Nat.min_eq_right h, List.take_of_length_le (by rw [List.length_drop]; omega), List.take_of_length_le (by rw [List.length_drop]; omega)]
  · rw [show min a.toNat l.length = l.length by omega, List.drop_eq_nil_of_le (Nat.le_refl _), List.drop_eq_nil_of_le (by omega)]
    simp
theorem join_signs : ∀ l : List Nat, Str.join (strL []) (l.map fun c => strL [c]) = strL l
  | [] => rfl
  | [c] => rfl
  | c :: d :: l => by
    have ih := join_signs (d :: l)
    show strL [c] ++ strL [] ++ Str.join (strL []) ((d :: l).map fun c => strL [c]) = _
    rw [ih, strL_app, strL_app]
    rfl
theorem join_L (l : List Nat) : Txt.join (strL []) (l.map fun c => strL [c]) = strL l := by rw [TL.join_eq, join_signs]
/-! ### letters -/
def letters : List Nat := (PySem.Str.ofString "abcdefghijklmnopqrstuvwxyz").cps.toList
def letN (i : Int) : Nat := letters[i.toNat]?.getD 97
theorem letters_eq : letters = [97, 98, 99, 100, 101, 102, 103, 104, 105, 106, 107, 108, 109, 110, 111, 112, 113, 114, 115, 116, 117, 118, 119, 120, 121, 122] := by decide +kernel
theorem abc_len : (PySem.Str.ofString "abcdefghijklmnopqrstuvwxyz").length = 26 := by decide +kernel
theorem abc_le : ((PySem.Str.ofString "abcdefghijklmnopqrstuvwxyz").length ≤ sizeLine) = True := by rw [abc_len, sizeLine_eq]; simp
theorem ix_abc (x : Int) : atI (PySem.Str.ofString "abcdefghijklmnopqrstuvwxyz").cps.toList (x % 26) = some (letN (x % 26)) := by
  have h1 := Int.emod_nonneg x (show (26 : Int) ≠ 0 by decide)
  have h2 := Int.emod_lt_of_pos x (show (0 : Int) < 26 by decide)
  generalize x % 26 = y at h1 h2
  have e : (PySem.Str.ofString "abcdefghijklmnopqrstuvwxyz").cps.toList = letters := rfl
  rw [e]
  unfold atI ixN letN
  have hl : letters.length = 26 := by rw [letters_eq]; rfl
  have h3 : y.toNat < letters.length := by omega
  have h4 : y < (letters.length : Int) := by omega
  simp [h1, h3, h4]
theorem letN_mem (x : Int) : letN x ∈ letters := by
  unfold letN
  cases e : letters[x.toNat]? with
  | none => rw [letters_eq]; decide
  | some c => exact List.mem_of_getElem? e
theorem letN_inj {x y : Int} (hx : 0 ≤ x) (hx2 : x < 26) (hy : 0 ≤ y) (hy2 : y < 26) (h : letN x = letN y) : x = y := by
  have key : ∀ a b : Fin 26, letN (a.val : Int) = letN (b.val : Int) → a = b := by
    unfold letN
    rw [letters_eq]
    decide +kernel
  have := key ⟨x.toNat, by omega⟩ ⟨y.toNat, by omega⟩ (by
    show letN ((x.toNat : Nat) : Int) = letN ((y.toNat : Nat) : Int)
    rw [show ((x.toNat : Nat) : Int) = x by omega, show ((y.toNat : Nat) : Int) = y by omega]; exact h)
  have := congrArg Fin.val this
  dsimp only at this
  omega
/-- one letter -/
theorem one_L (c : Nat) : (⟨#[c]⟩ : Str) = strL [c] := rfl
section
variable {K : PySem.W.Frag} {H : Hp} {z : Str}
theorem tyVs : tyV K "str" (.str z) H = True := by simp [tyV]
end
end Pk

namespace Pk
open PySem PySem.Spec PyProof.Rows L2
/-! ### defs that are called within an except suite, with the exception -/
abbrev SpX := Addr → Value → Option Addr → Sp
structure FnX (P : Program) (w : World) (K : PySem.W.Frag) (mg : Str → Option Value) (base : Heap) (k : Nat) (f : Addr) (fd : FuncData) (ps : List Str) (sp : SpX) : Prop where
  len : ∀ a cls d vs H Q E, sp a cls d vs H Q E → vs.length = ps.length
  run : ∀ (A : Around) (outer : List Env) (s : Shared) (H : Hp) (args : Args) (us : List Value) (vs : List V) (Q : VK) (E : XK) (p : Addr × Obj) (cls : Value) (d : Option Addr),
    L2H.RoomH k A → L2H.Hot1 A p → Zc cls d p.2 → L2H.PinOk outer H s p → Env0 P w K mg base A outer s H → BindsTo s fd args (ps.zip us) → Vals vs us → sp p.1 cls d vs H Q E →
    codeAny (model P w) A (.call (.ref f) args) (CR (L2N.CX P w) outer P w H s Q E) s
/-- the handled exception, in the context -/
structure HotE (X : Cx) (p : Addr × Obj) (cls : Value) (d : Option Addr) : Prop where
  pin : p ∈ X.pn
  hot : L2H.Hot1 X.A p
  z : Zc cls d p.2
abbrev cxX (P : Program) (w : World) (K : PySem.W.Frag) (mg : Str → Option Value) (base : Heap) (N : List Str) (qual : Str) (scope : Scope) (f : Addr) (cdv : Value) (A : Around) (outer : List Env) (s : Shared) (H : Hp) (E : XK) (p : Addr × Obj) : Cx :=
  L2H.cxH (L2N.CX P w) P w K mg base N qual scope f cdv A outer s H E p
section
variable {P : Program} {w : World} {K : PySem.W.Frag} {mg : Str → Option Value} {base : Heap}
theorem FnX.of {x qual : Str} {params : Arguments} {body : List Stmt} {scope : Scope} {dvs : List V} {kws : List (Str × V)} {f : Addr} {fd : FuncData} {N ps : List Str} {k : Nat} {sp : SpX} (F : FunD K x qual params body scope dvs kws f fd) (S : FnScope N ps scope)
    (len : ∀ a cls d vs H Q E, sp a cls d vs H Q E → vs.length = ps.length)
    (hbody : ∀ (cdv : Value) (A : Around) (outer : List Env) (s : Shared) (H : Hp) (vs : List V) (Q : VK) (E : XK) (p : Addr × Obj) (cls : Value) (d : Option Addr),
      HotE (cxX P w K mg base N qual scope f cdv A outer s H E p) p cls d → L2H.RoomH k (A.deeper (envOfC qual scope s.heap.objs.size f cdv)) → sp p.1 cls d vs H Q E →
      ∃ t, PSs (cxX P w K mg base N qual scope f cdv A outer s H E p) body t ∧ t { nx := fun _ H' => Q .non H', rt := Q } (L2.start N vs) H) :
    FnX P w K mg base (k + 1) f fd ps sp := by
  obtain ⟨oc, od, dV, kV, doc, pm, an, cdv, ct, osl, same, look, code, _, _⟩ := F.ex
  subst same
  constructor
  · exact len
  intro A outer s H args us vs Q E p cls d room hot z pin env bind vals want
  have size := len _ _ _ _ _ _ _ want
  have inK : K.In s.heap := by
    refine env.mod.kin.keeps ?_
    intro b o e
    exact (env.bs b o e).1
  have noLim : s.heap.NoLimit := by
    refine env.mod.nolimit.keeps ?_
    intro b o e
    exact (env.bs b o e).1
  have kinds : ∀ y ∈ ps.zip us, scope.names.lookup y.1 = some .local ∨ (scope.names.lookup y.1 = some .cell ∧
      ((cellsFrom (s.heap.objs.size + 1) scope.names []).lookup y.1).isSome = true) := by
    rintro ⟨n, v⟩ hy
    rcases S.par n (List.of_mem_zip hy).1 with l | c
    · exact .inl l
    · exact .inr ⟨c, PySem.W.cellsFrom_some _ _ _ (.inl c)⟩
  have rec_ := PySem.W.codeRec_of inK code
  refine codeAny_call_function room.depth (inK _ _ look) rfl S.co S.gen rfl rec_ ?_
  refine bind _ _ _ _ ?_
  refine wpAny_newFunctionEnv_cells S.kind kinds ?_
  intro env1 same s1 call
  subst same
  refine ⟨noLim.keeps call.toInCall.keep, ?_⟩
  refine codeAny_func ?_
  obtain ⟨t, ht, hq⟩ := hbody cdv A outer s H vs Q E p cls d ⟨List.mem_singleton.mpr rfl, hot, z⟩ (room.deeper _) want
  have I0 := L2H.inv_startH (CX := L2N.CX P w) (E := E) S pin env size vals call
  have ran := ht.run [] s1 _ H _ I0 hq
  refine wpAny_mono ran ?_ (fun _ _ hs => hs)
  intro fl s' hs
  cases fl with
  | ret u =>
    obtain ⟨v, σ', H', J, rv, q⟩ := hs
    exact ⟨v, H', J.os, J.bare, J.base, J.hok, rv, q⟩
  | next =>
    obtain ⟨σ', H', J, q⟩ := hs
    exact ⟨.non, H', J.os, J.bare, J.base, J.hok, rfl, q⟩
  | brk => exact hs.elim fun _ hs => hs.elim fun _ hs => hs.2.elim
  | cont => exact hs.elim fun _ hs => hs.elim fun _ hs => hs.2.elim
/-- such a def at its address -/
structure Fx (P : Program) (w : World) (K : PySem.W.Frag) (mg : Str → Option Value) (base : Heap) (k : Nat) (f : Addr) (sp : SpX) : Prop where
  kp : PySem.W.keepIn K (.ref f) = true
  ex : ∃ (fd : FuncData) (ps : List Str), FnX P w K mg base k f fd ps sp ∧ Binds K fd ps []
theorem FnX.mono {j k : Nat} {f : Addr} {fd : FuncData} {ps : List Str} {sp : SpX} (F : FnX P w K mg base j f fd ps sp) (h : j ≤ k) : FnX P w K mg base k f fd ps sp :=
  ⟨F.len, fun A outer s H args us vs Q E p cls d r => F.run A outer s H args us vs Q E p cls d (r.mono h)⟩
def SpX.of {α : Type} (vs : α → List V) (body : Addr → Value → Option Addr → α → Hp → VK → XK → Prop) : SpX := fun a cls d us H Q E => ∃ x : α, us = vs x ∧ body a cls d x H Q E
theorem Fx.mk_of {α : Type} {vsf : α → List V} {bd : Addr → Value → Option Addr → α → Hp → VK → XK → Prop} {x qual : Str} {params : Arguments} {body : List Stmt} {scope : Scope} {f : Addr} {N ps : List Str} {k : Nat}
    (F : ∃ fd, FunD K x qual params body scope [] [] f fd) (S : FnScope N ps scope)
    (hb : ∀ (kV doc pm : Value) (an : Option Addr) (cdv ct : Value) (us : List Value), us.length = ps.length → bindArgs (PySem.W.fnOf x qual params body scope .none kV doc pm an cdv ct) ⟨us, []⟩ = pure (ps.zip us))
    (hl : ∀ a, (vsf a).length = ps.length)
    (hbody : ∀ (cdv : Value) (A : Around) (outer : List Env) (s : Shared) (H : Hp) (y : α) (Q : VK) (E : XK) (p : Addr × Obj) (cls : Value) (d : Option Addr),
      HotE (cxX P w K mg base N qual scope f cdv A outer s H E p) p cls d → L2H.RoomH k (A.deeper (envOfC qual scope s.heap.objs.size f cdv)) → bd p.1 cls d y H Q E →
      ∃ t, PSs (cxX P w K mg base N qual scope f cdv A outer s H E p) body t ∧ t { nx := fun _ H' => Q .non H', rt := Q } (L2.start N (vsf y)) H) :
    Fx P w K mg base (k + 1) f (SpX.of vsf bd) := by
  obtain ⟨fd, F⟩ := F
  refine ⟨F.kp, fd, ps, FnX.of F S ?_ ?_, F.bindsN hb⟩
  · rintro a cls d vs H Q E ⟨y, rfl, _⟩
    exact hl y
  · rintro cdv A outer s H vs Q E p cls d he hr ⟨y, rfl, h⟩
    exact hbody cdv A outer s H y Q E p cls d he hr h
end
/-! ### such a call -/
section
variable {X : Cx} {k : Nat} {f : Addr} {sp : SpX} {E : L2.St → XK} {x : Str} {q pos : Pos} {e : Expr} {es : List Expr} {t : TA} {p : Addr × Obj} {cls : Value} {d : Option Addr}
theorem Fx.runs {pins : List (Addr × Obj)} {σ : L2.St} {H : Hp} {s : Shared} {Q : VK} {us : List Value} {vs : List V} (F : Fx X.prog X.w X.K X.mg X.base k f sp) (hr : L2H.RoomH k X.A) (he : HotE X p cls d)
    (hx : PassesAt (L2N.CX X.prog X.w) X σ (E σ)) (I : Inv X pins σ H s) (r : Vals vs us) (h : sp p.1 cls d vs H Q (E σ)) : wpAny (model X.prog X.w) X.A (call (.ref f) us) (EP X pins σ Q) X.xe s := by
  obtain ⟨fd, ps, F', hb⟩ := F.ex
  have n : us.length = ps.length := r.length.symm.trans (F'.len _ _ _ _ _ _ _ h)
  have b := hb s us I.kIn (by rw [List.append_nil]; exact n)
  rw [List.append_nil] at b
  obtain ⟨p1, p2, p3, p4, p5⟩ := I.pin p (List.mem_append_left _ he.pin)
  have pin : L2H.PinOk X.stack H s p := by
    refine ⟨p1, p2, ?_, p5⟩
    intro hm
    rcases List.mem_cons.mp (I.stkSub p.1 hm) with z | z
    · exact p3 z
    · exact p4 z
  have ran := F'.run X.A X.stack s H ⟨us, []⟩ us vs Q (E σ) p cls d hr he.hot he.z pin I.env0 b r h
  refine wpAny_call (codeAny_mono ran ?_)
  intro r s' hq
  cases r with
  | error e => exact hx pins H s e s' I hq
  | ok fl =>
    cases fl with
    | ret u => exact I.after hq
    | next => exact hq.elim
    | brk => exact hq.elim
    | cont => exact hq.elim
def tCallX (sp : SpX) (a : Addr) (cls : Value) (d : Option Addr) (E : L2.St → XK) (t : TA) : TE := fun σ H Q => t σ H fun vs H1 => sp a cls d vs H1 Q (E σ)
theorem pe_callX {a : Addr} (hpa : p.1 = a) (F : Fx X.prog X.w X.K X.mg X.base k f sp) (hr : L2H.RoomH k X.A) (he : HotE X p cls d) (hm : X.mg x = some (.ref f)) (hx : ∀ σ, PassesAt (L2N.CX X.prog X.w) X σ (E σ)) (ha : PA X (e :: es) t) (hg : Gl X x := by rfl)
    (hdb : (x == ("__debug__" : Str)) = false := by decide) (hst : starEach (e :: es) X.env = (false, eval e X.env) :: starEach es X.env := by rfl) (hpl : (backTo pos (starEach es X.env)).any (·.1) = false := by rfl) :
    PE X (.Call (.Name x q) (e :: es) [] pos) (tCallX sp a cls d E t) := by
  subst hpa
  constructor
  intro pins s σ H Q I h
  refine wpAny_Call_Name_kw (ld_glob I hg hm ?_ hdb)
  refine PySem.W.callWith_K (h₀ := X.base) I.ok.mod.kin F.kp (thn (ha.run pos pins s σ H _ I h) ?_) hst hpl
  rintro us s1 ⟨vs, H1, I1, r, q⟩
  exact ⟨I1.kIn, F.runs hr he (hx σ) I1 r q⟩
/-- isinstance(e, c), isinstance(e, (c, ..)), e the handled exception -/
def kitV (K : PySem.W.Frag) (D : Addr) : V → Option Bool
  | .ref C => PySem.W.kitOne K (.ref D) (.ref C)
  | .ty m => PySem.W.kitOne K (.ref D) (.type m)
  | _ => none
def kitVs (K : PySem.W.Frag) (D : Addr) : List V → Option Bool
  | [] => some false
  | c :: r => match kitV K D c with
    | some true => some true
    | some false => kitVs K D r
    | none => none
def rIsX (K : PySem.W.Frag) (D a : Addr) : List V → Hp → VK → Prop := fun xs H Q => match xs with
  | [.ref b, c] => a = b ∧ match kitV K D c with
    | some v => Q (.bl v) H
    | none => False
  | _ => False
def rIsXt (K : PySem.W.Frag) (D a : Addr) : List V → Hp → VK → Prop := fun xs H Q => match xs with
  | [.ref b, .ref t] => a = b ∧ match H t with
    | some (.tup cs) => match kitVs K D cs with
      | some v => Q (.bl v) H
      | none => False
    | _ => False
  | _ => False
theorem kitV_val {K : PySem.W.Frag} {D : Addr} {c : V} {u : Value} (r : RelV c u) {v : Bool} (h : kitV K D c = some v) : PySem.W.kitOne K (.ref D) u = some v := by
  cases c with
  | ref C => cases r; exact h
  | ty m => cases r; exact h
  | _ => cases h
theorem kitVs_val {K : PySem.W.Frag} {D : Addr} : ∀ {cs : List V} {us : List Value}, Vals cs us → ∀ {v : Bool}, kitVs K D cs = some v → PySem.W.kitAny K (.ref D) us = some v
  | _, _, .nil, v, h => h
  | c :: cs, u :: us, .cons r rr, v, h => by
    unfold kitVs at h
    show (match PySem.W.kitOne K (.ref D) u with
      | some true => some true
      | some false => PySem.W.kitAny K (.ref D) us
      | none => none) = some v
    cases e : kitV K D c with
    | none => rw [e] at h; cases h
    | some b =>
      rw [e] at h
      rw [kitV_val r e]
      cases b with
      | true => exact h
      | false => exact kitVs_val rr h
theorem call_isE {D : Addr} {d : Option Addr} {pins : List (Addr × Obj)} {s : Shared} {σ : L2.St} {H : Hp} {v : Bool} {Q : VK} {c : V} {u : Value} (he : HotE X p (.ref D) none) (C : ExcC X.K D) (I : Inv X pins σ H s) (rc : RelV c u)
    (h : (kitV X.K D c = some v) ∨ (∃ t cs, c = .ref t ∧ H t = some (.tup cs) ∧ kitVs X.K D cs = some v)) (q : Q (.bl v) H) : wpAny (model X.prog X.w) X.A (call (.builtin "isinstance") [.ref p.1, u]) (EP X pins σ Q) X.xe s := by
  obtain ⟨get, _⟩ := I.pin p (List.mem_append_left _ he.pin)
  obtain ⟨_, vs, hv, _⟩ := he.hot
  have J : PySem.W.InstAt s.heap p.1 p.2 D none := by
    obtain ⟨a, oc, od, oda, osl⟩ := p
    obtain ⟨h1, h2⟩ := he.z
    dsimp only at h1 h2 hv get
    subst h1 h2 hv
    exact ⟨get, rfl, rfl, trivial⟩
  have Z := PySem.W.handS_kitx_exc (x := p.1) (ox := p.2) C.hg C.hk C.hs C.hd C.ha C.hn C.ht C.hm
  rcases h with e | ⟨t, cs, rfl, ht, e⟩
  · exact PySem.W.kia_one Z I.kIn J (kitV_val rc e) (fun z => nomatch z) fun tk => ⟨.bl v, H, I.kept (t' := tk) fun _ _ z => z, rfl, q⟩
  · cases rc
    obtain ⟨its, rv, hh, hz⟩ := I.tuple (.inl (.inl ht) : SqT X.K H t cs)
    obtain ⟨o, ho, hcl, n, hd⟩ := hh
    obtain ⟨oc, od, oda, osl⟩ := o
    dsimp only at hcl hd
    subst hcl hd
    exact PySem.W.kia_tup Z I.kIn J ho (kitVs_val rv e) (fun z => nomatch z) fun tk => ⟨.bl v, H, I.kept (t' := tk) fun _ _ z => z, rfl, q⟩
theorem call_isX {D : Addr} (he : HotE X p (.ref D) none) (C : ExcC X.K D) : CallR X (.builtin "isinstance") (rIsX X.K D p.1) := by
  intro pins s σ H xs us Q I r h
  unfold rIsX at h
  split at h
  · rename_i b c
    obtain ⟨rfl, h⟩ := h
    cases r with
    | cons rx rr =>
      cases rr with
      | cons rc rr =>
        cases rr
        cases rx
        split at h
        · rename_i v e
          exact call_isE (d := none) he C I rc (.inl e) h
        · exact h.elim
  · exact h.elim
theorem call_isXt {D : Addr} (he : HotE X p (.ref D) none) (C : ExcC X.K D) : CallR X (.builtin "isinstance") (rIsXt X.K D p.1) := by
  intro pins s σ H xs us Q I r h
  unfold rIsXt at h
  split at h
  · rename_i b t
    obtain ⟨rfl, h⟩ := h
    cases r with
    | cons rx rr =>
      cases rr with
      | cons rc rr =>
        cases rr
        cases rx
        split at h
        · rename_i cs ht
          split at h
          · rename_i v e
            exact call_isE (d := none) he C I rc (.inr ⟨_, _, rfl, ht, e⟩) h
          · exact h.elim
        · exact h.elim
  · exact h.elim
end
section
variable {K : PySem.W.Frag} {D a t : Addr} {H : Hp} {Q : VK} {c : V} {cs : List V}
theorem qIsX : rIsX K D a [.ref a, c] H Q = (match kitV K D c with | some v => Q (.bl v) H | none => False) := by
  unfold rIsX; simp only [true_and]
theorem qIsXt (h : H t = some (.tup cs)) : rIsXt K D a [.ref a, .ref t] H Q = (match kitVs K D cs with | some v => Q (.bl v) H | none => False) := by
  unfold rIsXt; simp only [h, true_and]
theorem kitVs_nil : kitVs K D [] = some false := Eq.trans rfl rfl
theorem kitVs_cons {v : Bool} (h : kitV K D c = some v) : kitVs K D (c :: cs) = if v = true then some true else kitVs K D cs := by
  conv => lhs; unfold kitVs
  rw [h]
  cases v <;> rfl
theorem KOk.at {x : Str} {ys : List (Str × Bool)} (k : KOk K x ys) (i : Nat) {y : Str} {b : Bool} (e : ys[i]? = some (y, b)) : kitV K (ga K x) (.ref (ga K y)) = some b := k.of (y, b) (List.mem_of_getElem? e)
theorem KOk.val {x : Str} {ys : List (Str × Bool)} (k : KOk K x ys) : kitV K (ga K x) (.ty "ValueError") = some true := k.ve
end
section
variable {P : Program} {w : World} {K : PySem.W.Frag} {mg : Str → Option Value} {base : Heap} {N : List Str} {qual : Str} {scope : Scope} {f : Addr} {cdv : Value} {A : Around} {outer : List Env} {s : Shared} {H : Hp} {E : XK} {p : Addr × Obj}
theorem cxX_K : (cxX P w K mg base N qual scope f cdv A outer s H E p).K = K := rfl
end
/-! ### the suite -/
section
variable {X : Cx} {a : Addr} {oe : Obj} {cls : Value} {d : Option Addr} {pn : List (Addr × Obj)}
theorem hotE_suite (hz : L2N.Zn cls d oe) (hf : ∃ vs, oe.data = .fields vs) : HotE (X.suite a ((a, oe) :: pn)) (a, oe) cls d := by
  obtain ⟨vs, hv⟩ := hf
  exact ⟨List.mem_cons_self, ⟨rfl, vs, hv, hz.2.2 vs hv⟩, hz.1, hz.2.1⟩
theorem unitsH {k : Nat} {A : Around} (hr : L2H.RoomH k A) : A.units + 64 < cLine := by have := hr.un; omega
theorem rmH {k j : Nat} {A : Around} {hd : Option Value} (hr : Room k A) (h : j ≤ k) : L2H.RoomH j (A.mark hd) := ⟨(hr.mono h).dp, (hr.mono h).un⟩
end
end Pk

namespace Pk
open PySem PySem.Spec PyProof.Rows L2
/-! ### a dict of lists, by names: a law's own rows -/
def AL (B : Nat → Addr) : TR → Addr
  | .aI i => B i
  | _ => 0
abbrev lKvs (B : Nat → Addr) (ts : List TaskS) : List (Key × V) := tKvs (AL B) ts
structure RepL (d : Addr) (B : Nat → Addr) (ts : List TaskS) (H : Hp) : Prop where
  dk : H d = some (.dK (lKvs B ts))
  at_ : ∀ i t, ts[i]? = some t → H (B i) = some (.lst (t.rows.map optV))
  inj : ∀ i j, i < ts.length → j < ts.length → B i = B j → i = j
  ne : ∀ i, i < ts.length → B i ≠ d
def FL (d : Addr) (B : Nat → Addr) (n : Nat) : Addr → Prop := fun a => a = d ∨ ∃ i, i < n ∧ a = B i
section
variable {d : Addr} {B : Nat → Addr} {ts : List TaskS} {H H' : Hp}
theorem RepL.same (R : RepL d B ts H) (s : Same H H') : RepL d B ts H' := ⟨s _ _ R.dk, fun i t e => s _ _ (R.at_ i t e), R.inj, R.ne⟩
theorem RepL.keep (R : RepL d B ts H) (k : ∀ a o, FL d B ts.length a → H a = some o → H' a = some o) : RepL d B ts H' :=
  ⟨k _ _ (.inl rfl) R.dk, fun i t e => k _ _ (.inr ⟨i, lt_of_get e, rfl⟩) (R.at_ i t e), R.inj, R.ne⟩
theorem RepL.live (R : RepL d B ts H) {a : Addr} (f : FL d B ts.length a) : H a ≠ none := by
  rcases f with rfl | ⟨i, hi, rfl⟩
  · rw [R.dk]; exact fun z => nomatch z
  · rw [R.at_ i _ (List.getElem?_eq_getElem hi)]; exact fun z => nomatch z
theorem count_num (n : Int) (xs : List (Option Int)) : ((xs.map optV).countP fun z => eqV z (.int n)) = xs.count (some n) := by
  rw [List.countP_map, List.count]
  congr 1
  funext o
  cases o with
  | none => simp [optV]; rfl
  | some m =>
    show eqV (.int m) (.int n) = (some m == some n)
    by_cases h : m = n
    · subst h; simp [eqV]
    · simp [h, eqV]
theorem RepL.val (R : RepL d B ts H) (z : Str) : valV (lKvs B ts) (Sum.inr z) = (findT ts z).map fun i => V.ref (B i) := by
  rw [valV_tKvs]; rfl
/-- a list, changed in its place -/
theorem RepL.upRow (R : RepL d B ts H) {i : Nat} {t : TaskS} (e : ts[i]? = some t) (rw' : List (Option Int)) : RepL d B (ts.set i { t with rows := rw' }) (upd H (B i) (.lst (rw'.map optV))) := by
  have hi := lt_of_get e
  refine ⟨?_, fun j u ej => ?_, fun j k h1 h2 z => R.inj j k (by simpa using h1) (by simpa using h2) z, fun j h => R.ne j (by simpa using h)⟩
  · rw [upd_ne (R.ne i hi).symm]
    unfold lKvs
    rw [tKvs_set (t' := { t with rows := rw' }) e rfl]
    exact R.dk
  · rw [List.getElem?_set] at ej
    by_cases z : i = j
    · subst z
      simp only [if_true, hi] at ej
      cases ej
      exact upd_same
    · rw [if_neg z] at ej
      rw [upd_ne (fun q => z (R.inj i j hi (lt_of_get ej) q.symm))]
      exact R.at_ j u ej
theorem FL.row {i : Nat} {t : TaskS} (e : ts[i]? = some t) : FL d B ts.length (B i) := .inr ⟨i, lt_of_get e, rfl⟩
/-- the i-th name's value, anew -/
def setB (B : Nat → Addr) (i : Nat) (p : Addr) : Nat → Addr := fun j => if j = i then p else B j
theorem putK_lKvs (nd : (ts.map (·.name)).Nodup) {i : Nat} {t : TaskS} (e : ts[i]? = some t) (p : Addr) : putK (lKvs B ts) (Sum.inr t.name) (.ref p) = lKvs (setB B i p) ts := by
  have hi := lt_of_get e
  have hn : ∀ j u, ts[j]? = some u → (u.name = t.name ↔ j = i) := fun j u ej => by
    refine ⟨fun z => ?_, fun z => by subst z; rw [e] at ej; cases ej; rfl⟩
    have h1 : (ts.map (·.name))[j]? = some u.name := by rw [List.getElem?_map, ej]; rfl
    have h2 : (ts.map (·.name))[i]? = some t.name := by rw [List.getElem?_map, e]; rfl
    have hj : j < (ts.map (·.name)).length := (List.getElem?_eq_some_iff.mp h1).1
    exact (List.getElem?_inj hj nd).mp (by rw [h1, h2, z])
  unfold putK
  have a : ((lKvs B ts).any fun kv => decide (kv.1 = Sum.inr t.name)) = true := by
    rw [List.any_eq_true]
    refine ⟨(Sum.inr t.name, .ref (B i)), ?_, by simp⟩
    exact List.mem_of_getElem? (i := i) (by simp [lKvs, tKvs, e, AL])
  rw [if_pos a]
  apply List.ext_getElem?
  intro j
  rw [List.getElem?_map]
  unfold lKvs tKvs
  rw [List.getElem?_mapIdx, List.getElem?_mapIdx]
  cases ej : ts[j]? with
  | none => rfl
  | some u =>
    have := hn j u ej
    by_cases z : j = i
    · have hu := this.mpr z
      subst z
      simp [hu, AL, setB]
    · have hu : ¬ u.name = t.name := fun q => z (this.mp q)
      simp [hu, z, AL, setB]
theorem RepL.upNew (R : RepL d B ts H) (nd : (ts.map (·.name)).Nodup) {i : Nat} {t : TaskS} (e : ts[i]? = some t) {p : Addr} {rw' : List (Option Int)} (np : ¬ FL d B ts.length p) (ep : H p = some (.lst (rw'.map optV))) :
    RepL d (setB B i p) (ts.set i { t with rows := rw' }) (upd H d (.dK (lKvs (setB B i p) ts))) := by
  have hi := lt_of_get e
  have npd : p ≠ d := fun z => np (.inl z)
  have npb : ∀ j, j < ts.length → B j ≠ p := fun j h z => np (.inr ⟨j, h, z.symm⟩)
  refine ⟨?_, fun j u ej => ?_, fun j k h1 h2 z => ?_, fun j h => ?_⟩
  · rw [upd_same]
    unfold lKvs
    rw [tKvs_set (t' := { t with rows := rw' }) e rfl]
  · rw [List.getElem?_set] at ej
    by_cases z : i = j
    · subst z
      simp only [if_true, hi] at ej
      cases ej
      simp only [setB, if_true]
      rw [upd_ne npd]; exact ep
    · rw [if_neg z] at ej
      simp only [setB, if_neg (Ne.symm z)]
      rw [upd_ne (R.ne j (lt_of_get ej))]
      exact R.at_ j u ej
  · have h1 : j < ts.length := by simpa using h1
    have h2 : k < ts.length := by simpa using h2
    unfold setB at z
    by_cases a : j = i
    · by_cases b : k = i
      · rw [a, b]
      · rw [if_pos a, if_neg b] at z; exact absurd z.symm (npb k h2)
    · by_cases b : k = i
      · rw [if_neg a, if_pos b] at z; exact absurd z (npb j h1)
      · rw [if_neg a, if_neg b] at z; exact R.inj j k h1 h2 z
  · have h : j < ts.length := by simpa using h
    unfold setB
    by_cases a : j = i
    · rw [if_pos a]; exact npd
    · rw [if_neg a]; exact R.ne j h
/-- a name more -/
theorem RepL.grow (R : RepL d B ts H) {nm mk : Str} {p : Addr} {rw' : List (Option Int)} {b : Bool} (np : ¬ FL d B ts.length p) (ep : H p = some (.lst (rw'.map optV))) :
    RepL d (setB B ts.length p) (ts ++ [⟨nm, mk, b, rw'⟩]) (upd H d (.dK (lKvs B ts ++ [(Sum.inr nm, .ref p)]))) := by
  have npd : p ≠ d := fun z => np (.inl z)
  have npb : ∀ j, j < ts.length → B j ≠ p := fun j h z => np (.inr ⟨j, h, z.symm⟩)
  have hl : (ts ++ [(⟨nm, mk, b, rw'⟩ : TaskS)]).length = ts.length + 1 := by simp
  refine ⟨?_, fun j u ej => ?_, fun j k h1 h2 z => ?_, fun j h => ?_⟩
  · rw [upd_same]
    congr 2
    unfold lKvs tKvs
    rw [List.mapIdx_append]
    congr 1
    · apply List.ext_getElem?
      intro j
      rw [List.getElem?_mapIdx, List.getElem?_mapIdx]
      cases e : ts[j]? with
      | none => rfl
      | some u =>
        have n : j ≠ ts.length := by have := lt_of_get e; omega
        simp [AL, setB, n]
    · simp [AL, setB]
  · rw [List.getElem?_append] at ej
    by_cases h : j < ts.length
    · rw [if_pos h] at ej
      simp only [setB, if_neg (Nat.ne_of_lt h)]
      rw [upd_ne (R.ne j h)]
      exact R.at_ j u ej
    · rw [if_neg h] at ej
      have hj : j = ts.length := by
        have := (List.getElem?_eq_some_iff.mp ej).1
        simp at this; omega
      subst hj
      simp at ej
      subst ej
      simp only [setB, if_true]
      rw [upd_ne npd]; exact ep
  · rw [hl] at h1 h2
    unfold setB at z
    by_cases a : j = ts.length
    · by_cases c : k = ts.length
      · rw [a, c]
      · rw [if_pos a, if_neg c] at z; exact absurd z.symm (npb k (by omega))
    · by_cases c : k = ts.length
      · rw [if_neg a, if_pos c] at z; exact absurd z (npb j (by omega))
      · rw [if_neg a, if_neg c] at z; exact R.inj j k (by omega) (by omega) z
  · rw [hl] at h
    unfold setB
    by_cases a : j = ts.length
    · rw [if_pos a]; exact npd
    · rw [if_neg a]; exact R.ne j (by omega)
end
end Pk

namespace Pk
open PySem PySem.Spec PyProof.Rows L2
/-! ### data compared -/
section
variable {K : PySem.W.Frag} {H : Hp} {Q : VK} {a b : Addr} {d e : PyData}
theorem eq_D (h1 : Dp K H (.ref a) d) (h2 : Dp K H (.ref b) e) (s1 : SeqAt.shaped d = true) (s2 : SeqAt.shaped e = true) (q : Q (.bl (PyData.eqv d e)) H) : rEqF K (.ref a) (.ref b) H Q := ⟨d, e, h1, h2, s1, s2, q⟩
theorem ne_D (h1 : Dp K H (.ref a) d) (h2 : Dp K H (.ref b) e) (s1 : SeqAt.shaped d = true) (s2 : SeqAt.shaped e = true) (q : Q (.bl (!PyData.eqv d e)) H) : rNeF K (.ref a) (.ref b) H Q := ⟨d, e, h1, h2, s1, s2, q⟩
theorem eqv_rfl {d : PyData} (h : SeqAt.shaped d = true) : PyData.eqv d d = true := by
  exact SeqAt.eqv_refl d (SeqAt.canLay_of_shaped h)
/-- a list of pairs of numbers -/
def pairD (x : Int × Int) : PyData := .tuple [.int x.1, .int x.2]
def pairsD (l : List (Int × Int)) : PyData := .list (l.map pairD)
def IsPair (H : Hp) (x : Int × Int) (y : V) : Prop := ∃ q, y = .ref q ∧ H q = some (.tup [.int x.1, .int x.2])
theorem pairs_all : ∀ {l : List (Int × Int)} {ys : List V}, Paired (IsPair H) l ys → DpAll K H ys (l.map pairD)
  | _, _, .nil => .nil
  | _, _, .cons ⟨q, e, h⟩ t => by
    subst e
    exact .cons (.tup (.inl (.inl h)) (.cons (.int _) (.cons (.int _) .nil))) (pairs_all t)
theorem pairs_dp {l : List (Int × Int)} {ys : List V} (h : H a = some (.lst ys)) (p : Paired (IsPair H) l ys) : Dp K H (.ref a) (pairsD l) := .lst (.inl (.inl h)) (pairs_all p)
theorem pairs_can : ∀ l : List (Int × Int), PyData.canLayAll0 (l.map pairD) = true
  | [] => rfl
  | x :: l => by
    show (PyData.canLay0 (pairD x) && PyData.canLayAll0 (l.map pairD)) = true
    rw [pairs_can l]; rfl
theorem pairs_depth : ∀ l : List (Int × Int), PyData.depthAll (l.map pairD) ≤ 1
  | [] => Nat.zero_le _
  | x :: l => by
    show max (PyData.depth (pairD x)) (PyData.depthAll (l.map pairD)) ≤ 1
    exact Nat.max_le.mpr ⟨Nat.le_refl 1, pairs_depth l⟩
theorem pairs_shaped (l : List (Int × Int)) : SeqAt.shaped (pairsD l) = true := by
  unfold SeqAt.shaped
  rw [Bool.and_eq_true]
  refine ⟨pairs_can l, decide_eq_true ?_⟩
  show PyData.depthAll (l.map pairD) + 1 ≤ 64
  have := pairs_depth l
  omega
end
end Pk

namespace Pk
open PySem PySem.Spec PyProof.Rows L2
/-! ### list(reversed(d)): a dict's keys, the last one first -/
abbrev tyR : String := "dict_reversekeyiterator"
theorem slot_dict_rev : Slot "dict" "__reversed__" "dict.__reversed__" :=
  .of (owner := "dict") (n := "__reversed__") (by rw [typeLookup_type, builtinLookup_eq_fast]; kernel_rfl) (by decide +kernel) (by decide +kernel) (by decide +kernel) (by first | exact .inl (by decide +kernel) | exact .inr (by decide +kernel)) (by rw [isSubtype_type]; kernel_rfl)
theorem entry_dict_rev : entryFor table "dict.__reversed__" = some Builtin.«dict.__reversed__» := entryFor_of_tree (by kernel_rfl)
theorem owner_dict_ : Manifest.owners.lookup (String.ofList ['t', 'c', 'i', 'd'].reverse) = some Manifest.sig_dict := by kernel_rfl
theorem args_dict_rev (a : Value) : argsOk "dict.__reversed__" ⟨[a], []⟩ := by
  unfold argsOk
  rw [signature?_of (id := "dict.__reversed__") (n := ['_', '_', 'd', 'e', 's', 'r', 'e', 'v', 'e', 'r', '_', '_']) (o := ['t', 'c', 'i', 'd']) (by kernel_rfl) owner_dict_]
  kernel_rfl
theorem slot_rk_next : Slot tyR "__next__" "dict_reversekeyiterator.__next__" :=
  .of (owner := tyR) (n := "__next__") (by rw [typeLookup_type, builtinLookup_eq_fast]; kernel_rfl) (by decide +kernel) (by decide +kernel) (by decide +kernel) (by first | exact .inl (by decide +kernel) | exact .inr (by decide +kernel)) (by rw [isSubtype_type]; kernel_rfl)
theorem slot_rk_iter : Slot tyR "__iter__" "dict_reversekeyiterator.__iter__" :=
  .of (owner := tyR) (n := "__iter__") (by rw [typeLookup_type, builtinLookup_eq_fast]; kernel_rfl) (by decide +kernel) (by decide +kernel) (by decide +kernel) (by first | exact .inl (by decide +kernel) | exact .inr (by decide +kernel)) (by rw [isSubtype_type]; kernel_rfl)
theorem slot_rk_hint : Slot tyR "__length_hint__" "dict_reversekeyiterator.__length_hint__" :=
  .of (owner := tyR) (n := "__length_hint__") (by rw [typeLookup_type, builtinLookup_eq_fast]; kernel_rfl) (by decide +kernel) (by decide +kernel) (by decide +kernel) (by first | exact .inl (by decide +kernel) | exact .inr (by decide +kernel)) (by rw [isSubtype_type]; kernel_rfl)
theorem entry_rk_next : entryFor table "dict_reversekeyiterator.__next__" = some Builtin.«dict_reverseitemiterator.__next__» :=
  entryFor_alias (id' := "dict_reverseitemiterator.__next__") (by kernel_rfl) (by first | rfl | decide +kernel | (unfold String.splitOn; simp +decide [String.splitOnAux])) (by decide +kernel) (by kernel_rfl)
theorem entry_rk_iter : entryFor table "dict_reversekeyiterator.__iter__" = some Builtin.«dict_keyiterator.__iter__» :=
  entryFor_alias (id' := "dict_keyiterator.__iter__") (by kernel_rfl) (by first | rfl | decide +kernel | (unfold String.splitOn; simp +decide [String.splitOnAux])) (by decide +kernel) (by kernel_rfl)
theorem entry_rk_hint : entryFor table "dict_reversekeyiterator.__length_hint__" = some Builtin.«dict_itemiterator.__length_hint__» :=
  entryFor_alias (id' := "dict_itemiterator.__length_hint__") (by kernel_rfl) (by first | rfl | decide +kernel | (unfold String.splitOn; simp +decide [String.splitOnAux])) (by decide +kernel) (by kernel_rfl)
theorem owner_rk : Manifest.owners.lookup (String.ofList tyR.toList.reverse.reverse) = some Manifest.sig_dict_reversekeyiterator := by kernel_rfl
theorem args_rk_next (a : Value) : argsOk "dict_reversekeyiterator.__next__" ⟨[a], []⟩ := by
  unfold argsOk
  rw [signature?_of (id := "dict_reversekeyiterator.__next__") (n := "__next__".toList.reverse) (o := tyR.toList.reverse) (by kernel_rfl) owner_rk]
  kernel_rfl
theorem args_rk_iter (a : Value) : argsOk "dict_reversekeyiterator.__iter__" ⟨[a], []⟩ := by
  unfold argsOk
  rw [signature?_of (id := "dict_reversekeyiterator.__iter__") (n := "__iter__".toList.reverse) (o := tyR.toList.reverse) (by kernel_rfl) owner_rk]
  kernel_rfl
theorem args_rk_hint (a : Value) : argsOk "dict_reversekeyiterator.__length_hint__" ⟨[a], []⟩ := by
  unfold argsOk
  rw [signature?_of (id := "dict_reversekeyiterator.__length_hint__") (n := "__length_hint__".toList.reverse) (o := tyR.toList.reverse) (by kernel_rfl) owner_rk]
  kernel_rfl
theorem sub_rk_rev : isSubtype (.type tyR) (.type "reversed") = pure false := by rw [isSubtype_type]; kernel_rfl
theorem nolen_rk : typeLookup (.type tyR) "__len__" = pure none := by rw [typeLookup_type, builtinLookup_eq_fast]; kernel_rfl
/-- such an iterator, i the next place -/
def IsRk (h : Heap) (it d : Addr) (i : Int) (n ep : Nat) : Prop := ∃ o, h.get? it = some o ∧ o.cls = .type tyR ∧ o.data = .fields #[.ref d, rawInt i, rawInt n, rawInt ep]
section
variable {prog : Program} {w : World} {A : Around} {E : Value → Shared → Prop} {s : Shared}
theorem IsRk.at {h h' : Heap} {it d : Addr} {i : Int} {n ep : Nat} (x : IsRk h it d i n ep) (e : ∀ o, h.get? it = some o → h'.get? it = some o) : IsRk h' it d i n ep := by
  obtain ⟨o, ho, r⟩ := x
  exact ⟨o, e o ho, r⟩
theorem IsRk.typeIs {it d : Addr} {i : Int} {n ep : Nat} (x : IsRk s.heap it d i n ep) : s.TypeIs (.ref it) tyR := by
  obtain ⟨o, ho, hc, _⟩ := x
  exact ⟨o, ho, hc⟩
def rkObj (d : Addr) (i : Int) (n ep : Nat) : Obj := { cls := .type tyR, data := .fields #[.ref d, rawInt i, rawInt n, rawInt ep] }
theorem call_dict_rev {d : Addr} {o : Obj} {es : Array DictEntry} {ep : Nat} {Q : Value → Shared → Prop} (hd : (d == sysModules) = false) (ho : s.heap.get? d = some o) (hc : o.ExactDict) (hdat : o.data = .dict es ep)
    (h : Q (.ref s.heap.objs.size) { s with heap := s.heap.push (rkObj d ((es.size : Int) - 1) es.size ep) }) : wpAny (model prog w) A (call (.builtin "dict.__reversed__") [.ref d]) Q E s := by
  have hT : s.TypeIs (.ref d) "dict" := ⟨o, ho, hc.1⟩
  refine wpAny_call_entry slot_dict_rev hT entry_dict_rev ?_ (args_dict_rev _)
  unfold Builtin.«dict.__reversed__»
  refine wpAny_bind ?_
  unfold Builtin.Dict.noArgs
  refine wpAny_bind (wpAny_notOrdered_dict hT ?_)
  show wpAny _ _ (pure d) _ _ s
  refine wpAny_pure ?_
  show wpAny _ _ (Builtin.Dict.showsAll d >>= _) _ _ s
  unfold Builtin.Dict.showsAll
  rw [if_neg (by rw [hd]; exact Bool.false_ne_true)]
  refine wpAny_bind (wpAny_pure ?_)
  refine wpAny_bind (wpAny_dictEntries ho hdat ?_)
  refine wpAny_bind (wpAny_dictEpoch ho hdat ?_)
  refine wpAny_bind (wpAny_newObj_type (wpAny_pure ⟨_, rfl, ?_⟩))
  exact h
theorem call_reversed_dict {d : Addr} {o : Obj} {es : Array DictEntry} {ep : Nat} {Q : Value → Shared → Prop} (hd : (d == sysModules) = false) (ho : s.heap.get? d = some o) (hc : o.ExactDict) (hdat : o.data = .dict es ep)
    (h : Q (.ref s.heap.objs.size) { s with heap := s.heap.push (rkObj d ((es.size : Int) - 1) es.size ep) }) : wpAny (model prog w) A (call (.type "reversed") [.ref d]) Q E s := by
  have hT : s.TypeIs (.ref d) "dict" := ⟨o, ho, hc.1⟩
  refine callType_other (U := tyR) (Q₁ := fun obj s₁ => obj = .ref s.heap.objs.size ∧ s₁ = { s with heap := s.heap.push (rkObj d ((es.size : Int) - 1) es.size ep) }) (by decide +kernel) F.create_reversed ⟨_, _, F.mro_reversed⟩ F.made_reversed sub_rk_rev (F.typeCall_reversed_1 _)
    (code_reversed_newOf hT slot_dict_rev fun A' => call_dict_rev hd ho hc hdat ⟨rfl, rfl⟩) ?_
  rintro obj s₁ ⟨rfl, rfl⟩
  exact ⟨⟨_, Heap.get?_push_size _ rfl, rfl⟩, h⟩
/-! its name, its kinds -/
theorem mro_rk : mroOf (.type tyR) = pure [.type tyR, .type "object"] := by rw [mroOf_type]; kernel_rfl
theorem name_rk {it : Addr} {Q : String → Shared → Prop} (hT : s.TypeIs (.ref it) tyR) (h : Q tyR s) : wpAny (model prog w) A (typeNameOfWhole (.ref it)) Q E s := by
  unfold typeNameOfWhole shownTypeOf
  refine wpAny_bind (wpAny_bind (wpAny_typeOf hT ?_))
  simp only [show (Value.type tyR == Value.type "builtin_function_or_method") = false by decide, Bool.false_eq_true, if_false]
  refine wpAny_pure ?_
  have e : typeName (.type tyR) = pure tyR := by unfold typeName; rw [find?_eq_fast]; kernel_rfl
  rw [show typeNameWhole (.type tyR) = typeName (.type tyR) from rfl, e]
  exact wpAny_pure h
theorem one_rk {it : Addr} {types : List String} {Q : Bool → Shared → Prop} (hT : s.TypeIs (.ref it) tyR) (h : Q (types.any fun t => [Value.type tyR, Value.type "object"].contains (.type t)) s) :
    wpAny (model prog w) A (Builtin.Dict_items.isOneOf (.ref it) types) Q E s := by
  unfold Builtin.Dict_items.isOneOf
  refine wpAny_bind (wpAny_typeOf hT ?_)
  rw [mro_rk]
  exact wpAny_bind (wpAny_pure (wpAny_pure h))
/-- the next key -/
theorem rk_item {it d : Addr} {i n ep : Nat} {od : Obj} {es : Array DictEntry} {en : DictEntry} {Q : Option Value → Shared → Prop} (hit : IsRk s.heap it d i n ep) (hod : s.heap.get? d = some od) (hdd : od.data = .dict es ep) (hsz : es.size = n) (hx : es[i]? = some en)
    (hQ : ∀ h', IsRk h' it d ((i : Int) - 1) n ep → Heap.SameBut it s.heap h' → Q (some en.key) { s with heap := h' }) : wpAny (model prog w) A (pyNext (.ref it)) Q E s := by
  obtain ⟨o, ho, hc, hd⟩ := id hit
  unfold pyNext
  refine wpAny_bind (wpAny_attempt (wpAny_callSpecial?_slot (name := Str.ofString "__next__") hit.typeIs slot_rk_next (wpAny_call_entry slot_rk_next hit.typeIs entry_rk_next ?_ (args_rk_next _))))
  unfold Builtin.«dict_reverseitemiterator.__next__»
  refine wpAny_bind (wpAny_pure ?_)
  refine wpAny_bind ?_
  refine wpAny_bind ?_
  refine wpAny_bind (name_rk hit.typeIs (wpAny_pure ?_))
  refine wpAny_bind (wpAny_fieldsOf ho hd ?_)
  have own : Builtin.Dict_items.ownsTuple tyR = false := by decide
  simp only [own, Bool.false_eq_true, if_false]
  show wpAny _ _ (if (Value.ref d == Value.none) = true then _ else _) _ _ s
  rw [if_neg (show ¬ ((Value.ref d == Value.none) = true) from Bool.false_ne_true)]
  refine wpAny_bind (wpAny_pure ?_)
  refine wpAny_bind (wpAny_dictEntries hod hdd ?_)
  rw [if_neg (by rw [hsz]; simp)]
  refine wpAny_bind (wpAny_pure ?_)
  refine wpAny_bind (wpAny_dictEpoch hod hdd ?_)
  rw [if_neg (by simp)]
  refine wpAny_pure ?_
  obtain ⟨lt, hen⟩ := Array.getElem?_eq_some_iff.mp hx
  simp only [show ¬ ((i : Int) < 0) from by omega, if_false, Int.toNat_natCast, Array.getElem?_eq_getElem lt]
  refine wpAny_bind ?_
  refine wpAny_bind (name_rk hit.typeIs (wpAny_pure ?_))
  refine wpAny_bind (one_rk hit.typeIs ?_)
  show wpAny _ _ (setField (.ref it) 1 (rawInt ((i : Int) - 1)) >>= _) _ _ s
  refine wpAny_bind (wpAny_setField ho hd (by simp) ?_)
  have hit2 : IsRk (s.heap.update it (Obj.mapFields (·.setIfInBounds 1 (rawInt ((i : Int) - 1))))) it d ((i : Int) - 1) n ep :=
    ⟨_, Heap.get?_update_self _ ho (Obj.isFreed_of_fields (Obj.data_mapFields hd _)), (Obj.cls_mapFields ..).trans hc, by rw [Obj.data_mapFields hd]; simp⟩
  refine wpAny_bind (wpAny_holding ?_)
  refine wpAny_bind (one_rk (s := { s with heap := s.heap.update it (Obj.mapFields (·.setIfInBounds 1 (rawInt ((i : Int) - 1)))) }) hit2.typeIs ?_)
  show wpAny _ _ (pure es[i].key) _ _ _
  rw [hen]
  exact wpAny_pure (wpAny_pure ⟨_, rfl, wpAny_pure (hQ _ hit2 (Heap.SameBut.update ..))⟩)
/-- no more -/
theorem rk_end {it d : Addr} {n ep : Nat} {od : Obj} {es : Array DictEntry} {Q : Option Value → Shared → Prop} (hh : A.handled = none) (hit : IsRk s.heap it d (-1) n ep) (hod : s.heap.get? d = some od) (hdd : od.data = .dict es ep) (hsz : es.size = n)
    (hQ : ∀ h', Heap.ExtBut it s.heap h' → Q none { s with heap := h' }) : wpAny (model prog w) A (pyNext (.ref it)) Q E s := by
  obtain ⟨o, ho, hc, hd⟩ := id hit
  unfold pyNext
  refine wpAny_bind (wpAny_attempt (wpAny_callSpecial?_slot (name := Str.ofString "__next__") hit.typeIs slot_rk_next (wpAny_call_entry slot_rk_next hit.typeIs entry_rk_next ?_ (args_rk_next _))))
  unfold Builtin.«dict_reverseitemiterator.__next__»
  refine wpAny_bind (wpAny_pure ?_)
  refine wpAny_bind ?_
  refine wpAny_bind ?_
  refine wpAny_bind (name_rk hit.typeIs (wpAny_pure ?_))
  refine wpAny_bind (wpAny_fieldsOf ho hd ?_)
  have own : Builtin.Dict_items.ownsTuple tyR = false := by decide
  simp only [own, Bool.false_eq_true, if_false]
  show wpAny _ _ (if (Value.ref d == Value.none) = true then _ else _) _ _ s
  rw [if_neg (show ¬ ((Value.ref d == Value.none) = true) from Bool.false_ne_true)]
  refine wpAny_bind (wpAny_pure ?_)
  refine wpAny_bind (wpAny_dictEntries hod hdd ?_)
  rw [if_neg (by rw [hsz]; simp)]
  refine wpAny_bind (wpAny_pure ?_)
  refine wpAny_bind (wpAny_dictEpoch hod hdd ?_)
  rw [if_neg (by simp)]
  refine wpAny_pure ?_
  simp only [show ((-1 : Int) < 0) from by decide, if_true]
  refine wpAny_bind ?_
  refine wpAny_bind (name_rk hit.typeIs (wpAny_pure ?_))
  show wpAny _ _ (setField (.ref it) 0 .none >>= _) _ _ s
  refine wpAny_bind (wpAny_setField ho hd (by simp) ?_)
  show wpAny _ _ (newExc (.type "StopIteration") [] >>= _) _ _ _
  refine wpAny_bind ?_
  simp only [newExc, newTuple]
  refine wpAny_bind (wpAny_newObj_type ?_ (by size_fits))
  refine wpAny_bind (m := firstArgMember _ _) (wpAny_of_eq (a := Value.none) (by first | rfl | (simp only [firstArgMember]; rfl)) ?_)
  refine wpAny_newObj_type ?_ (by size_fits)
  simp only [raiseNew]
  refine wpAny_bind (wpAny_handled ?_)
  rw [show A.in1.handled = none from hh]
  refine wpAny_bind (wpAny_pure (wpAny_throw ?_))
  refine wpAny_bind (wpAny_isInstance (T := "StopIteration") (b := true) ⟨_, Heap.get?_push_size _ rfl, rfl⟩ isSubtype_stop ?_)
  refine wpAny_pure (hQ _ ?_)
  refine ((?_ : Heap.ExtBut it s.heap _).push _).push _
  exact fun b ob hb e => (Heap.get?_update_other _ _ (Ne.symm hb)).trans e
/-- itself -/
theorem rk_iter {it d : Addr} {i : Int} {n ep : Nat} {Q : Value → Shared → Prop} (hit : IsRk s.heap it d i n ep) (h : Q (.ref it) s) : wpAny (model prog w) A (pyIter (.ref it)) Q E s := by
  refine wpAny_pyIter_slot hit.typeIs slot_rk_iter (wpAny_call_entry slot_rk_iter hit.typeIs entry_rk_iter ?_ (args_rk_iter _))
  show wpAny _ _ (ret (.ref it)) _ _ s
  exact wpAny_pure ⟨_, rfl, tyR, _, hit.typeIs, slot_rk_next.lookup, h⟩
/-- how many are left -/
theorem rk_hint {it d : Addr} {n ep : Nat} {od : Obj} {es : Array DictEntry} {Q : Bool → Shared → Prop} (hit : IsRk s.heap it d ((n : Int) - 1) n ep) (hod : s.heap.get? d = some od) (hdd : od.data = .dict es ep) (hsz : es.size = n) (hn : n ≤ 100000)
    (hQ : ∀ b tk, Q b { s with toks := tk }) : wpAny (model prog w) A (Builtin.List.listLengthHint (.ref it)) Q E s := by
  obtain ⟨o, ho, hc, hd⟩ := id hit
  unfold Builtin.List.listLengthHint
  refine wpAny_bind (wpAny_specialOf hit.typeIs nolen_rk ?_)
  show wpAny _ _ (specialOf (Value.ref it) (Str.ofString "__length_hint__") >>= _) _ _ _
  refine wpAny_bind (wpAny_specialOf hit.typeIs slot_rk_hint.lookup ?_)
  generalize hid : ("dict_reversekeyiterator.__length_hint__" : String) = id0
  wp_delta
  rw [show splitId id0 = some (tyR, "__length_hint__") from by subst hid; decide +kernel]
  subst hid
  refine wpAny_bind (wpAny_isInstance (b := true) hit.typeIs (by rw [isSubtype_type]; kernel_rfl) ?_)
  show wpAny _ _ (rule "list.length-hint.hint" >>= _) _ _ _
  refine wpAny_bind (wpAny_rule ?_)
  refine wpAny_bind (wpAny_of_eq (slot_rk_hint.bind _) ?_)
  refine wpAny_bind (wpAny_attempt (wpAny_call_entry slot_rk_hint hit.typeIs entry_rk_hint ?_ (args_rk_hint _)))
  unfold Builtin.«dict_itemiterator.__length_hint__»
  refine wpAny_bind ?_
  refine wpAny_pure ?_
  refine wpAny_bind (wpAny_fieldsOf ho hd ?_)
  refine wpAny_bind ?_
  refine wpAny_bind (name_rk hit.typeIs (wpAny_pure ?_))
  have own : Builtin.Dict_items.ownsTuple tyR = false := by decide
  simp only [own, Bool.false_eq_true, if_false]
  show wpAny _ _ (if (Value.ref d == Value.none) = true then _ else _) _ _ s
  rw [if_neg (show ¬ ((Value.ref d == Value.none) = true) from Bool.false_ne_true)]
  refine wpAny_bind (wpAny_pure ?_)
  refine wpAny_bind (wpAny_dictEntries hod hdd ?_)
  rw [if_neg (by rw [hsz]; simp)]
  have f1 : ∀ v : Int, 0 ≤ v → v ≤ 100001 → Builtin.List.listFitsIndex v = true := fun v h0 h1 => by
    unfold Builtin.List.listFitsIndex
    rw [Bool.and_eq_true]
    exact ⟨decide_eq_true (by omega), decide_eq_true (by omega)⟩
  have f2 : ∀ v : Int, 0 ≤ v → v ≤ 100001 → Builtin.List.listTooLong v.toNat = false := fun v h0 h1 => by
    unfold Builtin.List.listTooLong
    rw [decide_eq_false_iff_not, sizeLine_eq]
    omega
  refine wpAny_bind (one_rk hit.typeIs ?_)
  split
  · refine wpAny_bind (wpAny_mkInt (wpAny_pure ⟨_, rfl, ?_⟩))
    generalize hv : (n : Int) - 1 + 1 = v
    have h0 : 0 ≤ v := by omega
    have h1 : v ≤ 100001 := by omega
    show wpAny _ A (asInt? (.int v s.toks) >>= _) _ _ _
    refine wpAny_bind (wpAny_of_eq (a := some v) rfl ?_)
    show wpAny _ A (if (!Builtin.List.listFitsIndex v) = true then _ else _) _ _ _
    rw [if_neg (by rw [f1 v h0 h1]; decide), if_neg (by omega), if_neg (by rw [f2 v h0 h1]; decide)]
    exact wpAny_pure (hQ _ _)
  · refine wpAny_bind (wpAny_mkInt (wpAny_pure ⟨_, rfl, ?_⟩))
    generalize hv : (n : Int) - ((n : Int) - 1) = v
    have h0 : 0 ≤ v := by omega
    have h1 : v ≤ 100001 := by omega
    show wpAny _ A (asInt? (.int v s.toks) >>= _) _ _ _
    refine wpAny_bind (wpAny_of_eq (a := some v) rfl ?_)
    show wpAny _ A (if (!Builtin.List.listFitsIndex v) = true then _ else _) _ _ _
    rw [if_neg (by rw [f1 v h0 h1]; decide), if_neg (by omega), if_neg (by rw [f2 v h0 h1]; decide)]
    exact wpAny_pure (hQ _ _)
/-- the walk -/
theorem rk_walks (hh : A.handled = none) {it d : Addr} (hne : d ≠ it) {od : Obj} {es : Array DictEntry} {ep : Nat} (hdd : od.data = .dict es ep) :
    Walks prog w A it [it, d] [it] es.size (fun i v => ∃ en : DictEntry, es[es.size - 1 - i]? = some en ∧ v = en.key) (fun i h => i ≤ es.size ∧ IsRk h it d ((es.size : Int) - 1 - (i : Nat)) es.size ep ∧ h.get? d = some od) where
  sub := fun b hb => by simp at hb; simp [hb]
  frame := fun i h h' st hk => ⟨st.1, st.2.1.at fun o e => hk it (by simp) o e, hk d (by simp) od st.2.2⟩
  item := fun i s Q E hi st hQ => by
    obtain ⟨_, hit, hod⟩ := st
    have hlt : es.size - 1 - i < es.size := by omega
    have hx : es[es.size - 1 - i]? = some es[es.size - 1 - i] := Array.getElem?_eq_getElem hlt
    have e1 : ((es.size : Int) - 1 - (i : Nat)) = ((es.size - 1 - i : Nat) : Int) := by omega
    rw [e1] at hit
    refine rk_item hit hod hdd rfl hx fun h' hit2 sb => ?_
    refine hQ _ h' s.toks ⟨_, hx, rfl⟩ ⟨by omega, ?_, (sb.2 d hne).trans hod⟩ fun b ob hb e => (sb.2 b (fun z => hb (by simp [z]))).trans e
    have e2 : ((es.size : Int) - 1 - ((i + 1 : Nat) : Int)) = ((es.size - 1 - i : Nat) : Int) - 1 := by omega
    rw [e2]
    exact hit2
  done := fun s Q E st hQ => by
    obtain ⟨_, hit, hod⟩ := st
    have e1 : ((es.size : Int) - 1 - (es.size : Nat)) = -1 := by omega
    rw [e1] at hit
    exact rk_end hh hit hod hdd rfl fun h' he => hQ h' s.toks fun b ob hb e => he b ob (fun z => hb (by simp [z])) e
  self := fun i s Q E st hQ => rk_iter st.2.1 hQ
/-- list.extend over it -/
theorem rk_extend {R : Result → Shared → Prop} {it d : Addr} {od : Obj} {es : Array DictEntry} {ep : Nat} (hh : A.handled = none) (hne : d ≠ it) (hdd : od.data = .dict es ep) (hit : IsRk s.heap it d ((es.size : Int) - 1) es.size ep) (hod : s.heap.get? d = some od)
    (S : Addr) (hSi : S ≠ it) (hSd : S ≠ d) (res : Value) (c₀ : Nat) (hS : s.heap.get? S = some { cls := .type "list", data := .seq #[] c₀ }) (hn : es.size ≤ 100000)
    (hR : ∀ h' tk acc' c', (∀ b o, b ≠ S → b ≠ it → s.heap.get? b = some o → h'.get? b = some o) → h'.get? S = some { cls := .type "list", dict := none, data := .seq acc' c', slots := #[] } →
      ItemsOf (fun i v => ∃ en : DictEntry, es[es.size - 1 - i]? = some en ∧ v = en.key) acc' es.size → R (.ok (.ret res)) { s with heap := h', toks := tk }) :
    wpAny (model prog w) A.in1 (Builtin.List.listExtendWith (.ref S) (.ref it) res)
      (fun fin s' => match fin with | .done f => R (.ok f) s' | .again c' => c'.quiet = true ∧ codeAny (model prog w) A c' R s') (fun e s' => R (.error e) s') s := by
  have hSf : S ∉ [it, d] := by
    simp only [List.mem_cons, List.not_mem_nil, or_false, not_or]
    exact ⟨hSi, hSd⟩
  have W := rk_walks (prog := prog) (w := w) (A := A.in1) hh hne hdd
  have big : es.size ≤ sizeLine := by rw [sizeLine_eq]; omega
  have e0 : ((es.size : Int) - 1 - ((0 : Nat) : Int)) = (es.size : Int) - 1 := by omega
  have key : ∀ (h : Heap) (c₁ tk : Nat), IsRk h it d ((es.size : Int) - 1) es.size ep → h.get? d = some od → (∀ b o, b ≠ S → s.heap.get? b = some o → h.get? b = some o) → h.get? S = some { cls := .type "list", data := .seq #[] c₁ } →
      codeAny (model prog w) A (.builtin "list.extend.loop" ⟨[.ref S, .ref it, res], []⟩) R { s with heap := h, toks := tk } := by
    intro h c₁ tk h1 h2 hk h3
    refine codeAny_extend_loopS W.toS big S hSf res es.size 0 _ #[] c₁ rfl (Nat.zero_le _) ⟨Nat.zero_le _, by rw [e0]; exact h1, h2⟩ h3 (ItemsOf.nil _) ?_
    intro s' acc' c' hm hS' hacc
    rw [Moved.eq_with hm]
    refine hR s'.heap s'.toks acc' c' ?_ hS' hacc
    intro b o hb hb2 e
    refine hm.heap b o ?_ (hk b o hb e)
    intro hmem
    rcases List.mem_cons.mp hmem with z | hmem
    · exact hb z
    · exact hb2 (List.mem_singleton.mp hmem)
  unfold Builtin.List.listExtendWith
  refine wpAny_bind (wpAny_typeOf hit.typeIs ?_)
  have h1 : Builtin.List.listSameRef (.ref S) (.ref it) = false := by simp [Builtin.List.listSameRef, hSi]
  have h2 : (Value.type tyR == Value.type "list") = false := by decide
  have h3 : (Value.type tyR == Value.type "tuple") = false := by decide
  simp only [h1, h2, h3, Bool.or_false, Bool.false_eq_true, if_false]
  refine wpAny_bind (rk_iter hit ?_)
  refine wpAny_bind (wpAny_holding (rk_hint hit hod hdd rfl hn ?_))
  intro b tk
  refine wpAny_ite_split (fun _ => ?_) (fun _ => wpAny_pure ⟨plainId_quiet PySem.F.plain_extend_loop _, key _ c₀ _ hit hod (fun b o _ e => e) hS⟩)
  refine wpAny_bind (wpAny_rule ?_)
  refine wpAny_bind ?_
  show wpAny _ _ (updateSeq S (·.push .none) >>= fun _ => updateSeq S (·.pop)) _ _ _
  refine wpAny_bind (wpAny_updateSeq hS rfl ?_)
  have hS₂ := Heap.get?_update_self (Obj.mapSeq (·.push Value.none)) hS rfl
  refine wpAny_updateSeq (hz := by seq_fits) hS₂ rfl ?_
  have hS₃ := Heap.get?_update_self (Obj.mapSeq (·.pop)) hS₂ rfl
  have oth : ∀ b o, b ≠ S → s.heap.get? b = some o → ((s.heap.update S (Obj.mapSeq (·.push Value.none))).update S (Obj.mapSeq (·.pop))).get? b = some o :=
    fun b o hb e => (Heap.get?_update_other _ _ (Ne.symm hb)).trans ((Heap.get?_update_other _ _ (Ne.symm hb)).trans e)
  exact wpAny_pure ⟨plainId_quiet PySem.F.plain_extend_loop _, key _ _ _ (hit.at fun o e => oth it o hSi.symm e) (oth d od hSd.symm hod) oth hS₃⟩
/-- list(it) -/
theorem call_list_rk {it d : Addr} {od : Obj} {es : Array DictEntry} {ep : Nat} {Q : Value → Shared → Prop} (hh : A.handled = none) (hne : d ≠ it) (hdd : od.data = .dict es ep) (hit : IsRk s.heap it d ((es.size : Int) - 1) es.size ep) (hod : s.heap.get? d = some od) (hn : es.size ≤ 100000)
    (hQ : ∀ h' tk acc' c', (∀ b o, b ≠ it → s.heap.get? b = some o → h'.get? b = some o) → h'.get? s.heap.objs.size = some { cls := .type "list", dict := none, data := .seq acc' c', slots := #[] } →
      ItemsOf (fun i v => ∃ en : DictEntry, es[es.size - 1 - i]? = some en ∧ v = en.key) acc' es.size → Q (.ref s.heap.objs.size) { s with heap := h', toks := tk }) : wpAny (model prog w) A (call (.type "list") [.ref it]) Q E s := by
  refine callType_codes (Q₁ := fun obj s₁ => obj = .ref s.heap.objs.size ∧ s₁ = { s with heap := s.heap.push { cls := .type "list", data := .seq #[] } }) PySem.F.called_list (PySem.F.typeCall_list_1 _) PySem.F.entry_list_init (code_list_new _ ⟨rfl, rfl⟩) ?_
  rintro obj s₁ ⟨rfl, rfl⟩
  have hS : (s.heap.push { cls := .type "list", data := .seq #[] }).get? s.heap.objs.size = some { cls := .type "list", data := .seq #[] } := Heap.get?_push_size _ rfl
  obtain ⟨oi, hoi, _⟩ := id hit
  have hSi : s.heap.objs.size ≠ it := Nat.ne_of_gt (Heap.lt_size hoi)
  have hSd : s.heap.objs.size ≠ d := Nat.ne_of_gt (Heap.lt_size hod)
  refine ⟨⟨_, hS, rfl⟩, PySem.F.args_list_init_2 _ _, ?_⟩
  show wpAny _ _ (do let old ← Builtin.List.listItems (.ref s.heap.objs.size); Builtin.List.listUpdate (.ref s.heap.objs.size) (fun _ => #[]); letGo old.toList.reverse; Builtin.List.listExtendWith (.ref s.heap.objs.size) (.ref it) .none) _ _ _
  refine wpAny_bind ?_
  unfold Builtin.List.listItems
  refine wpAny_bind (wpAny_seqItems hS rfl (wpAny_pure ?_))
  show wpAny _ _ (updateSeq s.heap.objs.size (fun _ => #[]) >>= fun _ => letGo (#[] : Array Value).toList.reverse >>= fun _ => Builtin.List.listExtendWith (.ref s.heap.objs.size) (.ref it) .none) _ _ _
  refine wpAny_bind (wpAny_updateSeq hS rfl ?_)
  have hS₂ := Heap.get?_update_self (Obj.mapSeq (fun _ => (#[] : Array Value))) hS rfl
  have oth : ∀ b o, b ≠ s.heap.objs.size → s.heap.get? b = some o → ((s.heap.push { cls := .type "list", data := .seq #[] }).update s.heap.objs.size (Obj.mapSeq (fun _ => (#[] : Array Value)))).get? b = some o :=
    fun b o hb e => (Heap.get?_update_other _ _ (Ne.symm hb)).trans (Heap.get?_push_of_some _ e)
  refine wpAny_bind (wpAny_letGo ?_)
  refine rk_extend (A := A.in1) (s := { s with heap := (s.heap.push { cls := .type "list", data := .seq #[] }).update s.heap.objs.size (Obj.mapSeq (fun _ => (#[] : Array Value))) }) hh hne hdd (hit.at fun o e => oth it o hSi.symm e) (oth d od hSd.symm hod) _ hSi hSd .none _ hS₂ hn ?_
  intro h' tk acc' c' hk hS' hacc
  exact ⟨rfl, hQ h' tk acc' c' (fun b o hb e => hk b o (Nat.ne_of_lt (Heap.lt_size e)) hb (oth b o (Nat.ne_of_lt (Heap.lt_size e)) e)) hS' hacc⟩
end
end Pk

namespace Pk
open PySem PySem.Spec PyProof.Rows L2
/-! ### list(reversed(d)), the rule -/
def tLRev (te : TE) : TE := fun σ H Q => te σ H fun v H1 => ∃ (d : Addr) (kvs : List (Key × V)), v = .ref d ∧ Rd H1 d (.dK kvs) ∧ kvs.length ≤ 100000 ∧ ∀ p, H1 p = none → Q (.ref p) (upd H1 p (.lst (kvs.reverse.map fun kv => kV kv.1)))
section
variable {X : Cx}
theorem keys_rev {prog : Program} {w : World} {es : Array DictEntry} {vs : List (Key × Value)} {acc : Array Value} (hp : Pairs (mixKind prog w) es.toList vs)
    (h : ItemsOf (fun i v => ∃ en : DictEntry, es[es.size - 1 - i]? = some en ∧ v = en.key) acc es.size) : Vals (vs.reverse.map fun p => kV p.1) acc.toList := by
  have hl : es.size = vs.length := by
    have := hp.length
    simpa using this
  refine keys_at ?_ ?_
  · rw [Array.length_toList, h.1, List.length_reverse, hl]
  · intro j v e
    rw [Array.getElem?_toList] at e
    have hj : j < es.size := by
      have := (Array.getElem?_eq_some_iff.mp e).1
      rw [h.1] at this
      exact this
    obtain ⟨en, h1, rfl⟩ := h.2 j v e
    obtain ⟨q, h2⟩ : ∃ q, vs[vs.length - 1 - j]? = some q := ⟨_, List.getElem?_eq_getElem (by omega)⟩
    obtain ⟨k, x⟩ := q
    refine ⟨k, x, ?_, ?_⟩
    · rw [List.getElem?_reverse (by omega)]
      exact h2
    · have h3 : es.toList[vs.length - 1 - j]? = some en := by rw [Array.getElem?_toList, ← hl]; exact h1
      exact (Pairs.get? hp h3 h2).1
theorem pe_listRev {e : Expr} {te : TE} {p p2 pos pos2 : Pos} (hc : X.calm = true) (hg : Gl X "list") (hm : X.mg "list" = none) (hg2 : Gl X "reversed") (hm2 : X.mg "reversed" = none) (he : PE X e te)
    (hs : starEach [e] X.env = (false, eval e X.env) :: starEach [] X.env := by rfl)
    (hs2 : starEach [.Call (.Name "reversed" p2) [e] [] pos2] X.env = (false, eval (.Call (.Name "reversed" p2) [e] [] pos2) X.env) :: starEach [] X.env := by rfl) :
    PE X (.Call (.Name "list" p) [.Call (.Name "reversed" p2) [e] [] pos2] [] pos) (tLRev te) := by
  constructor
  intro pins s σ H Q I h
  refine Call_ (ld_blt I hg hm PyProof.Rows.boot_list (PyProof.Rows.callWith_type1 (args_cons (Call_ (ld_blt I hg2 hm2 PyProof.Rows.boot_reversed (PyProof.Rows.callWith_type1 (args_cons (thn (he.run pins s σ H _ I h) ?_) hs) hs rfl))) hs2) hs2 rfl))
  rintro u s1 ⟨v, H1, I1, r1, d, kvs, ev, hd, hsz, q⟩
  refine args_nil ?_
  subst ev
  obtain rfl : u = Value.ref d := r1
  obtain ⟨z, lo, vs, rel, dd⟩ := dk_rd I1.hok hd
  obtain ⟨ep, od, es, ho, hx, hdat, hk, hp, hnd⟩ := dd.dictAt
  have hes : es.size = vs.length := by simpa using hp.length
  have hl : kvs.length = vs.length := rel.length
  refine call_reversed_dict lo ho hx hdat (args_nil ?_)
  have k0 : ∀ b o, s1.heap.get? b = some o → (s1.heap.push (rkObj d ((es.size : Int) - 1) es.size ep)).get? b = some o := fun b o e => Heap.get?_push_of_some _ e
  have I2 : Inv X pins σ H1 { s1 with heap := s1.heap.push (rkObj d ((es.size : Int) - 1) es.size ep) } := I1.kept (t' := s1.toks) k0
  have fp := I1.fpOk (H' := H1) (b := s1.heap.objs.size) (Nat.le_refl _) (I1.hok.fresh (Nat.le_refl _))
  have hne : d ≠ s1.heap.objs.size := Nat.ne_of_lt (Heap.lt_size ho)
  refine call_list_rk (s := { s1 with heap := s1.heap.push (rkObj d ((es.size : Int) - 1) es.size ep) }) (I1.ok.hd hc) hne hdat ⟨_, Heap.get?_push_size _ rfl, rfl, rfl⟩ (k0 d od ho) (by omega) ?_
  intro h' tk acc c' hkeep hS hacc
  have hv := keys_rev hp hacc
  have ek : (kvs.reverse.map fun kv => kV kv.1) = vs.reverse.map fun p => kV p.1 := by
    have e := congrArg (List.map kV) rel.keys
    rw [List.map_map, List.map_map] at e
    rw [List.map_reverse, List.map_reverse]
    exact congrArg List.reverse e
  have new : ObjOk X.prog X.w (upd H1 (s1.heap.push (rkObj d ((es.size : Int) - 1) es.size ep)).objs.size (.lst (kvs.reverse.map fun kv => kV kv.1))) h' (s1.heap.push (rkObj d ((es.size : Int) - 1) es.size ep)).objs.size (.lst (kvs.reverse.map fun kv => kV kv.1)) := by
    refine ⟨by rw [List.length_map, List.length_reverse]; exact z, acc.toList, c', by rw [ek]; exact hv, ?_⟩
    rw [Array.toArray_toList]
    exact hS
  have I3 := I2.turnedNew (ch := [s1.heap.objs.size]) (t' := tk) (fun b o hb e => hkeep b o (fun y => hb (List.mem_singleton.mpr y)) e) (fun b hb => by rw [List.mem_singleton.mp hb]; exact fp) (Nat.le_refl _) new
  exact ⟨.ref _, _, I3, rfl, q _ (I2.hok.fresh (Nat.le_refl _))⟩
end
end Pk

namespace Pk
open PySem PySem.Spec PyProof.Rows L2
def top (i : Nat) : Stmt := PySem.Challenge.pw_passkeep_k41_slots.main.body.getD i (.Pass ⟨0, 0, 0, 0⟩)
abbrev s_NoDeed___init__ : Stmt := inClass (top 12) 0
theorem sc_NoDeed___init__ : FnScope ["self", "deed"] ["self", "deed"] (defScope s_NoDeed___init__) := ⟨rfl, rfl, rfl, by decide +kernel, rfl, by decide +kernel, by decide +kernel⟩
abbrev s_Lacks___init__ : Stmt := inClass (top 13) 0
theorem sc_Lacks___init__ : FnScope ["self", "missing"] ["self", "missing"] (defScope s_Lacks___init__) := ⟨rfl, rfl, rfl, by decide +kernel, rfl, by decide +kernel, by decide +kernel⟩
abbrev s_is_name : Stmt := top 21
theorem sc_is_name : FnScope ["thing", "sign"] ["thing"] (defScope s_is_name) := ⟨rfl, rfl, rfl, by decide +kernel, rfl, by decide +kernel, by decide +kernel⟩
abbrev s_Task___init__ : Stmt := inClass (top 25) 0
theorem sc_Task___init__ : FnScope ["self", "maker"] ["self", "maker"] (defScope s_Task___init__) := ⟨rfl, rfl, rfl, by decide +kernel, rfl, by decide +kernel, by decide +kernel⟩
abbrev s_Tasks___init__ : Stmt := inClass (top 26) 0
theorem sc_Tasks___init__ : FnScope ["self"] ["self"] (defScope s_Tasks___init__) := ⟨rfl, rfl, rfl, by decide +kernel, rfl, by decide +kernel, by decide +kernel⟩
abbrev s_Tasks_running_one : Stmt := inClass (top 26) 1
theorem sc_Tasks_running_one : FnScope ["self", "name"] ["self", "name"] (defScope s_Tasks_running_one) := ⟨rfl, rfl, rfl, by decide +kernel, rfl, by decide +kernel, by decide +kernel⟩
abbrev s_Tasks_need : Stmt := inClass (top 26) 2
theorem sc_Tasks_need : FnScope ["self", "name"] ["self", "name"] (defScope s_Tasks_need) := ⟨rfl, rfl, rfl, by decide +kernel, rfl, by decide +kernel, by decide +kernel⟩
abbrev s_Tasks_added : Stmt := inClass (top 26) 3
theorem sc_Tasks_added : FnScope ["self", "name", "maker"] ["self", "name", "maker"] (defScope s_Tasks_added) := ⟨rfl, rfl, rfl, by decide +kernel, rfl, by decide +kernel, by decide +kernel⟩
abbrev s_Tasks_running : Stmt := inClass (top 26) 4
theorem sc_Tasks_running : FnScope ["self", "name", "task"] ["self"] (defScope s_Tasks_running) := ⟨rfl, rfl, rfl, by decide +kernel, rfl, by decide +kernel, by decide +kernel⟩
abbrev s_Tasks_names : Stmt := inClass (top 26) 5
theorem sc_Tasks_names : FnScope ["self"] ["self"] (defScope s_Tasks_names) := ⟨rfl, rfl, rfl, by decide +kernel, rfl, by decide +kernel, by decide +kernel⟩
abbrev s_Tasks_put : Stmt := inClass (top 26) 6
theorem sc_Tasks_put : FnScope ["self", "name", "number", "rows", "slot"] ["self", "name", "number"] (defScope s_Tasks_put) := ⟨rfl, rfl, rfl, by decide +kernel, rfl, by decide +kernel, by decide +kernel⟩
abbrev s_Tasks_at : Stmt := inClass (top 26) 7
theorem sc_Tasks_at : FnScope ["self", "name", "slot", "rows"] ["self", "name", "slot"] (defScope s_Tasks_at) := ⟨rfl, rfl, rfl, by decide +kernel, rfl, by decide +kernel, by decide +kernel⟩
abbrev s_Tasks_free : Stmt := inClass (top 26) 8
theorem sc_Tasks_free : FnScope ["self", "name"] ["self", "name"] (defScope s_Tasks_free) := ⟨rfl, rfl, rfl, by decide +kernel, rfl, by decide +kernel, by decide +kernel⟩
abbrev s_Tasks_slots : Stmt := inClass (top 26) 9
theorem sc_Tasks_slots : FnScope ["self", "name", "slot", "number"] ["self", "name"] (defScope s_Tasks_slots) := ⟨rfl, rfl, rfl, by decide +kernel, rfl, by decide +kernel, by decide +kernel⟩
abbrev s_Tasks_taken_out : Stmt := inClass (top 26) 10
theorem sc_Tasks_taken_out : FnScope ["self", "number", "many", "task", "slot"] ["self", "number"] (defScope s_Tasks_taken_out) := ⟨rfl, rfl, rfl, by decide +kernel, rfl, by decide +kernel, by decide +kernel⟩
abbrev s_Tasks_made_by : Stmt := inClass (top 26) 11
theorem sc_Tasks_made_by : FnScope ["self", "name"] ["self", "name"] (defScope s_Tasks_made_by) := ⟨rfl, rfl, rfl, by decide +kernel, rfl, by decide +kernel, by decide +kernel⟩
abbrev s_Tasks_stopped : Stmt := inClass (top 26) 12
theorem sc_Tasks_stopped : FnScope ["self", "name"] ["self", "name"] (defScope s_Tasks_stopped) := ⟨rfl, rfl, rfl, by decide +kernel, rfl, by decide +kernel, by decide +kernel⟩
abbrev s__law_mix : Stmt := top 28
theorem sc__law_mix : FnScope ["_law_script", "_law_k", "_law_cell", "_law_number"] ["_law_script", "_law_k"] (defScope s__law_mix) := ⟨rfl, rfl, rfl, by decide +kernel, rfl, by decide +kernel, by decide +kernel⟩
abbrev s__law_name : Stmt := top 29
theorem sc__law_name : FnScope ["_law_script", "_law_k", "_law_sign", "_law_base", "_law_size", "_law_at_here"] ["_law_script", "_law_k"] (defScope s__law_name) := ⟨rfl, rfl, rfl, by decide +kernel, rfl, by decide +kernel, by decide +kernel⟩
abbrev s__law_word : Stmt := top 30
theorem sc__law_word : FnScope ["_law_e", "_law_some"] ["_law_e"] (defScope s__law_word) := ⟨rfl, rfl, rfl, by decide +kernel, rfl, by decide +kernel, by decide +kernel⟩
abbrev s__law_whole : Stmt := top 31
theorem sc__law_whole : FnScope ["_law_thing"] ["_law_thing"] (defScope s__law_whole) := ⟨rfl, rfl, rfl, by decide +kernel, rfl, by decide +kernel, by decide +kernel⟩
abbrev s__law_put : Stmt := top 32
theorem sc__law_put : FnScope ["_law_tasks", "_law_name_here", "_law_number", "_law_e"] ["_law_tasks", "_law_name_here", "_law_number"] (defScope s__law_put) := ⟨rfl, rfl, rfl, by decide +kernel, rfl, by decide +kernel, by decide +kernel⟩
abbrev s__law_at : Stmt := top 33
theorem sc__law_at : FnScope ["_law_tasks", "_law_name_here", "_law_slot", "_law_e"] ["_law_tasks", "_law_name_here", "_law_slot"] (defScope s__law_at) := ⟨rfl, rfl, rfl, by decide +kernel, rfl, by decide +kernel, by decide +kernel⟩
abbrev s__law_put_due : Stmt := top 34
theorem sc__law_put_due : FnScope ["_law_rows", "_law_name_here", "_law_number", "_law_slot"] ["_law_rows", "_law_name_here", "_law_number"] (defScope s__law_put_due) := ⟨rfl, rfl, rfl, by decide +kernel, rfl, by decide +kernel, by decide +kernel⟩
abbrev s__law_at_due : Stmt := top 35
theorem sc__law_at_due : FnScope ["_law_rows", "_law_name_here", "_law_slot"] ["_law_rows", "_law_name_here", "_law_slot"] (defScope s__law_at_due) := ⟨rfl, rfl, rfl, by decide +kernel, rfl, by decide +kernel, by decide +kernel⟩
abbrev s__law_out : Stmt := top 36
theorem sc__law_out : FnScope ["_law_rows", "_law_number", "_law_many", "_law_name_here", "_law_one"] ["_law_rows", "_law_number"] (defScope s__law_out) := ⟨rfl, rfl, rfl, by decide +kernel, rfl, by decide +kernel, by decide +kernel⟩
abbrev s__law_refused : Stmt := top 37
theorem sc__law_refused : FnScope ["_law_tasks", "_law_name_here", "_law_way", "_law_e"] ["_law_tasks", "_law_name_here", "_law_way"] (defScope s__law_refused) := ⟨rfl, rfl, rfl, by decide +kernel, rfl, by decide +kernel, by decide +kernel⟩
abbrev s__law_pairs : Stmt := top 38
theorem sc__law_pairs : FnScope ["_law_tasks", "_law_name_here", "_law_row", "_law_held", "_law_found", "_law_pair", "_law_k"] ["_law_tasks", "_law_name_here", "_law_row", "_law_held"] (defScope s__law_pairs) := ⟨rfl, rfl, rfl, by decide +kernel, rfl, by decide +kernel, by decide +kernel⟩
abbrev s__law_free : Stmt := top 39
theorem sc__law_free : FnScope ["_law_tasks", "_law_name_here", "_law_row", "_law_found"] ["_law_tasks", "_law_name_here", "_law_row"] (defScope s__law_free) := ⟨rfl, rfl, rfl, by decide +kernel, rfl, by decide +kernel, by decide +kernel⟩
abbrev s__law_looked : Stmt := top 40
theorem sc__law_looked : FnScope ["_law_tasks", "_law_rows", "_law_held", "_law_number", "_law_name_here", "_law_way"] ["_law_tasks", "_law_rows", "_law_held", "_law_number"] (defScope s__law_looked) := ⟨rfl, rfl, rfl, by decide +kernel, rfl, by decide +kernel, by decide +kernel⟩
abbrev s__law_deed : Stmt := top 41
theorem sc__law_deed : FnScope ["_law_tasks", "_law_rows", "_law_name_here", "_law_number", "_law_more", "_law_way", "_law_value", "_law_found", "_law_some", "_law_slot"] ["_law_tasks", "_law_rows", "_law_name_here", "_law_number", "_law_more"] (defScope s__law_deed) := ⟨rfl, rfl, rfl, by decide +kernel, rfl, by decide +kernel, by decide +kernel⟩
abbrev s_law : Stmt := top 42
theorem sc_law : FnScope ["_law_script", "_law_tasks", "_law_rows", "_law_k", "_law_strange", "_law_held", "_law_number", "_law_name_here", "_law_found", "_law_due", "_law_pair"] ["_law_script"] (defScope s_law) := ⟨rfl, rfl, rfl, by decide +kernel, rfl, by decide +kernel, by decide +kernel⟩
def d_is_name : He.DefD := ⟨("is_name", none), "is_name", "is_name", defArgs s_is_name, defBody s_is_name, defScope s_is_name, [], []⟩
def d__law_mix : He.DefD := ⟨("_law_mix", none), "_law_mix", "_law_mix", defArgs s__law_mix, defBody s__law_mix, defScope s__law_mix, [], []⟩
def d__law_name : He.DefD := ⟨("_law_name", none), "_law_name", "_law_name", defArgs s__law_name, defBody s__law_name, defScope s__law_name, [], []⟩
def d__law_word : He.DefD := ⟨("_law_word", none), "_law_word", "_law_word", defArgs s__law_word, defBody s__law_word, defScope s__law_word, [], []⟩
def d__law_whole : He.DefD := ⟨("_law_whole", none), "_law_whole", "_law_whole", defArgs s__law_whole, defBody s__law_whole, defScope s__law_whole, [], []⟩
def d__law_put : He.DefD := ⟨("_law_put", none), "_law_put", "_law_put", defArgs s__law_put, defBody s__law_put, defScope s__law_put, [], []⟩
def d__law_at : He.DefD := ⟨("_law_at", none), "_law_at", "_law_at", defArgs s__law_at, defBody s__law_at, defScope s__law_at, [], []⟩
def d__law_put_due : He.DefD := ⟨("_law_put_due", none), "_law_put_due", "_law_put_due", defArgs s__law_put_due, defBody s__law_put_due, defScope s__law_put_due, [], []⟩
def d__law_at_due : He.DefD := ⟨("_law_at_due", none), "_law_at_due", "_law_at_due", defArgs s__law_at_due, defBody s__law_at_due, defScope s__law_at_due, [], []⟩
def d__law_out : He.DefD := ⟨("_law_out", none), "_law_out", "_law_out", defArgs s__law_out, defBody s__law_out, defScope s__law_out, [], []⟩
def d__law_refused : He.DefD := ⟨("_law_refused", none), "_law_refused", "_law_refused", defArgs s__law_refused, defBody s__law_refused, defScope s__law_refused, [], []⟩
def d__law_pairs : He.DefD := ⟨("_law_pairs", none), "_law_pairs", "_law_pairs", defArgs s__law_pairs, defBody s__law_pairs, defScope s__law_pairs, [], []⟩
def d__law_free : He.DefD := ⟨("_law_free", none), "_law_free", "_law_free", defArgs s__law_free, defBody s__law_free, defScope s__law_free, [], []⟩
def d__law_looked : He.DefD := ⟨("_law_looked", none), "_law_looked", "_law_looked", defArgs s__law_looked, defBody s__law_looked, defScope s__law_looked, [], []⟩
def d__law_deed : He.DefD := ⟨("_law_deed", none), "_law_deed", "_law_deed", defArgs s__law_deed, defBody s__law_deed, defScope s__law_deed, [], []⟩
def d_law : He.DefD := ⟨("law", none), "law", "law", defArgs s_law, defBody s_law, defScope s_law, [], []⟩
def d_NoDeed___init__ : He.DefD := ⟨("NoDeed", some "__init__"), "__init__", "NoDeed.__init__", defArgs s_NoDeed___init__, defBody s_NoDeed___init__, defScope s_NoDeed___init__, [], []⟩
def d_Lacks___init__ : He.DefD := ⟨("Lacks", some "__init__"), "__init__", "Lacks.__init__", defArgs s_Lacks___init__, defBody s_Lacks___init__, defScope s_Lacks___init__, [], []⟩
def d_Task___init__ : He.DefD := ⟨("Task", some "__init__"), "__init__", "Task.__init__", defArgs s_Task___init__, defBody s_Task___init__, defScope s_Task___init__, [], []⟩
def d_Tasks___init__ : He.DefD := ⟨("Tasks", some "__init__"), "__init__", "Tasks.__init__", defArgs s_Tasks___init__, defBody s_Tasks___init__, defScope s_Tasks___init__, [], []⟩
def d_Tasks_running_one : He.DefD := ⟨("Tasks", some "running_one"), "running_one", "Tasks.running_one", defArgs s_Tasks_running_one, defBody s_Tasks_running_one, defScope s_Tasks_running_one, [], []⟩
def d_Tasks_need : He.DefD := ⟨("Tasks", some "need"), "need", "Tasks.need", defArgs s_Tasks_need, defBody s_Tasks_need, defScope s_Tasks_need, [], []⟩
def d_Tasks_added : He.DefD := ⟨("Tasks", some "added"), "added", "Tasks.added", defArgs s_Tasks_added, defBody s_Tasks_added, defScope s_Tasks_added, [], []⟩
def d_Tasks_running : He.DefD := ⟨("Tasks", some "running"), "running", "Tasks.running", defArgs s_Tasks_running, defBody s_Tasks_running, defScope s_Tasks_running, [], []⟩
def d_Tasks_names : He.DefD := ⟨("Tasks", some "names"), "names", "Tasks.names", defArgs s_Tasks_names, defBody s_Tasks_names, defScope s_Tasks_names, [], []⟩
def d_Tasks_put : He.DefD := ⟨("Tasks", some "put"), "put", "Tasks.put", defArgs s_Tasks_put, defBody s_Tasks_put, defScope s_Tasks_put, [], []⟩
def d_Tasks_at : He.DefD := ⟨("Tasks", some "at"), "at", "Tasks.at", defArgs s_Tasks_at, defBody s_Tasks_at, defScope s_Tasks_at, [], []⟩
def d_Tasks_free : He.DefD := ⟨("Tasks", some "free"), "free", "Tasks.free", defArgs s_Tasks_free, defBody s_Tasks_free, defScope s_Tasks_free, [], []⟩
def d_Tasks_slots : He.DefD := ⟨("Tasks", some "slots"), "slots", "Tasks.slots", defArgs s_Tasks_slots, defBody s_Tasks_slots, defScope s_Tasks_slots, [], []⟩
def d_Tasks_taken_out : He.DefD := ⟨("Tasks", some "taken_out"), "taken_out", "Tasks.taken_out", defArgs s_Tasks_taken_out, defBody s_Tasks_taken_out, defScope s_Tasks_taken_out, [], []⟩
def d_Tasks_made_by : He.DefD := ⟨("Tasks", some "made_by"), "made_by", "Tasks.made_by", defArgs s_Tasks_made_by, defBody s_Tasks_made_by, defScope s_Tasks_made_by, [], []⟩
def d_Tasks_stopped : He.DefD := ⟨("Tasks", some "stopped"), "stopped", "Tasks.stopped", defArgs s_Tasks_stopped, defBody s_Tasks_stopped, defScope s_Tasks_stopped, [], []⟩
def fnL : List He.DefD := [d_is_name, d__law_mix, d__law_name, d__law_word, d__law_whole, d__law_put, d__law_at, d__law_put_due, d__law_at_due, d__law_out, d__law_refused, d__law_pairs, d__law_free, d__law_looked, d__law_deed, d_law, d_NoDeed___init__, d_Lacks___init__, d_Task___init__, d_Tasks___init__, d_Tasks_running_one, d_Tasks_need, d_Tasks_added, d_Tasks_running, d_Tasks_names, d_Tasks_put, d_Tasks_at, d_Tasks_free, d_Tasks_slots, d_Tasks_taken_out, d_Tasks_made_by, d_Tasks_stopped]
def faL : List FaB := [
  faF (.glo "is_name"),
  faF (.glo "_law_mix"),
  faF (.glo "_law_name"),
  faF (.glo "_law_word"),
  faF (.glo "_law_whole"),
  faF (.glo "_law_put"),
  faF (.glo "_law_at"),
  faF (.glo "_law_put_due"),
  faF (.glo "_law_at_due"),
  faF (.glo "_law_out"),
  faF (.glo "_law_refused"),
  faF (.glo "_law_pairs"),
  faF (.glo "_law_free"),
  faF (.glo "_law_looked"),
  faF (.glo "_law_deed"),
  faF (.glo "law"),
  faF (.glo "PassError"),
  faF (.glo "NoRights"),
  faF (.glo "NoName"),
  faF (.glo "NoValue"),
  faF (.glo "NoWords"),
  faF (.glo "NoKind"),
  faF (.glo "NoTask"),
  faF (.glo "NoHandle"),
  faF (.glo "NoThing"),
  faF (.glo "NoRow"),
  faF (.glo "NoDeed"),
  faF (.glo "Lacks"),
  faF (.glo "Taken"),
  faF (.glo "TooMany"),
  faF (.glo "TooGreat"),
  faF (.glo "Empty"),
  faF (.glo "Full"),
  faF (.glo "Task"),
  faF (.glo "Tasks"),
  faF (.free "ValueError"),
  faF (.free "all"),
  faF (.free "bool"),
  faF (.free "enumerate"),
  faF (.free "int"),
  faF (.free "isinstance"),
  faF (.free "len"),
  faF (.free "list"),
  faF (.free "range"),
  faF (.free "reversed"),
  faF (.free "str"),
  faF (.free "tuple"),
  faF (.int "MOST_LETTERS" 8),
  faF (.int "MOST_TASKS" 12),
  faF (.int "SLOTS" 16),
  faF (.exc "PassError"),
  faE "PassError",
  faF (.exm "PassError" "PassError" true),
  faF (.exc "NoRights"),
  faE "NoRights",
  faK "NoRights" [("PassError", true), ("NoRights", true), ("NoName", false), ("NoValue", false), ("NoWords", false), ("NoKind", false), ("NoTask", false), ("NoHandle", false), ("NoThing", false), ("NoRow", false), ("NoDeed", false), ("Lacks", false), ("Taken", false), ("TooMany", false), ("TooGreat", false), ("Empty", false), ("Full", false)],
  faF (.exm "NoRights" "PassError" true),
  faF (.exc "NoName"),
  faE "NoName",
  faK "NoName" [("PassError", true), ("NoRights", false), ("NoName", true), ("NoValue", false), ("NoWords", false), ("NoKind", false), ("NoTask", false), ("NoHandle", false), ("NoThing", false), ("NoRow", false), ("NoDeed", false), ("Lacks", false), ("Taken", false), ("TooMany", false), ("TooGreat", false), ("Empty", false), ("Full", false)],
  faF (.exm "NoName" "PassError" true),
  faF (.exc "NoValue"),
  faE "NoValue",
  faK "NoValue" [("PassError", true), ("NoRights", false), ("NoName", false), ("NoValue", true), ("NoWords", false), ("NoKind", false), ("NoTask", false), ("NoHandle", false), ("NoThing", false), ("NoRow", false), ("NoDeed", false), ("Lacks", false), ("Taken", false), ("TooMany", false), ("TooGreat", false), ("Empty", false), ("Full", false)],
  faF (.exm "NoValue" "PassError" true),
  faF (.exc "NoWords"),
  faE "NoWords",
  faK "NoWords" [("PassError", true), ("NoRights", false), ("NoName", false), ("NoValue", false), ("NoWords", true), ("NoKind", false), ("NoTask", false), ("NoHandle", false), ("NoThing", false), ("NoRow", false), ("NoDeed", false), ("Lacks", false), ("Taken", false), ("TooMany", false), ("TooGreat", false), ("Empty", false), ("Full", false)],
  faF (.exm "NoWords" "PassError" true),
  faF (.exc "NoKind"),
  faE "NoKind",
  faK "NoKind" [("PassError", true), ("NoRights", false), ("NoName", false), ("NoValue", false), ("NoWords", false), ("NoKind", true), ("NoTask", false), ("NoHandle", false), ("NoThing", false), ("NoRow", false), ("NoDeed", false), ("Lacks", false), ("Taken", false), ("TooMany", false), ("TooGreat", false), ("Empty", false), ("Full", false)],
  faF (.exm "NoKind" "PassError" true),
  faF (.exc "NoTask"),
  faE "NoTask",
  faK "NoTask" [("PassError", true), ("NoRights", false), ("NoName", false), ("NoValue", false), ("NoWords", false), ("NoKind", false), ("NoTask", true), ("NoHandle", false), ("NoThing", false), ("NoRow", false), ("NoDeed", false), ("Lacks", false), ("Taken", false), ("TooMany", false), ("TooGreat", false), ("Empty", false), ("Full", false)],
  faF (.exm "NoTask" "PassError" true),
  faF (.exc "NoHandle"),
  faE "NoHandle",
  faK "NoHandle" [("PassError", true), ("NoRights", false), ("NoName", false), ("NoValue", false), ("NoWords", false), ("NoKind", false), ("NoTask", false), ("NoHandle", true), ("NoThing", false), ("NoRow", false), ("NoDeed", false), ("Lacks", false), ("Taken", false), ("TooMany", false), ("TooGreat", false), ("Empty", false), ("Full", false)],
  faF (.exm "NoHandle" "PassError" true),
  faF (.exc "NoThing"),
  faE "NoThing",
  faK "NoThing" [("PassError", true), ("NoRights", false), ("NoName", false), ("NoValue", false), ("NoWords", false), ("NoKind", false), ("NoTask", false), ("NoHandle", false), ("NoThing", true), ("NoRow", false), ("NoDeed", false), ("Lacks", false), ("Taken", false), ("TooMany", false), ("TooGreat", false), ("Empty", false), ("Full", false)],
  faF (.exm "NoThing" "PassError" true),
  faF (.exc "NoRow"),
  faE "NoRow",
  faK "NoRow" [("PassError", true), ("NoRights", false), ("NoName", false), ("NoValue", false), ("NoWords", false), ("NoKind", false), ("NoTask", false), ("NoHandle", false), ("NoThing", false), ("NoRow", true), ("NoDeed", false), ("Lacks", false), ("Taken", false), ("TooMany", false), ("TooGreat", false), ("Empty", false), ("Full", false)],
  faF (.exm "NoRow" "PassError" true),
  faX "NoDeed" "deed",
  faE "NoDeed",
  faK "NoDeed" [("PassError", true), ("NoRights", false), ("NoName", false), ("NoValue", false), ("NoWords", false), ("NoKind", false), ("NoTask", false), ("NoHandle", false), ("NoThing", false), ("NoRow", false), ("NoDeed", true), ("Lacks", false), ("Taken", false), ("TooMany", false), ("TooGreat", false), ("Empty", false), ("Full", false)],
  faF (.exm "NoDeed" "PassError" true),
  faX "Lacks" "missing",
  faE "Lacks",
  faK "Lacks" [("PassError", true), ("NoRights", false), ("NoName", false), ("NoValue", false), ("NoWords", false), ("NoKind", false), ("NoTask", false), ("NoHandle", false), ("NoThing", false), ("NoRow", false), ("NoDeed", false), ("Lacks", true), ("Taken", false), ("TooMany", false), ("TooGreat", false), ("Empty", false), ("Full", false)],
  faF (.exm "Lacks" "PassError" true),
  faF (.exc "Taken"),
  faE "Taken",
  faK "Taken" [("PassError", true), ("NoRights", false), ("NoName", false), ("NoValue", false), ("NoWords", false), ("NoKind", false), ("NoTask", false), ("NoHandle", false), ("NoThing", false), ("NoRow", false), ("NoDeed", false), ("Lacks", false), ("Taken", true), ("TooMany", false), ("TooGreat", false), ("Empty", false), ("Full", false)],
  faF (.exm "Taken" "PassError" true),
  faF (.exc "TooMany"),
  faE "TooMany",
  faK "TooMany" [("PassError", true), ("NoRights", false), ("NoName", false), ("NoValue", false), ("NoWords", false), ("NoKind", false), ("NoTask", false), ("NoHandle", false), ("NoThing", false), ("NoRow", false), ("NoDeed", false), ("Lacks", false), ("Taken", false), ("TooMany", true), ("TooGreat", false), ("Empty", false), ("Full", false)],
  faF (.exm "TooMany" "PassError" true),
  faF (.exc "TooGreat"),
  faE "TooGreat",
  faK "TooGreat" [("PassError", true), ("NoRights", false), ("NoName", false), ("NoValue", false), ("NoWords", false), ("NoKind", false), ("NoTask", false), ("NoHandle", false), ("NoThing", false), ("NoRow", false), ("NoDeed", false), ("Lacks", false), ("Taken", false), ("TooMany", false), ("TooGreat", true), ("Empty", false), ("Full", false)],
  faF (.exm "TooGreat" "PassError" true),
  faF (.exc "Empty"),
  faE "Empty",
  faK "Empty" [("PassError", true), ("NoRights", false), ("NoName", false), ("NoValue", false), ("NoWords", false), ("NoKind", false), ("NoTask", false), ("NoHandle", false), ("NoThing", false), ("NoRow", false), ("NoDeed", false), ("Lacks", false), ("Taken", false), ("TooMany", false), ("TooGreat", false), ("Empty", true), ("Full", false)],
  faF (.exm "Empty" "PassError" true),
  faF (.exc "Full"),
  faE "Full",
  faK "Full" [("PassError", true), ("NoRights", false), ("NoName", false), ("NoValue", false), ("NoWords", false), ("NoKind", false), ("NoTask", false), ("NoHandle", false), ("NoThing", false), ("NoRow", false), ("NoDeed", false), ("Lacks", false), ("Taken", false), ("TooMany", false), ("TooGreat", false), ("Empty", false), ("Full", true)],
  faF (.exm "Full" "PassError" true),
  faF (.cls "Task"),
  faF (.mkr "Task"),
  faF (.noat "Task" "maker"),
  faF (.noat "Task" "runs"),
  faF (.noat "Task" "rows"),
  faF (.cls "Tasks"),
  faF (.mkr "Tasks"),
  faF (.meth "Tasks" "running_one"),
  faF (.meth "Tasks" "need"),
  faF (.meth "Tasks" "added"),
  faF (.meth "Tasks" "running"),
  faF (.meth "Tasks" "names"),
  faF (.meth "Tasks" "put"),
  faF (.meth "Tasks" "at"),
  faF (.meth "Tasks" "free"),
  faF (.meth "Tasks" "slots"),
  faF (.meth "Tasks" "taken_out"),
  faF (.meth "Tasks" "made_by"),
  faF (.meth "Tasks" "stopped"),
  faF (.noat "Tasks" "known")]
abbrev Tx := TxOf faL fnL
section
variable {K : PySem.W.Frag} {mg : Str → Option Value}
theorem Tx.g_is_name (T : Tx K mg) : mg "is_name" = some (.ref (ga K "is_name")) := T.g _ (T.c.fact 0)
theorem Tx.g__law_mix (T : Tx K mg) : mg "_law_mix" = some (.ref (ga K "_law_mix")) := T.g _ (T.c.fact 1)
theorem Tx.g__law_name (T : Tx K mg) : mg "_law_name" = some (.ref (ga K "_law_name")) := T.g _ (T.c.fact 2)
theorem Tx.g__law_word (T : Tx K mg) : mg "_law_word" = some (.ref (ga K "_law_word")) := T.g _ (T.c.fact 3)
theorem Tx.g__law_whole (T : Tx K mg) : mg "_law_whole" = some (.ref (ga K "_law_whole")) := T.g _ (T.c.fact 4)
theorem Tx.g__law_put (T : Tx K mg) : mg "_law_put" = some (.ref (ga K "_law_put")) := T.g _ (T.c.fact 5)
theorem Tx.g__law_at (T : Tx K mg) : mg "_law_at" = some (.ref (ga K "_law_at")) := T.g _ (T.c.fact 6)
theorem Tx.g__law_put_due (T : Tx K mg) : mg "_law_put_due" = some (.ref (ga K "_law_put_due")) := T.g _ (T.c.fact 7)
theorem Tx.g__law_at_due (T : Tx K mg) : mg "_law_at_due" = some (.ref (ga K "_law_at_due")) := T.g _ (T.c.fact 8)
theorem Tx.g__law_out (T : Tx K mg) : mg "_law_out" = some (.ref (ga K "_law_out")) := T.g _ (T.c.fact 9)
theorem Tx.g__law_refused (T : Tx K mg) : mg "_law_refused" = some (.ref (ga K "_law_refused")) := T.g _ (T.c.fact 10)
theorem Tx.g__law_pairs (T : Tx K mg) : mg "_law_pairs" = some (.ref (ga K "_law_pairs")) := T.g _ (T.c.fact 11)
theorem Tx.g__law_free (T : Tx K mg) : mg "_law_free" = some (.ref (ga K "_law_free")) := T.g _ (T.c.fact 12)
theorem Tx.g__law_looked (T : Tx K mg) : mg "_law_looked" = some (.ref (ga K "_law_looked")) := T.g _ (T.c.fact 13)
theorem Tx.g__law_deed (T : Tx K mg) : mg "_law_deed" = some (.ref (ga K "_law_deed")) := T.g _ (T.c.fact 14)
theorem Tx.g_law (T : Tx K mg) : mg "law" = some (.ref (ga K "law")) := T.g _ (T.c.fact 15)
theorem Tx.g_PassError (T : Tx K mg) : mg "PassError" = some (.ref (ga K "PassError")) := T.g _ (T.c.fact 16)
theorem Tx.g_NoRights (T : Tx K mg) : mg "NoRights" = some (.ref (ga K "NoRights")) := T.g _ (T.c.fact 17)
theorem Tx.g_NoName (T : Tx K mg) : mg "NoName" = some (.ref (ga K "NoName")) := T.g _ (T.c.fact 18)
theorem Tx.g_NoValue (T : Tx K mg) : mg "NoValue" = some (.ref (ga K "NoValue")) := T.g _ (T.c.fact 19)
theorem Tx.g_NoWords (T : Tx K mg) : mg "NoWords" = some (.ref (ga K "NoWords")) := T.g _ (T.c.fact 20)
theorem Tx.g_NoKind (T : Tx K mg) : mg "NoKind" = some (.ref (ga K "NoKind")) := T.g _ (T.c.fact 21)
theorem Tx.g_NoTask (T : Tx K mg) : mg "NoTask" = some (.ref (ga K "NoTask")) := T.g _ (T.c.fact 22)
theorem Tx.g_NoHandle (T : Tx K mg) : mg "NoHandle" = some (.ref (ga K "NoHandle")) := T.g _ (T.c.fact 23)
theorem Tx.g_NoThing (T : Tx K mg) : mg "NoThing" = some (.ref (ga K "NoThing")) := T.g _ (T.c.fact 24)
theorem Tx.g_NoRow (T : Tx K mg) : mg "NoRow" = some (.ref (ga K "NoRow")) := T.g _ (T.c.fact 25)
theorem Tx.g_NoDeed (T : Tx K mg) : mg "NoDeed" = some (.ref (ga K "NoDeed")) := T.g _ (T.c.fact 26)
theorem Tx.g_Lacks (T : Tx K mg) : mg "Lacks" = some (.ref (ga K "Lacks")) := T.g _ (T.c.fact 27)
theorem Tx.g_Taken (T : Tx K mg) : mg "Taken" = some (.ref (ga K "Taken")) := T.g _ (T.c.fact 28)
theorem Tx.g_TooMany (T : Tx K mg) : mg "TooMany" = some (.ref (ga K "TooMany")) := T.g _ (T.c.fact 29)
theorem Tx.g_TooGreat (T : Tx K mg) : mg "TooGreat" = some (.ref (ga K "TooGreat")) := T.g _ (T.c.fact 30)
theorem Tx.g_Empty (T : Tx K mg) : mg "Empty" = some (.ref (ga K "Empty")) := T.g _ (T.c.fact 31)
theorem Tx.g_Full (T : Tx K mg) : mg "Full" = some (.ref (ga K "Full")) := T.g _ (T.c.fact 32)
theorem Tx.g_Task (T : Tx K mg) : mg "Task" = some (.ref (ga K "Task")) := T.g _ (T.c.fact 33)
theorem Tx.g_Tasks (T : Tx K mg) : mg "Tasks" = some (.ref (ga K "Tasks")) := T.g _ (T.c.fact 34)
theorem Tx.n_ValueError (T : Tx K mg) : mg "ValueError" = none := T.n _ (T.c.fact 35)
theorem Tx.n_all (T : Tx K mg) : mg "all" = none := T.n _ (T.c.fact 36)
theorem Tx.n_bool (T : Tx K mg) : mg "bool" = none := T.n _ (T.c.fact 37)
theorem Tx.n_enumerate (T : Tx K mg) : mg "enumerate" = none := T.n _ (T.c.fact 38)
theorem Tx.n_int (T : Tx K mg) : mg "int" = none := T.n _ (T.c.fact 39)
theorem Tx.n_isinstance (T : Tx K mg) : mg "isinstance" = none := T.n _ (T.c.fact 40)
theorem Tx.n_len (T : Tx K mg) : mg "len" = none := T.n _ (T.c.fact 41)
theorem Tx.n_list (T : Tx K mg) : mg "list" = none := T.n _ (T.c.fact 42)
theorem Tx.n_range (T : Tx K mg) : mg "range" = none := T.n _ (T.c.fact 43)
theorem Tx.n_reversed (T : Tx K mg) : mg "reversed" = none := T.n _ (T.c.fact 44)
theorem Tx.n_str (T : Tx K mg) : mg "str" = none := T.n _ (T.c.fact 45)
theorem Tx.n_tuple (T : Tx K mg) : mg "tuple" = none := T.n _ (T.c.fact 46)
theorem Tx.i_MOST_LETTERS (T : Tx K mg) : ∃ t, mg "MOST_LETTERS" = some (.int 8 t) := T.i _ _ (T.c.fact 47)
theorem Tx.i_MOST_TASKS (T : Tx K mg) : ∃ t, mg "MOST_TASKS" = some (.int 12 t) := T.i _ _ (T.c.fact 48)
theorem Tx.i_SLOTS (T : Tx K mg) : ∃ t, mg "SLOTS" = some (.int 16 t) := T.i _ _ (T.c.fact 49)
theorem Tx.xn_PassError (T : Tx K mg) : PySem.W.excIn K (ga K "PassError") He.veBase "ValueError.__new__" = true := faN_ok (T.c.fact 50)
theorem Tx.x_PassError (T : Tx K mg) : EOk K (ga K "PassError") := faE_ok (T.c.fact 51)
theorem Tx.m_PassError (T : Tx K mg) : PySem.W.exmOne K (.ref (ga K "PassError")) (.ref (ga K "PassError")) = some true := He.exm_ok (T.c.fact 52)
theorem Tx.xn_NoRights (T : Tx K mg) : PySem.W.excIn K (ga K "NoRights") He.veBase "ValueError.__new__" = true := faN_ok (T.c.fact 53)
theorem Tx.x_NoRights (T : Tx K mg) : EOk K (ga K "NoRights") := faE_ok (T.c.fact 54)
theorem Tx.k_NoRights (T : Tx K mg) : KOk K "NoRights" [("PassError", true), ("NoRights", true), ("NoName", false), ("NoValue", false), ("NoWords", false), ("NoKind", false), ("NoTask", false), ("NoHandle", false), ("NoThing", false), ("NoRow", false), ("NoDeed", false), ("Lacks", false), ("Taken", false), ("TooMany", false), ("TooGreat", false), ("Empty", false), ("Full", false)] := faK_ok (T.c.fact 55)
theorem Tx.m_NoRights (T : Tx K mg) : PySem.W.exmOne K (.ref (ga K "NoRights")) (.ref (ga K "PassError")) = some true := He.exm_ok (T.c.fact 56)
theorem Tx.xn_NoName (T : Tx K mg) : PySem.W.excIn K (ga K "NoName") He.veBase "ValueError.__new__" = true := faN_ok (T.c.fact 57)
theorem Tx.x_NoName (T : Tx K mg) : EOk K (ga K "NoName") := faE_ok (T.c.fact 58)
theorem Tx.k_NoName (T : Tx K mg) : KOk K "NoName" [("PassError", true), ("NoRights", false), ("NoName", true), ("NoValue", false), ("NoWords", false), ("NoKind", false), ("NoTask", false), ("NoHandle", false), ("NoThing", false), ("NoRow", false), ("NoDeed", false), ("Lacks", false), ("Taken", false), ("TooMany", false), ("TooGreat", false), ("Empty", false), ("Full", false)] := faK_ok (T.c.fact 59)
theorem Tx.m_NoName (T : Tx K mg) : PySem.W.exmOne K (.ref (ga K "NoName")) (.ref (ga K "PassError")) = some true := He.exm_ok (T.c.fact 60)
theorem Tx.xn_NoValue (T : Tx K mg) : PySem.W.excIn K (ga K "NoValue") He.veBase "ValueError.__new__" = true := faN_ok (T.c.fact 61)
theorem Tx.x_NoValue (T : Tx K mg) : EOk K (ga K "NoValue") := faE_ok (T.c.fact 62)
theorem Tx.k_NoValue (T : Tx K mg) : KOk K "NoValue" [("PassError", true), ("NoRights", false), ("NoName", false), ("NoValue", true), ("NoWords", false), ("NoKind", false), ("NoTask", false), ("NoHandle", false), ("NoThing", false), ("NoRow", false), ("NoDeed", false), ("Lacks", false), ("Taken", false), ("TooMany", false), ("TooGreat", false), ("Empty", false), ("Full", false)] := faK_ok (T.c.fact 63)
theorem Tx.m_NoValue (T : Tx K mg) : PySem.W.exmOne K (.ref (ga K "NoValue")) (.ref (ga K "PassError")) = some true := He.exm_ok (T.c.fact 64)
theorem Tx.xn_NoWords (T : Tx K mg) : PySem.W.excIn K (ga K "NoWords") He.veBase "ValueError.__new__" = true := faN_ok (T.c.fact 65)
theorem Tx.x_NoWords (T : Tx K mg) : EOk K (ga K "NoWords") := faE_ok (T.c.fact 66)
theorem Tx.k_NoWords (T : Tx K mg) : KOk K "NoWords" [("PassError", true), ("NoRights", false), ("NoName", false), ("NoValue", false), ("NoWords", true), ("NoKind", false), ("NoTask", false), ("NoHandle", false), ("NoThing", false), ("NoRow", false), ("NoDeed", false), ("Lacks", false), ("Taken", false), ("TooMany", false), ("TooGreat", false), ("Empty", false), ("Full", false)] := faK_ok (T.c.fact 67)
theorem Tx.m_NoWords (T : Tx K mg) : PySem.W.exmOne K (.ref (ga K "NoWords")) (.ref (ga K "PassError")) = some true := He.exm_ok (T.c.fact 68)
theorem Tx.xn_NoKind (T : Tx K mg) : PySem.W.excIn K (ga K "NoKind") He.veBase "ValueError.__new__" = true := faN_ok (T.c.fact 69)
theorem Tx.x_NoKind (T : Tx K mg) : EOk K (ga K "NoKind") := faE_ok (T.c.fact 70)
theorem Tx.k_NoKind (T : Tx K mg) : KOk K "NoKind" [("PassError", true), ("NoRights", false), ("NoName", false), ("NoValue", false), ("NoWords", false), ("NoKind", true), ("NoTask", false), ("NoHandle", false), ("NoThing", false), ("NoRow", false), ("NoDeed", false), ("Lacks", false), ("Taken", false), ("TooMany", false), ("TooGreat", false), ("Empty", false), ("Full", false)] := faK_ok (T.c.fact 71)
theorem Tx.m_NoKind (T : Tx K mg) : PySem.W.exmOne K (.ref (ga K "NoKind")) (.ref (ga K "PassError")) = some true := He.exm_ok (T.c.fact 72)
theorem Tx.xn_NoTask (T : Tx K mg) : PySem.W.excIn K (ga K "NoTask") He.veBase "ValueError.__new__" = true := faN_ok (T.c.fact 73)
theorem Tx.x_NoTask (T : Tx K mg) : EOk K (ga K "NoTask") := faE_ok (T.c.fact 74)
theorem Tx.k_NoTask (T : Tx K mg) : KOk K "NoTask" [("PassError", true), ("NoRights", false), ("NoName", false), ("NoValue", false), ("NoWords", false), ("NoKind", false), ("NoTask", true), ("NoHandle", false), ("NoThing", false), ("NoRow", false), ("NoDeed", false), ("Lacks", false), ("Taken", false), ("TooMany", false), ("TooGreat", false), ("Empty", false), ("Full", false)] := faK_ok (T.c.fact 75)
theorem Tx.m_NoTask (T : Tx K mg) : PySem.W.exmOne K (.ref (ga K "NoTask")) (.ref (ga K "PassError")) = some true := He.exm_ok (T.c.fact 76)
theorem Tx.xn_NoHandle (T : Tx K mg) : PySem.W.excIn K (ga K "NoHandle") He.veBase "ValueError.__new__" = true := faN_ok (T.c.fact 77)
theorem Tx.x_NoHandle (T : Tx K mg) : EOk K (ga K "NoHandle") := faE_ok (T.c.fact 78)
theorem Tx.k_NoHandle (T : Tx K mg) : KOk K "NoHandle" [("PassError", true), ("NoRights", false), ("NoName", false), ("NoValue", false), ("NoWords", false), ("NoKind", false), ("NoTask", false), ("NoHandle", true), ("NoThing", false), ("NoRow", false), ("NoDeed", false), ("Lacks", false), ("Taken", false), ("TooMany", false), ("TooGreat", false), ("Empty", false), ("Full", false)] := faK_ok (T.c.fact 79)
theorem Tx.m_NoHandle (T : Tx K mg) : PySem.W.exmOne K (.ref (ga K "NoHandle")) (.ref (ga K "PassError")) = some true := He.exm_ok (T.c.fact 80)
theorem Tx.xn_NoThing (T : Tx K mg) : PySem.W.excIn K (ga K "NoThing") He.veBase "ValueError.__new__" = true := faN_ok (T.c.fact 81)
theorem Tx.x_NoThing (T : Tx K mg) : EOk K (ga K "NoThing") := faE_ok (T.c.fact 82)
theorem Tx.k_NoThing (T : Tx K mg) : KOk K "NoThing" [("PassError", true), ("NoRights", false), ("NoName", false), ("NoValue", false), ("NoWords", false), ("NoKind", false), ("NoTask", false), ("NoHandle", false), ("NoThing", true), ("NoRow", false), ("NoDeed", false), ("Lacks", false), ("Taken", false), ("TooMany", false), ("TooGreat", false), ("Empty", false), ("Full", false)] := faK_ok (T.c.fact 83)
theorem Tx.m_NoThing (T : Tx K mg) : PySem.W.exmOne K (.ref (ga K "NoThing")) (.ref (ga K "PassError")) = some true := He.exm_ok (T.c.fact 84)
theorem Tx.xn_NoRow (T : Tx K mg) : PySem.W.excIn K (ga K "NoRow") He.veBase "ValueError.__new__" = true := faN_ok (T.c.fact 85)
theorem Tx.x_NoRow (T : Tx K mg) : EOk K (ga K "NoRow") := faE_ok (T.c.fact 86)
theorem Tx.k_NoRow (T : Tx K mg) : KOk K "NoRow" [("PassError", true), ("NoRights", false), ("NoName", false), ("NoValue", false), ("NoWords", false), ("NoKind", false), ("NoTask", false), ("NoHandle", false), ("NoThing", false), ("NoRow", true), ("NoDeed", false), ("Lacks", false), ("Taken", false), ("TooMany", false), ("TooGreat", false), ("Empty", false), ("Full", false)] := faK_ok (T.c.fact 87)
theorem Tx.m_NoRow (T : Tx K mg) : PySem.W.exmOne K (.ref (ga K "NoRow")) (.ref (ga K "PassError")) = some true := He.exm_ok (T.c.fact 88)
theorem Tx.xi_NoDeed (T : Tx K mg) : XOk K (ga K "NoDeed") "deed" := faX_ok (T.c.fact 89)
theorem Tx.x_NoDeed (T : Tx K mg) : EOk K (ga K "NoDeed") := faE_ok (T.c.fact 90)
theorem Tx.k_NoDeed (T : Tx K mg) : KOk K "NoDeed" [("PassError", true), ("NoRights", false), ("NoName", false), ("NoValue", false), ("NoWords", false), ("NoKind", false), ("NoTask", false), ("NoHandle", false), ("NoThing", false), ("NoRow", false), ("NoDeed", true), ("Lacks", false), ("Taken", false), ("TooMany", false), ("TooGreat", false), ("Empty", false), ("Full", false)] := faK_ok (T.c.fact 91)
theorem Tx.m_NoDeed (T : Tx K mg) : PySem.W.exmOne K (.ref (ga K "NoDeed")) (.ref (ga K "PassError")) = some true := He.exm_ok (T.c.fact 92)
theorem Tx.xi_Lacks (T : Tx K mg) : XOk K (ga K "Lacks") "missing" := faX_ok (T.c.fact 93)
theorem Tx.x_Lacks (T : Tx K mg) : EOk K (ga K "Lacks") := faE_ok (T.c.fact 94)
theorem Tx.k_Lacks (T : Tx K mg) : KOk K "Lacks" [("PassError", true), ("NoRights", false), ("NoName", false), ("NoValue", false), ("NoWords", false), ("NoKind", false), ("NoTask", false), ("NoHandle", false), ("NoThing", false), ("NoRow", false), ("NoDeed", false), ("Lacks", true), ("Taken", false), ("TooMany", false), ("TooGreat", false), ("Empty", false), ("Full", false)] := faK_ok (T.c.fact 95)
theorem Tx.m_Lacks (T : Tx K mg) : PySem.W.exmOne K (.ref (ga K "Lacks")) (.ref (ga K "PassError")) = some true := He.exm_ok (T.c.fact 96)
theorem Tx.xn_Taken (T : Tx K mg) : PySem.W.excIn K (ga K "Taken") He.veBase "ValueError.__new__" = true := faN_ok (T.c.fact 97)
theorem Tx.x_Taken (T : Tx K mg) : EOk K (ga K "Taken") := faE_ok (T.c.fact 98)
theorem Tx.k_Taken (T : Tx K mg) : KOk K "Taken" [("PassError", true), ("NoRights", false), ("NoName", false), ("NoValue", false), ("NoWords", false), ("NoKind", false), ("NoTask", false), ("NoHandle", false), ("NoThing", false), ("NoRow", false), ("NoDeed", false), ("Lacks", false), ("Taken", true), ("TooMany", false), ("TooGreat", false), ("Empty", false), ("Full", false)] := faK_ok (T.c.fact 99)
theorem Tx.m_Taken (T : Tx K mg) : PySem.W.exmOne K (.ref (ga K "Taken")) (.ref (ga K "PassError")) = some true := He.exm_ok (T.c.fact 100)
theorem Tx.xn_TooMany (T : Tx K mg) : PySem.W.excIn K (ga K "TooMany") He.veBase "ValueError.__new__" = true := faN_ok (T.c.fact 101)
theorem Tx.x_TooMany (T : Tx K mg) : EOk K (ga K "TooMany") := faE_ok (T.c.fact 102)
theorem Tx.k_TooMany (T : Tx K mg) : KOk K "TooMany" [("PassError", true), ("NoRights", false), ("NoName", false), ("NoValue", false), ("NoWords", false), ("NoKind", false), ("NoTask", false), ("NoHandle", false), ("NoThing", false), ("NoRow", false), ("NoDeed", false), ("Lacks", false), ("Taken", false), ("TooMany", true), ("TooGreat", false), ("Empty", false), ("Full", false)] := faK_ok (T.c.fact 103)
theorem Tx.m_TooMany (T : Tx K mg) : PySem.W.exmOne K (.ref (ga K "TooMany")) (.ref (ga K "PassError")) = some true := He.exm_ok (T.c.fact 104)
theorem Tx.xn_TooGreat (T : Tx K mg) : PySem.W.excIn K (ga K "TooGreat") He.veBase "ValueError.__new__" = true := faN_ok (T.c.fact 105)
theorem Tx.x_TooGreat (T : Tx K mg) : EOk K (ga K "TooGreat") := faE_ok (T.c.fact 106)
theorem Tx.k_TooGreat (T : Tx K mg) : KOk K "TooGreat" [("PassError", true), ("NoRights", false), ("NoName", false), ("NoValue", false), ("NoWords", false), ("NoKind", false), ("NoTask", false), ("NoHandle", false), ("NoThing", false), ("NoRow", false), ("NoDeed", false), ("Lacks", false), ("Taken", false), ("TooMany", false), ("TooGreat", true), ("Empty", false), ("Full", false)] := faK_ok (T.c.fact 107)
theorem Tx.m_TooGreat (T : Tx K mg) : PySem.W.exmOne K (.ref (ga K "TooGreat")) (.ref (ga K "PassError")) = some true := He.exm_ok (T.c.fact 108)
theorem Tx.xn_Empty (T : Tx K mg) : PySem.W.excIn K (ga K "Empty") He.veBase "ValueError.__new__" = true := faN_ok (T.c.fact 109)
theorem Tx.x_Empty (T : Tx K mg) : EOk K (ga K "Empty") := faE_ok (T.c.fact 110)
theorem Tx.k_Empty (T : Tx K mg) : KOk K "Empty" [("PassError", true), ("NoRights", false), ("NoName", false), ("NoValue", false), ("NoWords", false), ("NoKind", false), ("NoTask", false), ("NoHandle", false), ("NoThing", false), ("NoRow", false), ("NoDeed", false), ("Lacks", false), ("Taken", false), ("TooMany", false), ("TooGreat", false), ("Empty", true), ("Full", false)] := faK_ok (T.c.fact 111)
theorem Tx.m_Empty (T : Tx K mg) : PySem.W.exmOne K (.ref (ga K "Empty")) (.ref (ga K "PassError")) = some true := He.exm_ok (T.c.fact 112)
theorem Tx.xn_Full (T : Tx K mg) : PySem.W.excIn K (ga K "Full") He.veBase "ValueError.__new__" = true := faN_ok (T.c.fact 113)
theorem Tx.x_Full (T : Tx K mg) : EOk K (ga K "Full") := faE_ok (T.c.fact 114)
theorem Tx.k_Full (T : Tx K mg) : KOk K "Full" [("PassError", true), ("NoRights", false), ("NoName", false), ("NoValue", false), ("NoWords", false), ("NoKind", false), ("NoTask", false), ("NoHandle", false), ("NoThing", false), ("NoRow", false), ("NoDeed", false), ("Lacks", false), ("Taken", false), ("TooMany", false), ("TooGreat", false), ("Empty", false), ("Full", true)] := faK_ok (T.c.fact 115)
theorem Tx.m_Full (T : Tx K mg) : PySem.W.exmOne K (.ref (ga K "Full")) (.ref (ga K "PassError")) = some true := He.exm_ok (T.c.fact 116)
theorem Tx.c_Task (T : Tx K mg) : Cls K (ga K "Task") := He.cls_ok (T.c.fact 117)
theorem Tx.mk_Task (T : Tx K mg) : Mk K (ga K "Task") (ma K (ga K "Task") "__init__") := He.mkr_ok (T.c.fact 118)
theorem Tx.na_Task_maker (T : Tx K mg) : NoAttr K (ga K "Task") "maker" := He.noat_ok (T.c.fact 119)
theorem Tx.na_Task_runs (T : Tx K mg) : NoAttr K (ga K "Task") "runs" := He.noat_ok (T.c.fact 120)
theorem Tx.na_Task_rows (T : Tx K mg) : NoAttr K (ga K "Task") "rows" := He.noat_ok (T.c.fact 121)
theorem Tx.c_Tasks (T : Tx K mg) : Cls K (ga K "Tasks") := He.cls_ok (T.c.fact 122)
theorem Tx.mk_Tasks (T : Tx K mg) : Mk K (ga K "Tasks") (ma K (ga K "Tasks") "__init__") := He.mkr_ok (T.c.fact 123)
theorem Tx.me_Tasks_running_one (T : Tx K mg) : Meth K (ga K "Tasks") "running_one" (ma K (ga K "Tasks") "running_one") := He.meth_ok (T.c.fact 124)
theorem Tx.me_Tasks_need (T : Tx K mg) : Meth K (ga K "Tasks") "need" (ma K (ga K "Tasks") "need") := He.meth_ok (T.c.fact 125)
theorem Tx.me_Tasks_added (T : Tx K mg) : Meth K (ga K "Tasks") "added" (ma K (ga K "Tasks") "added") := He.meth_ok (T.c.fact 126)
theorem Tx.me_Tasks_running (T : Tx K mg) : Meth K (ga K "Tasks") "running" (ma K (ga K "Tasks") "running") := He.meth_ok (T.c.fact 127)
theorem Tx.me_Tasks_names (T : Tx K mg) : Meth K (ga K "Tasks") "names" (ma K (ga K "Tasks") "names") := He.meth_ok (T.c.fact 128)
theorem Tx.me_Tasks_put (T : Tx K mg) : Meth K (ga K "Tasks") "put" (ma K (ga K "Tasks") "put") := He.meth_ok (T.c.fact 129)
theorem Tx.me_Tasks_at (T : Tx K mg) : Meth K (ga K "Tasks") "at" (ma K (ga K "Tasks") "at") := He.meth_ok (T.c.fact 130)
theorem Tx.me_Tasks_free (T : Tx K mg) : Meth K (ga K "Tasks") "free" (ma K (ga K "Tasks") "free") := He.meth_ok (T.c.fact 131)
theorem Tx.me_Tasks_slots (T : Tx K mg) : Meth K (ga K "Tasks") "slots" (ma K (ga K "Tasks") "slots") := He.meth_ok (T.c.fact 132)
theorem Tx.me_Tasks_taken_out (T : Tx K mg) : Meth K (ga K "Tasks") "taken_out" (ma K (ga K "Tasks") "taken_out") := He.meth_ok (T.c.fact 133)
theorem Tx.me_Tasks_made_by (T : Tx K mg) : Meth K (ga K "Tasks") "made_by" (ma K (ga K "Tasks") "made_by") := He.meth_ok (T.c.fact 134)
theorem Tx.me_Tasks_stopped (T : Tx K mg) : Meth K (ga K "Tasks") "stopped" (ma K (ga K "Tasks") "stopped") := He.meth_ok (T.c.fact 135)
theorem Tx.na_Tasks_known (T : Tx K mg) : NoAttr K (ga K "Tasks") "known" := He.noat_ok (T.c.fact 136)
theorem Tx.d_is_name (T : Tx K mg) : ∃ fd, FunD K (d_is_name).name (d_is_name).qual (d_is_name).params (d_is_name).body (d_is_name).scope ((d_is_name).dvs K) ((d_is_name).kws K) (He.fAd K (d_is_name).at_) fd := T.c.def_ 0
theorem Tx.d__law_mix (T : Tx K mg) : ∃ fd, FunD K (d__law_mix).name (d__law_mix).qual (d__law_mix).params (d__law_mix).body (d__law_mix).scope ((d__law_mix).dvs K) ((d__law_mix).kws K) (He.fAd K (d__law_mix).at_) fd := T.c.def_ 1
theorem Tx.d__law_name (T : Tx K mg) : ∃ fd, FunD K (d__law_name).name (d__law_name).qual (d__law_name).params (d__law_name).body (d__law_name).scope ((d__law_name).dvs K) ((d__law_name).kws K) (He.fAd K (d__law_name).at_) fd := T.c.def_ 2
theorem Tx.d__law_word (T : Tx K mg) : ∃ fd, FunD K (d__law_word).name (d__law_word).qual (d__law_word).params (d__law_word).body (d__law_word).scope ((d__law_word).dvs K) ((d__law_word).kws K) (He.fAd K (d__law_word).at_) fd := T.c.def_ 3
theorem Tx.d__law_whole (T : Tx K mg) : ∃ fd, FunD K (d__law_whole).name (d__law_whole).qual (d__law_whole).params (d__law_whole).body (d__law_whole).scope ((d__law_whole).dvs K) ((d__law_whole).kws K) (He.fAd K (d__law_whole).at_) fd := T.c.def_ 4
theorem Tx.d__law_put (T : Tx K mg) : ∃ fd, FunD K (d__law_put).name (d__law_put).qual (d__law_put).params (d__law_put).body (d__law_put).scope ((d__law_put).dvs K) ((d__law_put).kws K) (He.fAd K (d__law_put).at_) fd := T.c.def_ 5
theorem Tx.d__law_at (T : Tx K mg) : ∃ fd, FunD K (d__law_at).name (d__law_at).qual (d__law_at).params (d__law_at).body (d__law_at).scope ((d__law_at).dvs K) ((d__law_at).kws K) (He.fAd K (d__law_at).at_) fd := T.c.def_ 6
theorem Tx.d__law_put_due (T : Tx K mg) : ∃ fd, FunD K (d__law_put_due).name (d__law_put_due).qual (d__law_put_due).params (d__law_put_due).body (d__law_put_due).scope ((d__law_put_due).dvs K) ((d__law_put_due).kws K) (He.fAd K (d__law_put_due).at_) fd := T.c.def_ 7
theorem Tx.d__law_at_due (T : Tx K mg) : ∃ fd, FunD K (d__law_at_due).name (d__law_at_due).qual (d__law_at_due).params (d__law_at_due).body (d__law_at_due).scope ((d__law_at_due).dvs K) ((d__law_at_due).kws K) (He.fAd K (d__law_at_due).at_) fd := T.c.def_ 8
theorem Tx.d__law_out (T : Tx K mg) : ∃ fd, FunD K (d__law_out).name (d__law_out).qual (d__law_out).params (d__law_out).body (d__law_out).scope ((d__law_out).dvs K) ((d__law_out).kws K) (He.fAd K (d__law_out).at_) fd := T.c.def_ 9
theorem Tx.d__law_refused (T : Tx K mg) : ∃ fd, FunD K (d__law_refused).name (d__law_refused).qual (d__law_refused).params (d__law_refused).body (d__law_refused).scope ((d__law_refused).dvs K) ((d__law_refused).kws K) (He.fAd K (d__law_refused).at_) fd := T.c.def_ 10
theorem Tx.d__law_pairs (T : Tx K mg) : ∃ fd, FunD K (d__law_pairs).name (d__law_pairs).qual (d__law_pairs).params (d__law_pairs).body (d__law_pairs).scope ((d__law_pairs).dvs K) ((d__law_pairs).kws K) (He.fAd K (d__law_pairs).at_) fd := T.c.def_ 11
theorem Tx.d__law_free (T : Tx K mg) : ∃ fd, FunD K (d__law_free).name (d__law_free).qual (d__law_free).params (d__law_free).body (d__law_free).scope ((d__law_free).dvs K) ((d__law_free).kws K) (He.fAd K (d__law_free).at_) fd := T.c.def_ 12
theorem Tx.d__law_looked (T : Tx K mg) : ∃ fd, FunD K (d__law_looked).name (d__law_looked).qual (d__law_looked).params (d__law_looked).body (d__law_looked).scope ((d__law_looked).dvs K) ((d__law_looked).kws K) (He.fAd K (d__law_looked).at_) fd := T.c.def_ 13
theorem Tx.d__law_deed (T : Tx K mg) : ∃ fd, FunD K (d__law_deed).name (d__law_deed).qual (d__law_deed).params (d__law_deed).body (d__law_deed).scope ((d__law_deed).dvs K) ((d__law_deed).kws K) (He.fAd K (d__law_deed).at_) fd := T.c.def_ 14
theorem Tx.d_law (T : Tx K mg) : ∃ fd, FunD K (d_law).name (d_law).qual (d_law).params (d_law).body (d_law).scope ((d_law).dvs K) ((d_law).kws K) (He.fAd K (d_law).at_) fd := T.c.def_ 15
theorem Tx.d_NoDeed___init__ (T : Tx K mg) : ∃ fd, FunD K (d_NoDeed___init__).name (d_NoDeed___init__).qual (d_NoDeed___init__).params (d_NoDeed___init__).body (d_NoDeed___init__).scope ((d_NoDeed___init__).dvs K) ((d_NoDeed___init__).kws K) (He.fAd K (d_NoDeed___init__).at_) fd := T.c.def_ 16
theorem Tx.d_Lacks___init__ (T : Tx K mg) : ∃ fd, FunD K (d_Lacks___init__).name (d_Lacks___init__).qual (d_Lacks___init__).params (d_Lacks___init__).body (d_Lacks___init__).scope ((d_Lacks___init__).dvs K) ((d_Lacks___init__).kws K) (He.fAd K (d_Lacks___init__).at_) fd := T.c.def_ 17
theorem Tx.d_Task___init__ (T : Tx K mg) : ∃ fd, FunD K (d_Task___init__).name (d_Task___init__).qual (d_Task___init__).params (d_Task___init__).body (d_Task___init__).scope ((d_Task___init__).dvs K) ((d_Task___init__).kws K) (He.fAd K (d_Task___init__).at_) fd := T.c.def_ 18
theorem Tx.d_Tasks___init__ (T : Tx K mg) : ∃ fd, FunD K (d_Tasks___init__).name (d_Tasks___init__).qual (d_Tasks___init__).params (d_Tasks___init__).body (d_Tasks___init__).scope ((d_Tasks___init__).dvs K) ((d_Tasks___init__).kws K) (He.fAd K (d_Tasks___init__).at_) fd := T.c.def_ 19
theorem Tx.d_Tasks_running_one (T : Tx K mg) : ∃ fd, FunD K (d_Tasks_running_one).name (d_Tasks_running_one).qual (d_Tasks_running_one).params (d_Tasks_running_one).body (d_Tasks_running_one).scope ((d_Tasks_running_one).dvs K) ((d_Tasks_running_one).kws K) (He.fAd K (d_Tasks_running_one).at_) fd := T.c.def_ 20
theorem Tx.d_Tasks_need (T : Tx K mg) : ∃ fd, FunD K (d_Tasks_need).name (d_Tasks_need).qual (d_Tasks_need).params (d_Tasks_need).body (d_Tasks_need).scope ((d_Tasks_need).dvs K) ((d_Tasks_need).kws K) (He.fAd K (d_Tasks_need).at_) fd := T.c.def_ 21
theorem Tx.d_Tasks_added (T : Tx K mg) : ∃ fd, FunD K (d_Tasks_added).name (d_Tasks_added).qual (d_Tasks_added).params (d_Tasks_added).body (d_Tasks_added).scope ((d_Tasks_added).dvs K) ((d_Tasks_added).kws K) (He.fAd K (d_Tasks_added).at_) fd := T.c.def_ 22
theorem Tx.d_Tasks_running (T : Tx K mg) : ∃ fd, FunD K (d_Tasks_running).name (d_Tasks_running).qual (d_Tasks_running).params (d_Tasks_running).body (d_Tasks_running).scope ((d_Tasks_running).dvs K) ((d_Tasks_running).kws K) (He.fAd K (d_Tasks_running).at_) fd := T.c.def_ 23
theorem Tx.d_Tasks_names (T : Tx K mg) : ∃ fd, FunD K (d_Tasks_names).name (d_Tasks_names).qual (d_Tasks_names).params (d_Tasks_names).body (d_Tasks_names).scope ((d_Tasks_names).dvs K) ((d_Tasks_names).kws K) (He.fAd K (d_Tasks_names).at_) fd := T.c.def_ 24
theorem Tx.d_Tasks_put (T : Tx K mg) : ∃ fd, FunD K (d_Tasks_put).name (d_Tasks_put).qual (d_Tasks_put).params (d_Tasks_put).body (d_Tasks_put).scope ((d_Tasks_put).dvs K) ((d_Tasks_put).kws K) (He.fAd K (d_Tasks_put).at_) fd := T.c.def_ 25
theorem Tx.d_Tasks_at (T : Tx K mg) : ∃ fd, FunD K (d_Tasks_at).name (d_Tasks_at).qual (d_Tasks_at).params (d_Tasks_at).body (d_Tasks_at).scope ((d_Tasks_at).dvs K) ((d_Tasks_at).kws K) (He.fAd K (d_Tasks_at).at_) fd := T.c.def_ 26
theorem Tx.d_Tasks_free (T : Tx K mg) : ∃ fd, FunD K (d_Tasks_free).name (d_Tasks_free).qual (d_Tasks_free).params (d_Tasks_free).body (d_Tasks_free).scope ((d_Tasks_free).dvs K) ((d_Tasks_free).kws K) (He.fAd K (d_Tasks_free).at_) fd := T.c.def_ 27
theorem Tx.d_Tasks_slots (T : Tx K mg) : ∃ fd, FunD K (d_Tasks_slots).name (d_Tasks_slots).qual (d_Tasks_slots).params (d_Tasks_slots).body (d_Tasks_slots).scope ((d_Tasks_slots).dvs K) ((d_Tasks_slots).kws K) (He.fAd K (d_Tasks_slots).at_) fd := T.c.def_ 28
theorem Tx.d_Tasks_taken_out (T : Tx K mg) : ∃ fd, FunD K (d_Tasks_taken_out).name (d_Tasks_taken_out).qual (d_Tasks_taken_out).params (d_Tasks_taken_out).body (d_Tasks_taken_out).scope ((d_Tasks_taken_out).dvs K) ((d_Tasks_taken_out).kws K) (He.fAd K (d_Tasks_taken_out).at_) fd := T.c.def_ 29
theorem Tx.d_Tasks_made_by (T : Tx K mg) : ∃ fd, FunD K (d_Tasks_made_by).name (d_Tasks_made_by).qual (d_Tasks_made_by).params (d_Tasks_made_by).body (d_Tasks_made_by).scope ((d_Tasks_made_by).dvs K) ((d_Tasks_made_by).kws K) (He.fAd K (d_Tasks_made_by).at_) fd := T.c.def_ 30
theorem Tx.d_Tasks_stopped (T : Tx K mg) : ∃ fd, FunD K (d_Tasks_stopped).name (d_Tasks_stopped).qual (d_Tasks_stopped).params (d_Tasks_stopped).body (d_Tasks_stopped).scope ((d_Tasks_stopped).dvs K) ((d_Tasks_stopped).kws K) (He.fAd K (d_Tasks_stopped).at_) fd := T.c.def_ 31
end
end Pk

noncomputable section
namespace Pk
open PySem PySem.W PySem.Calls PyProof.Rows HandSHeadRun L2
abbrev s__wall : Stmt := top 0
abbrev R : PySem.W.OpenRow := PySem.W.OpenLaw.row PySem.Challenge.rw_passkeep_k41_slots
def asL : List Addr := [3, 31, 44, 56, 68, 80, 92, 104, 116, 128, 140, 159, 178, 190, 202, 214, 226, 238, 262, 363, 30, 43, 55, 67, 79, 91, 103, 115, 127, 139, 158, 177, 189, 201, 213, 225, 237, 261, 362, 21, 156, 175, 245, 259, 280, 287, 294, 301, 306, 313, 320, 327, 334, 339, 346, 353, 360, 374, 379, 386, 393, 400, 407, 414, 421, 426, 433, 438, 445, 452, 459, 464, 20, 155, 174, 244, 258, 279, 286, 293, 300, 305, 312, 319, 326, 333, 338, 345, 352, 359, 373, 378, 385, 392, 399, 406, 413, 420, 425, 432, 437, 444, 451, 458, 463]
abbrev hk : PySem.W.Hook := hookB asL faL fnL
def ob (s : PySem.W.SharedT) : He.AlD := obsBG asL faL fnL (HandSHeadRun.getT s)
theorem ob_eq (s : PySem.W.SharedT) : ob s = hk.obs s.abs := obsBG_eq (HandSHeadRun.getT_eq s)
def loose0 : List PySem.Str := ["_wall", "PassError", "NoRights", "NoName", "NoValue", "NoWords", "NoKind", "NoTask", "NoHandle", "NoThing", "NoRow", "NoDeed", "Lacks", "Taken", "TooMany", "TooGreat", "Empty", "Full", "MOST_LETTERS", "is_name", "MOST_TASKS", "SLOTS", "Task", "Tasks", "_law_mix", "_law_name", "_law_word", "_law_whole", "_law_put", "_law_at"]
def loose1 : List PySem.Str := ["_law_put_due", "_law_at_due", "_law_out", "_law_refused", "_law_pairs", "_law_free", "_law_looked", "_law_deed"]
def loose : List PySem.Str := loose0 ++ loose1
def qv : Program := PySem.W.view R.prog [42]
abbrev bodyR : List Stmt := R.prog.main.body
def envR : Env := { scope := R.prog.main.scope, locals := mainNs, globals := mainNs, cells := [], code := .ref 13, frame := some 14 }
def codeR : Code := .body bodyR envR
abbrev posR : Pos := ⟨0, 0, 0, 0⟩
theorem hn0 (P : Params) : (boot_heap P).objs.size = 11 := by kernel_rfl
theorem hann (w : World) : bootAnn w = some (.ref 6) := by kernel_rfl
theorem hput (P : Params) : (putAll (boot_heap P).objs.toList .nil 0).map (·.2) = some 11 := by kernel_rfl
theorem htok : boot_toks = 181 := by kernel_rfl
abbrev annR : Option Value := some (.ref 6)
def ch_pre (w : World) : List (Nat × Obj) := [
  (11, ⟨(.type "tuple"), none, (.seq #[] 0), #[]⟩),
  (12, ⟨.none, none, (.fields #[]), #[]⟩),
  (13, ⟨(.type "code"), none, (.fields #[(.str (PySem.Str.ofString "<module>") 182), (.str (PySem.Str.ofString "<module>") 183), (.str (PySem.Str.ofString "/claim/cut.py") 184), (.int (1) 0), (.int (0) 0), (.int (0) 0), (.int (0) 0), (.int (0) 0), (.ref 11), (.bool false), (.int (181) 0), (.ref 12), .none, .none, .none, .none, (.int (185) 0), (.int (1) 0), (.str (PySem.Str.ofString "/claim/cut.py") 186)]), #[]⟩),
  (14, ⟨(.type "frame"), none, .plain, #[(some (.ref 13)), (some (.ref 3)), (some (.ref 3)), none, (some (.str (PySem.Str.ofString "__main__") 164)), none, (some (.ref 0))]⟩)]
def bt_pre (w : World) : PySem.W.BT := insL (ch_pre w) (bt0 w.params)
abbrev S_pre (w : World) (os : OsState) : SharedT := stT w os (bt_pre w) 15 187
def ch_block (w : World) : List (Nat × Obj) := [
  ]
def bt_block (w : World) : PySem.W.BT := insL (ch_block w) (bt_pre w)
abbrev S_block (w : World) (os : OsState) : SharedT := stT w os (bt_block w) 15 187
def ch_cut13 (w : World) : List (Nat × Obj) := [
  (3, ⟨(.type "dict"), none, (.dict #[⟨(hashStr w (PySem.Str.ofString "__name__")), (.str (PySem.Str.ofString "__name__") 165), (.str (PySem.Str.ofString "passkeep.errors") 194)⟩, ⟨(hashStr w (PySem.Str.ofString "__doc__")), (.str (PySem.Str.ofString "__doc__") 166), .none⟩, ⟨(hashStr w (PySem.Str.ofString "__package__")), (.str (PySem.Str.ofString "__package__") 167), .none⟩, ⟨(hashStr w (PySem.Str.ofString "__loader__")), (.str (PySem.Str.ofString "__loader__") 168), (.builtin "__main__.__loader__#opaque")⟩, ⟨(hashStr w (PySem.Str.ofString "__spec__")), (.str (PySem.Str.ofString "__spec__") 169), .none⟩, ⟨(hashStr w (PySem.Str.ofString "__annotations__")), (.str (PySem.Str.ofString "__annotations__") 170), (.ref 6)⟩, ⟨(hashStr w (PySem.Str.ofString "__builtins__")), (.str (PySem.Str.ofString "__builtins__") 171), (.ref 4)⟩, ⟨(hashStr w (PySem.Str.ofString "__file__")), (.str (PySem.Str.ofString "__file__") 173), (.str (PySem.Str.ofString "/claim/cut.py") 172)⟩, ⟨(hashStr w (PySem.Str.ofString "__cached__")), (.str (PySem.Str.ofString "__cached__") 174), .none⟩, ⟨(hashStr w (PySem.Str.ofString "_wall")), (.str (PySem.Str.ofString "_wall") 193), (.ref 21)⟩, ⟨(hashStr w (PySem.Str.ofString "PassError")), (.str (PySem.Str.ofString "PassError") 213), (.ref 31)⟩, ⟨(hashStr w (PySem.Str.ofString "NoRights")), (.str (PySem.Str.ofString "NoRights") 229), (.ref 44)⟩, ⟨(hashStr w (PySem.Str.ofString "NoName")), (.str (PySem.Str.ofString "NoName") 245), (.ref 56)⟩, ⟨(hashStr w (PySem.Str.ofString "NoValue")), (.str (PySem.Str.ofString "NoValue") 261), (.ref 68)⟩, ⟨(hashStr w (PySem.Str.ofString "NoWords")), (.str (PySem.Str.ofString "NoWords") 277), (.ref 80)⟩, ⟨(hashStr w (PySem.Str.ofString "NoKind")), (.str (PySem.Str.ofString "NoKind") 293), (.ref 92)⟩, ⟨(hashStr w (PySem.Str.ofString "NoTask")), (.str (PySem.Str.ofString "NoTask") 309), (.ref 104)⟩, ⟨(hashStr w (PySem.Str.ofString "NoHandle")), (.str (PySem.Str.ofString "NoHandle") 325), (.ref 116)⟩, ⟨(hashStr w (PySem.Str.ofString "NoThing")), (.str (PySem.Str.ofString "NoThing") 341), (.ref 128)⟩, ⟨(hashStr w (PySem.Str.ofString "NoRow")), (.str (PySem.Str.ofString "NoRow") 357), (.ref 140)⟩, ⟨(hashStr w (PySem.Str.ofString "NoDeed")), (.str (PySem.Str.ofString "NoDeed") 382), (.ref 159)⟩] 21), #[]⟩),
  (12, ⟨.none, none, (.fields #[(.int (1) 0), (.int (0) 0), (.ref 20), (.int (5) 0), (.int (0) 0), (.ref 27), (.int (7) 0), (.int (0) 0), (.ref 40), (.int (9) 0), (.int (0) 0), (.ref 52), (.int (11) 0), (.int (0) 0), (.ref 64), (.int (13) 0), (.int (0) 0), (.ref 76), (.int (15) 0), (.int (0) 0), (.ref 88), (.int (17) 0), (.int (0) 0), (.ref 100), (.int (19) 0), (.int (0) 0), (.ref 112), (.int (21) 0), (.int (0) 0), (.ref 124), (.int (23) 0), (.int (0) 0), (.ref 136), (.int (25) 0), (.int (0) 0), (.ref 148)]), #[]⟩),
  (15, ⟨(.type "tuple"), none, (.seq #[] 0), #[]⟩),
  (16, ⟨.none, none, (.fields #[]), #[]⟩),
  (17, ⟨(.type "tuple"), none, (.seq #[(.str (PySem.Str.ofString "k") 190)] 0), #[]⟩),
  (18, ⟨(.type "tuple"), none, (.seq #[] 0), #[]⟩),
  (19, ⟨.none, none, (.func ⟨(PySem.Str.ofString "_wall"), (PySem.Str.ofString "_wall"), defArgs s__wall, .stmts (defBody s__wall), defScope s__wall, 0, [], .none, .none, .none, .none, none, .none, .none, 0⟩), #[]⟩),
  (20, ⟨(.type "code"), none, (.fields #[(.str (PySem.Str.ofString "_wall") 187), (.str (PySem.Str.ofString "_wall") 188), (.str (PySem.Str.ofString "/claim/cut.py") 189), (.int (1) 0), (.int (1) 0), (.int (0) 0), (.int (0) 0), (.int (3) 0), (.ref 15), (.bool true), (.int (181) 0), (.ref 16), .none, (.ref 17), (.ref 18), (.ref 19), (.int (191) 0), (.int (1) 0), (.str (PySem.Str.ofString "/claim/cut.py") 192)]), #[]⟩),
  (21, ⟨(.type "function"), none, (.func ⟨(PySem.Str.ofString "_wall"), (PySem.Str.ofString "_wall"), defArgs s__wall, .stmts (defBody s__wall), defScope s__wall, 3, [], .none, .none, .none, (.str (PySem.Str.ofString "__main__") 164), none, (.ref 20), .none, 0⟩), #[]⟩),
  (22, ⟨(.type "tuple"), none, (.seq #[(.type "ValueError")] 0), #[]⟩),
  (23, ⟨(.type "builtin_function_or_method"), none, (.fields #[(.builtin "type.__prepare__"), (.type "type")]), #[]⟩),
  (24, ⟨(.type "dict"), none, (.dict #[⟨(hashStr w (PySem.Str.ofString "__module__")), (.str (PySem.Str.ofString "__module__") 203), (.str (PySem.Str.ofString "passkeep.errors") 194)⟩, ⟨(hashStr w (PySem.Str.ofString "__qualname__")), (.str (PySem.Str.ofString "__qualname__") 205), (.str (PySem.Str.ofString "PassError") 204)⟩, ⟨(hashStr w (PySem.Str.ofString "__firstlineno__")), (.str (PySem.Str.ofString "__firstlineno__") 207), (.int (5) 206)⟩, ⟨(hashStr w (PySem.Str.ofString "__static_attributes__")), (.str (PySem.Str.ofString "__static_attributes__") 208), (.ref 29)⟩] 4), #[]⟩),
  (25, ⟨(.type "tuple"), none, (.seq #[] 0), #[]⟩),
  (26, ⟨.none, none, (.fields #[]), #[]⟩),
  (27, ⟨(.type "code"), none, (.fields #[(.str (PySem.Str.ofString "PassError") 198), (.str (PySem.Str.ofString "PassError") 199), (.str (PySem.Str.ofString "/claim/cut.py") 200), (.int (5) 0), (.int (0) 0), (.int (0) 0), (.int (0) 0), (.int (0) 0), (.ref 25), (.bool false), (.int (181) 0), (.ref 26), .none, .none, .none, .none, (.int (201) 0), (.int (5) 0), (.str (PySem.Str.ofString "/claim/cut.py") 202)]), #[]⟩),
  (28, ⟨(.type "frame"), none, .plain, #[(some (.ref 27)), (some (.ref 3)), (some (.ref 24)), none, (some (.str (PySem.Str.ofString "passkeep.errors") 194)), none, (some (.ref 0))]⟩),
  (29, ⟨(.type "tuple"), none, (.seq #[] 0), #[]⟩),
  (30, ⟨(.type "dict"), none, (.dict #[⟨(hashStr w (PySem.Str.ofString "__module__")), (.str (PySem.Str.ofString "__module__") 203), (.str (PySem.Str.ofString "passkeep.errors") 194)⟩, ⟨(hashStr w (PySem.Str.ofString "__firstlineno__")), (.str (PySem.Str.ofString "__firstlineno__") 207), (.int (5) 206)⟩, ⟨(hashStr w (PySem.Str.ofString "__static_attributes__")), (.str (PySem.Str.ofString "__static_attributes__") 208), (.ref 29)⟩, ⟨(hashStr w (PySem.Str.ofString "__weakref__")), (.str (PySem.Str.ofString "__weakref__") 210), (.ref 32)⟩, ⟨(hashStr w (PySem.Str.ofString "__doc__")), (.str (PySem.Str.ofString "__doc__") 211), .none⟩] 3), #[]⟩),
  (31, ⟨(.type "type"), none, (.cls ⟨(PySem.Str.ofString "PassError"), [(.type "ValueError")], [(.ref 31), (.type "ValueError"), (.type "Exception"), (.type "BaseException"), (.type "object")], 30, (PySem.Str.ofString "PassError"), true, [], [(.ref 44), (.ref 56), (.ref 68), (.ref 80), (.ref 92), (.ref 104), (.ref 116), (.ref 128), (.ref 140), (.ref 159)], false, none, false⟩), #[(some (.ref 22)), none, (some (.str (PySem.Str.ofString "PassError") 196)), (some (.str (PySem.Str.ofString "PassError") 204)), (some (.builtin "ValueError.__new__")), (some (.bool true))]⟩),
  (32, ⟨(.type "getset_descriptor"), none, (.fields #[(.str (PySem.Str.ofString "__weakref__") 209), (.ref 31), (.builtin "ExceptionGroup.__weakref__"), .none]), #[]⟩),
  (33, ⟨(.type "super"), none, (.fields #[(.ref 31), (.ref 31), (.ref 31)]), #[]⟩),
  (34, ⟨(.type "builtin_function_or_method"), none, (.fields #[(.builtin "object.__init_subclass__"), (.ref 31)]), #[]⟩),
  (35, ⟨(.type "tuple"), none, (.seq #[(.ref 31)] 0), #[]⟩),
  (36, ⟨(.type "builtin_function_or_method"), none, (.fields #[(.builtin "type.__prepare__"), (.type "type")]), #[]⟩),
  (37, ⟨(.type "dict"), none, (.dict #[⟨(hashStr w (PySem.Str.ofString "__module__")), (.str (PySem.Str.ofString "__module__") 221), (.str (PySem.Str.ofString "passkeep.errors") 194)⟩, ⟨(hashStr w (PySem.Str.ofString "__qualname__")), (.str (PySem.Str.ofString "__qualname__") 223), (.str (PySem.Str.ofString "NoRights") 222)⟩, ⟨(hashStr w (PySem.Str.ofString "__firstlineno__")), (.str (PySem.Str.ofString "__firstlineno__") 225), (.int (7) 224)⟩, ⟨(hashStr w (PySem.Str.ofString "__static_attributes__")), (.str (PySem.Str.ofString "__static_attributes__") 226), (.ref 42)⟩] 4), #[]⟩),
  (38, ⟨(.type "tuple"), none, (.seq #[] 0), #[]⟩),
  (39, ⟨.none, none, (.fields #[]), #[]⟩),
  (40, ⟨(.type "code"), none, (.fields #[(.str (PySem.Str.ofString "NoRights") 216), (.str (PySem.Str.ofString "NoRights") 217), (.str (PySem.Str.ofString "/claim/cut.py") 218), (.int (7) 0), (.int (0) 0), (.int (0) 0), (.int (0) 0), (.int (0) 0), (.ref 38), (.bool false), (.int (181) 0), (.ref 39), .none, .none, .none, .none, (.int (219) 0), (.int (7) 0), (.str (PySem.Str.ofString "/claim/cut.py") 220)]), #[]⟩),
  (41, ⟨(.type "frame"), none, .plain, #[(some (.ref 40)), (some (.ref 3)), (some (.ref 37)), none, (some (.str (PySem.Str.ofString "passkeep.errors") 194)), none, (some (.ref 0))]⟩),
  (42, ⟨(.type "tuple"), none, (.seq #[] 0), #[]⟩),
  (43, ⟨(.type "dict"), none, (.dict #[⟨(hashStr w (PySem.Str.ofString "__module__")), (.str (PySem.Str.ofString "__module__") 221), (.str (PySem.Str.ofString "passkeep.errors") 194)⟩, ⟨(hashStr w (PySem.Str.ofString "__firstlineno__")), (.str (PySem.Str.ofString "__firstlineno__") 225), (.int (7) 224)⟩, ⟨(hashStr w (PySem.Str.ofString "__static_attributes__")), (.str (PySem.Str.ofString "__static_attributes__") 226), (.ref 42)⟩, ⟨(hashStr w (PySem.Str.ofString "__doc__")), (.str (PySem.Str.ofString "__doc__") 227), .none⟩] 2), #[]⟩),
  (44, ⟨(.type "type"), none, (.cls ⟨(PySem.Str.ofString "NoRights"), [(.ref 31)], [(.ref 44), (.ref 31), (.type "ValueError"), (.type "Exception"), (.type "BaseException"), (.type "object")], 43, (PySem.Str.ofString "NoRights"), true, [], [], false, none, false⟩), #[(some (.ref 35)), none, (some (.str (PySem.Str.ofString "NoRights") 214)), (some (.str (PySem.Str.ofString "NoRights") 222)), (some (.builtin "ValueError.__new__")), (some (.bool true))]⟩),
  (45, ⟨(.type "super"), none, (.fields #[(.ref 44), (.ref 44), (.ref 44)]), #[]⟩),
  (46, ⟨(.type "builtin_function_or_method"), none, (.fields #[(.builtin "object.__init_subclass__"), (.ref 44)]), #[]⟩),
  (47, ⟨(.type "tuple"), none, (.seq #[(.ref 31)] 0), #[]⟩),
  (48, ⟨(.type "builtin_function_or_method"), none, (.fields #[(.builtin "type.__prepare__"), (.type "type")]), #[]⟩),
  (49, ⟨(.type "dict"), none, (.dict #[⟨(hashStr w (PySem.Str.ofString "__module__")), (.str (PySem.Str.ofString "__module__") 237), (.str (PySem.Str.ofString "passkeep.errors") 194)⟩, ⟨(hashStr w (PySem.Str.ofString "__qualname__")), (.str (PySem.Str.ofString "__qualname__") 239), (.str (PySem.Str.ofString "NoName") 238)⟩, ⟨(hashStr w (PySem.Str.ofString "__firstlineno__")), (.str (PySem.Str.ofString "__firstlineno__") 241), (.int (9) 240)⟩, ⟨(hashStr w (PySem.Str.ofString "__static_attributes__")), (.str (PySem.Str.ofString "__static_attributes__") 242), (.ref 54)⟩] 4), #[]⟩),
  (50, ⟨(.type "tuple"), none, (.seq #[] 0), #[]⟩),
  (51, ⟨.none, none, (.fields #[]), #[]⟩),
  (52, ⟨(.type "code"), none, (.fields #[(.str (PySem.Str.ofString "NoName") 232), (.str (PySem.Str.ofString "NoName") 233), (.str (PySem.Str.ofString "/claim/cut.py") 234), (.int (9) 0), (.int (0) 0), (.int (0) 0), (.int (0) 0), (.int (0) 0), (.ref 50), (.bool false), (.int (181) 0), (.ref 51), .none, .none, .none, .none, (.int (235) 0), (.int (9) 0), (.str (PySem.Str.ofString "/claim/cut.py") 236)]), #[]⟩),
  (53, ⟨(.type "frame"), none, .plain, #[(some (.ref 52)), (some (.ref 3)), (some (.ref 49)), none, (some (.str (PySem.Str.ofString "passkeep.errors") 194)), none, (some (.ref 0))]⟩),
  (54, ⟨(.type "tuple"), none, (.seq #[] 0), #[]⟩),
  (55, ⟨(.type "dict"), none, (.dict #[⟨(hashStr w (PySem.Str.ofString "__module__")), (.str (PySem.Str.ofString "__module__") 237), (.str (PySem.Str.ofString "passkeep.errors") 194)⟩, ⟨(hashStr w (PySem.Str.ofString "__firstlineno__")), (.str (PySem.Str.ofString "__firstlineno__") 241), (.int (9) 240)⟩, ⟨(hashStr w (PySem.Str.ofString "__static_attributes__")), (.str (PySem.Str.ofString "__static_attributes__") 242), (.ref 54)⟩, ⟨(hashStr w (PySem.Str.ofString "__doc__")), (.str (PySem.Str.ofString "__doc__") 243), .none⟩] 2), #[]⟩),
  (56, ⟨(.type "type"), none, (.cls ⟨(PySem.Str.ofString "NoName"), [(.ref 31)], [(.ref 56), (.ref 31), (.type "ValueError"), (.type "Exception"), (.type "BaseException"), (.type "object")], 55, (PySem.Str.ofString "NoName"), true, [], [], false, none, false⟩), #[(some (.ref 47)), none, (some (.str (PySem.Str.ofString "NoName") 230)), (some (.str (PySem.Str.ofString "NoName") 238)), (some (.builtin "ValueError.__new__")), (some (.bool true))]⟩),
  (57, ⟨(.type "super"), none, (.fields #[(.ref 56), (.ref 56), (.ref 56)]), #[]⟩),
  (58, ⟨(.type "builtin_function_or_method"), none, (.fields #[(.builtin "object.__init_subclass__"), (.ref 56)]), #[]⟩),
  (59, ⟨(.type "tuple"), none, (.seq #[(.ref 31)] 0), #[]⟩),
  (60, ⟨(.type "builtin_function_or_method"), none, (.fields #[(.builtin "type.__prepare__"), (.type "type")]), #[]⟩),
  (61, ⟨(.type "dict"), none, (.dict #[⟨(hashStr w (PySem.Str.ofString "__module__")), (.str (PySem.Str.ofString "__module__") 253), (.str (PySem.Str.ofString "passkeep.errors") 194)⟩, ⟨(hashStr w (PySem.Str.ofString "__qualname__")), (.str (PySem.Str.ofString "__qualname__") 255), (.str (PySem.Str.ofString "NoValue") 254)⟩, ⟨(hashStr w (PySem.Str.ofString "__firstlineno__")), (.str (PySem.Str.ofString "__firstlineno__") 257), (.int (11) 256)⟩, ⟨(hashStr w (PySem.Str.ofString "__static_attributes__")), (.str (PySem.Str.ofString "__static_attributes__") 258), (.ref 66)⟩] 4), #[]⟩),
  (62, ⟨(.type "tuple"), none, (.seq #[] 0), #[]⟩),
  (63, ⟨.none, none, (.fields #[]), #[]⟩),
  (64, ⟨(.type "code"), none, (.fields #[(.str (PySem.Str.ofString "NoValue") 248), (.str (PySem.Str.ofString "NoValue") 249), (.str (PySem.Str.ofString "/claim/cut.py") 250), (.int (11) 0), (.int (0) 0), (.int (0) 0), (.int (0) 0), (.int (0) 0), (.ref 62), (.bool false), (.int (181) 0), (.ref 63), .none, .none, .none, .none, (.int (251) 0), (.int (11) 0), (.str (PySem.Str.ofString "/claim/cut.py") 252)]), #[]⟩),
  (65, ⟨(.type "frame"), none, .plain, #[(some (.ref 64)), (some (.ref 3)), (some (.ref 61)), none, (some (.str (PySem.Str.ofString "passkeep.errors") 194)), none, (some (.ref 0))]⟩),
  (66, ⟨(.type "tuple"), none, (.seq #[] 0), #[]⟩),
  (67, ⟨(.type "dict"), none, (.dict #[⟨(hashStr w (PySem.Str.ofString "__module__")), (.str (PySem.Str.ofString "__module__") 253), (.str (PySem.Str.ofString "passkeep.errors") 194)⟩, ⟨(hashStr w (PySem.Str.ofString "__firstlineno__")), (.str (PySem.Str.ofString "__firstlineno__") 257), (.int (11) 256)⟩, ⟨(hashStr w (PySem.Str.ofString "__static_attributes__")), (.str (PySem.Str.ofString "__static_attributes__") 258), (.ref 66)⟩, ⟨(hashStr w (PySem.Str.ofString "__doc__")), (.str (PySem.Str.ofString "__doc__") 259), .none⟩] 2), #[]⟩),
  (68, ⟨(.type "type"), none, (.cls ⟨(PySem.Str.ofString "NoValue"), [(.ref 31)], [(.ref 68), (.ref 31), (.type "ValueError"), (.type "Exception"), (.type "BaseException"), (.type "object")], 67, (PySem.Str.ofString "NoValue"), true, [], [], false, none, false⟩), #[(some (.ref 59)), none, (some (.str (PySem.Str.ofString "NoValue") 246)), (some (.str (PySem.Str.ofString "NoValue") 254)), (some (.builtin "ValueError.__new__")), (some (.bool true))]⟩),
  (69, ⟨(.type "super"), none, (.fields #[(.ref 68), (.ref 68), (.ref 68)]), #[]⟩),
  (70, ⟨(.type "builtin_function_or_method"), none, (.fields #[(.builtin "object.__init_subclass__"), (.ref 68)]), #[]⟩),
  (71, ⟨(.type "tuple"), none, (.seq #[(.ref 31)] 0), #[]⟩),
  (72, ⟨(.type "builtin_function_or_method"), none, (.fields #[(.builtin "type.__prepare__"), (.type "type")]), #[]⟩),
  (73, ⟨(.type "dict"), none, (.dict #[⟨(hashStr w (PySem.Str.ofString "__module__")), (.str (PySem.Str.ofString "__module__") 269), (.str (PySem.Str.ofString "passkeep.errors") 194)⟩, ⟨(hashStr w (PySem.Str.ofString "__qualname__")), (.str (PySem.Str.ofString "__qualname__") 271), (.str (PySem.Str.ofString "NoWords") 270)⟩, ⟨(hashStr w (PySem.Str.ofString "__firstlineno__")), (.str (PySem.Str.ofString "__firstlineno__") 273), (.int (13) 272)⟩, ⟨(hashStr w (PySem.Str.ofString "__static_attributes__")), (.str (PySem.Str.ofString "__static_attributes__") 274), (.ref 78)⟩] 4), #[]⟩),
  (74, ⟨(.type "tuple"), none, (.seq #[] 0), #[]⟩),
  (75, ⟨.none, none, (.fields #[]), #[]⟩),
  (76, ⟨(.type "code"), none, (.fields #[(.str (PySem.Str.ofString "NoWords") 264), (.str (PySem.Str.ofString "NoWords") 265), (.str (PySem.Str.ofString "/claim/cut.py") 266), (.int (13) 0), (.int (0) 0), (.int (0) 0), (.int (0) 0), (.int (0) 0), (.ref 74), (.bool false), (.int (181) 0), (.ref 75), .none, .none, .none, .none, (.int (267) 0), (.int (13) 0), (.str (PySem.Str.ofString "/claim/cut.py") 268)]), #[]⟩),
  (77, ⟨(.type "frame"), none, .plain, #[(some (.ref 76)), (some (.ref 3)), (some (.ref 73)), none, (some (.str (PySem.Str.ofString "passkeep.errors") 194)), none, (some (.ref 0))]⟩),
  (78, ⟨(.type "tuple"), none, (.seq #[] 0), #[]⟩),
  (79, ⟨(.type "dict"), none, (.dict #[⟨(hashStr w (PySem.Str.ofString "__module__")), (.str (PySem.Str.ofString "__module__") 269), (.str (PySem.Str.ofString "passkeep.errors") 194)⟩, ⟨(hashStr w (PySem.Str.ofString "__firstlineno__")), (.str (PySem.Str.ofString "__firstlineno__") 273), (.int (13) 272)⟩, ⟨(hashStr w (PySem.Str.ofString "__static_attributes__")), (.str (PySem.Str.ofString "__static_attributes__") 274), (.ref 78)⟩, ⟨(hashStr w (PySem.Str.ofString "__doc__")), (.str (PySem.Str.ofString "__doc__") 275), .none⟩] 2), #[]⟩),
  (80, ⟨(.type "type"), none, (.cls ⟨(PySem.Str.ofString "NoWords"), [(.ref 31)], [(.ref 80), (.ref 31), (.type "ValueError"), (.type "Exception"), (.type "BaseException"), (.type "object")], 79, (PySem.Str.ofString "NoWords"), true, [], [], false, none, false⟩), #[(some (.ref 71)), none, (some (.str (PySem.Str.ofString "NoWords") 262)), (some (.str (PySem.Str.ofString "NoWords") 270)), (some (.builtin "ValueError.__new__")), (some (.bool true))]⟩),
  (81, ⟨(.type "super"), none, (.fields #[(.ref 80), (.ref 80), (.ref 80)]), #[]⟩),
  (82, ⟨(.type "builtin_function_or_method"), none, (.fields #[(.builtin "object.__init_subclass__"), (.ref 80)]), #[]⟩),
  (83, ⟨(.type "tuple"), none, (.seq #[(.ref 31)] 0), #[]⟩),
  (84, ⟨(.type "builtin_function_or_method"), none, (.fields #[(.builtin "type.__prepare__"), (.type "type")]), #[]⟩),
  (85, ⟨(.type "dict"), none, (.dict #[⟨(hashStr w (PySem.Str.ofString "__module__")), (.str (PySem.Str.ofString "__module__") 285), (.str (PySem.Str.ofString "passkeep.errors") 194)⟩, ⟨(hashStr w (PySem.Str.ofString "__qualname__")), (.str (PySem.Str.ofString "__qualname__") 287), (.str (PySem.Str.ofString "NoKind") 286)⟩, ⟨(hashStr w (PySem.Str.ofString "__firstlineno__")), (.str (PySem.Str.ofString "__firstlineno__") 289), (.int (15) 288)⟩, ⟨(hashStr w (PySem.Str.ofString "__static_attributes__")), (.str (PySem.Str.ofString "__static_attributes__") 290), (.ref 90)⟩] 4), #[]⟩),
  (86, ⟨(.type "tuple"), none, (.seq #[] 0), #[]⟩),
  (87, ⟨.none, none, (.fields #[]), #[]⟩),
  (88, ⟨(.type "code"), none, (.fields #[(.str (PySem.Str.ofString "NoKind") 280), (.str (PySem.Str.ofString "NoKind") 281), (.str (PySem.Str.ofString "/claim/cut.py") 282), (.int (15) 0), (.int (0) 0), (.int (0) 0), (.int (0) 0), (.int (0) 0), (.ref 86), (.bool false), (.int (181) 0), (.ref 87), .none, .none, .none, .none, (.int (283) 0), (.int (15) 0), (.str (PySem.Str.ofString "/claim/cut.py") 284)]), #[]⟩),
  (89, ⟨(.type "frame"), none, .plain, #[(some (.ref 88)), (some (.ref 3)), (some (.ref 85)), none, (some (.str (PySem.Str.ofString "passkeep.errors") 194)), none, (some (.ref 0))]⟩),
  (90, ⟨(.type "tuple"), none, (.seq #[] 0), #[]⟩),
  (91, ⟨(.type "dict"), none, (.dict #[⟨(hashStr w (PySem.Str.ofString "__module__")), (.str (PySem.Str.ofString "__module__") 285), (.str (PySem.Str.ofString "passkeep.errors") 194)⟩, ⟨(hashStr w (PySem.Str.ofString "__firstlineno__")), (.str (PySem.Str.ofString "__firstlineno__") 289), (.int (15) 288)⟩, ⟨(hashStr w (PySem.Str.ofString "__static_attributes__")), (.str (PySem.Str.ofString "__static_attributes__") 290), (.ref 90)⟩, ⟨(hashStr w (PySem.Str.ofString "__doc__")), (.str (PySem.Str.ofString "__doc__") 291), .none⟩] 2), #[]⟩),
  (92, ⟨(.type "type"), none, (.cls ⟨(PySem.Str.ofString "NoKind"), [(.ref 31)], [(.ref 92), (.ref 31), (.type "ValueError"), (.type "Exception"), (.type "BaseException"), (.type "object")], 91, (PySem.Str.ofString "NoKind"), true, [], [], false, none, false⟩), #[(some (.ref 83)), none, (some (.str (PySem.Str.ofString "NoKind") 278)), (some (.str (PySem.Str.ofString "NoKind") 286)), (some (.builtin "ValueError.__new__")), (some (.bool true))]⟩),
  (93, ⟨(.type "super"), none, (.fields #[(.ref 92), (.ref 92), (.ref 92)]), #[]⟩),
  (94, ⟨(.type "builtin_function_or_method"), none, (.fields #[(.builtin "object.__init_subclass__"), (.ref 92)]), #[]⟩),
  (95, ⟨(.type "tuple"), none, (.seq #[(.ref 31)] 0), #[]⟩),
  (96, ⟨(.type "builtin_function_or_method"), none, (.fields #[(.builtin "type.__prepare__"), (.type "type")]), #[]⟩),
  (97, ⟨(.type "dict"), none, (.dict #[⟨(hashStr w (PySem.Str.ofString "__module__")), (.str (PySem.Str.ofString "__module__") 301), (.str (PySem.Str.ofString "passkeep.errors") 194)⟩, ⟨(hashStr w (PySem.Str.ofString "__qualname__")), (.str (PySem.Str.ofString "__qualname__") 303), (.str (PySem.Str.ofString "NoTask") 302)⟩, ⟨(hashStr w (PySem.Str.ofString "__firstlineno__")), (.str (PySem.Str.ofString "__firstlineno__") 305), (.int (17) 304)⟩, ⟨(hashStr w (PySem.Str.ofString "__static_attributes__")), (.str (PySem.Str.ofString "__static_attributes__") 306), (.ref 102)⟩] 4), #[]⟩),
  (98, ⟨(.type "tuple"), none, (.seq #[] 0), #[]⟩),
  (99, ⟨.none, none, (.fields #[]), #[]⟩),
  (100, ⟨(.type "code"), none, (.fields #[(.str (PySem.Str.ofString "NoTask") 296), (.str (PySem.Str.ofString "NoTask") 297), (.str (PySem.Str.ofString "/claim/cut.py") 298), (.int (17) 0), (.int (0) 0), (.int (0) 0), (.int (0) 0), (.int (0) 0), (.ref 98), (.bool false), (.int (181) 0), (.ref 99), .none, .none, .none, .none, (.int (299) 0), (.int (17) 0), (.str (PySem.Str.ofString "/claim/cut.py") 300)]), #[]⟩),
  (101, ⟨(.type "frame"), none, .plain, #[(some (.ref 100)), (some (.ref 3)), (some (.ref 97)), none, (some (.str (PySem.Str.ofString "passkeep.errors") 194)), none, (some (.ref 0))]⟩),
  (102, ⟨(.type "tuple"), none, (.seq #[] 0), #[]⟩),
  (103, ⟨(.type "dict"), none, (.dict #[⟨(hashStr w (PySem.Str.ofString "__module__")), (.str (PySem.Str.ofString "__module__") 301), (.str (PySem.Str.ofString "passkeep.errors") 194)⟩, ⟨(hashStr w (PySem.Str.ofString "__firstlineno__")), (.str (PySem.Str.ofString "__firstlineno__") 305), (.int (17) 304)⟩, ⟨(hashStr w (PySem.Str.ofString "__static_attributes__")), (.str (PySem.Str.ofString "__static_attributes__") 306), (.ref 102)⟩, ⟨(hashStr w (PySem.Str.ofString "__doc__")), (.str (PySem.Str.ofString "__doc__") 307), .none⟩] 2), #[]⟩),
  (104, ⟨(.type "type"), none, (.cls ⟨(PySem.Str.ofString "NoTask"), [(.ref 31)], [(.ref 104), (.ref 31), (.type "ValueError"), (.type "Exception"), (.type "BaseException"), (.type "object")], 103, (PySem.Str.ofString "NoTask"), true, [], [], false, none, false⟩), #[(some (.ref 95)), none, (some (.str (PySem.Str.ofString "NoTask") 294)), (some (.str (PySem.Str.ofString "NoTask") 302)), (some (.builtin "ValueError.__new__")), (some (.bool true))]⟩),
  (105, ⟨(.type "super"), none, (.fields #[(.ref 104), (.ref 104), (.ref 104)]), #[]⟩),
  (106, ⟨(.type "builtin_function_or_method"), none, (.fields #[(.builtin "object.__init_subclass__"), (.ref 104)]), #[]⟩),
  (107, ⟨(.type "tuple"), none, (.seq #[(.ref 31)] 0), #[]⟩),
  (108, ⟨(.type "builtin_function_or_method"), none, (.fields #[(.builtin "type.__prepare__"), (.type "type")]), #[]⟩),
  (109, ⟨(.type "dict"), none, (.dict #[⟨(hashStr w (PySem.Str.ofString "__module__")), (.str (PySem.Str.ofString "__module__") 317), (.str (PySem.Str.ofString "passkeep.errors") 194)⟩, ⟨(hashStr w (PySem.Str.ofString "__qualname__")), (.str (PySem.Str.ofString "__qualname__") 319), (.str (PySem.Str.ofString "NoHandle") 318)⟩, ⟨(hashStr w (PySem.Str.ofString "__firstlineno__")), (.str (PySem.Str.ofString "__firstlineno__") 321), (.int (19) 320)⟩, ⟨(hashStr w (PySem.Str.ofString "__static_attributes__")), (.str (PySem.Str.ofString "__static_attributes__") 322), (.ref 114)⟩] 4), #[]⟩),
  (110, ⟨(.type "tuple"), none, (.seq #[] 0), #[]⟩),
  (111, ⟨.none, none, (.fields #[]), #[]⟩),
  (112, ⟨(.type "code"), none, (.fields #[(.str (PySem.Str.ofString "NoHandle") 312), (.str (PySem.Str.ofString "NoHandle") 313), (.str (PySem.Str.ofString "/claim/cut.py") 314), (.int (19) 0), (.int (0) 0), (.int (0) 0), (.int (0) 0), (.int (0) 0), (.ref 110), (.bool false), (.int (181) 0), (.ref 111), .none, .none, .none, .none, (.int (315) 0), (.int (19) 0), (.str (PySem.Str.ofString "/claim/cut.py") 316)]), #[]⟩),
  (113, ⟨(.type "frame"), none, .plain, #[(some (.ref 112)), (some (.ref 3)), (some (.ref 109)), none, (some (.str (PySem.Str.ofString "passkeep.errors") 194)), none, (some (.ref 0))]⟩),
  (114, ⟨(.type "tuple"), none, (.seq #[] 0), #[]⟩),
  (115, ⟨(.type "dict"), none, (.dict #[⟨(hashStr w (PySem.Str.ofString "__module__")), (.str (PySem.Str.ofString "__module__") 317), (.str (PySem.Str.ofString "passkeep.errors") 194)⟩, ⟨(hashStr w (PySem.Str.ofString "__firstlineno__")), (.str (PySem.Str.ofString "__firstlineno__") 321), (.int (19) 320)⟩, ⟨(hashStr w (PySem.Str.ofString "__static_attributes__")), (.str (PySem.Str.ofString "__static_attributes__") 322), (.ref 114)⟩, ⟨(hashStr w (PySem.Str.ofString "__doc__")), (.str (PySem.Str.ofString "__doc__") 323), .none⟩] 2), #[]⟩),
  (116, ⟨(.type "type"), none, (.cls ⟨(PySem.Str.ofString "NoHandle"), [(.ref 31)], [(.ref 116), (.ref 31), (.type "ValueError"), (.type "Exception"), (.type "BaseException"), (.type "object")], 115, (PySem.Str.ofString "NoHandle"), true, [], [], false, none, false⟩), #[(some (.ref 107)), none, (some (.str (PySem.Str.ofString "NoHandle") 310)), (some (.str (PySem.Str.ofString "NoHandle") 318)), (some (.builtin "ValueError.__new__")), (some (.bool true))]⟩),
  (117, ⟨(.type "super"), none, (.fields #[(.ref 116), (.ref 116), (.ref 116)]), #[]⟩),
  (118, ⟨(.type "builtin_function_or_method"), none, (.fields #[(.builtin "object.__init_subclass__"), (.ref 116)]), #[]⟩),
  (119, ⟨(.type "tuple"), none, (.seq #[(.ref 31)] 0), #[]⟩),
  (120, ⟨(.type "builtin_function_or_method"), none, (.fields #[(.builtin "type.__prepare__"), (.type "type")]), #[]⟩),
  (121, ⟨(.type "dict"), none, (.dict #[⟨(hashStr w (PySem.Str.ofString "__module__")), (.str (PySem.Str.ofString "__module__") 333), (.str (PySem.Str.ofString "passkeep.errors") 194)⟩, ⟨(hashStr w (PySem.Str.ofString "__qualname__")), (.str (PySem.Str.ofString "__qualname__") 335), (.str (PySem.Str.ofString "NoThing") 334)⟩, ⟨(hashStr w (PySem.Str.ofString "__firstlineno__")), (.str (PySem.Str.ofString "__firstlineno__") 337), (.int (21) 336)⟩, ⟨(hashStr w (PySem.Str.ofString "__static_attributes__")), (.str (PySem.Str.ofString "__static_attributes__") 338), (.ref 126)⟩] 4), #[]⟩),
  (122, ⟨(.type "tuple"), none, (.seq #[] 0), #[]⟩),
  (123, ⟨.none, none, (.fields #[]), #[]⟩),
  (124, ⟨(.type "code"), none, (.fields #[(.str (PySem.Str.ofString "NoThing") 328), (.str (PySem.Str.ofString "NoThing") 329), (.str (PySem.Str.ofString "/claim/cut.py") 330), (.int (21) 0), (.int (0) 0), (.int (0) 0), (.int (0) 0), (.int (0) 0), (.ref 122), (.bool false), (.int (181) 0), (.ref 123), .none, .none, .none, .none, (.int (331) 0), (.int (21) 0), (.str (PySem.Str.ofString "/claim/cut.py") 332)]), #[]⟩),
  (125, ⟨(.type "frame"), none, .plain, #[(some (.ref 124)), (some (.ref 3)), (some (.ref 121)), none, (some (.str (PySem.Str.ofString "passkeep.errors") 194)), none, (some (.ref 0))]⟩),
  (126, ⟨(.type "tuple"), none, (.seq #[] 0), #[]⟩),
  (127, ⟨(.type "dict"), none, (.dict #[⟨(hashStr w (PySem.Str.ofString "__module__")), (.str (PySem.Str.ofString "__module__") 333), (.str (PySem.Str.ofString "passkeep.errors") 194)⟩, ⟨(hashStr w (PySem.Str.ofString "__firstlineno__")), (.str (PySem.Str.ofString "__firstlineno__") 337), (.int (21) 336)⟩, ⟨(hashStr w (PySem.Str.ofString "__static_attributes__")), (.str (PySem.Str.ofString "__static_attributes__") 338), (.ref 126)⟩, ⟨(hashStr w (PySem.Str.ofString "__doc__")), (.str (PySem.Str.ofString "__doc__") 339), .none⟩] 2), #[]⟩),
  (128, ⟨(.type "type"), none, (.cls ⟨(PySem.Str.ofString "NoThing"), [(.ref 31)], [(.ref 128), (.ref 31), (.type "ValueError"), (.type "Exception"), (.type "BaseException"), (.type "object")], 127, (PySem.Str.ofString "NoThing"), true, [], [], false, none, false⟩), #[(some (.ref 119)), none, (some (.str (PySem.Str.ofString "NoThing") 326)), (some (.str (PySem.Str.ofString "NoThing") 334)), (some (.builtin "ValueError.__new__")), (some (.bool true))]⟩),
  (129, ⟨(.type "super"), none, (.fields #[(.ref 128), (.ref 128), (.ref 128)]), #[]⟩),
  (130, ⟨(.type "builtin_function_or_method"), none, (.fields #[(.builtin "object.__init_subclass__"), (.ref 128)]), #[]⟩),
  (131, ⟨(.type "tuple"), none, (.seq #[(.ref 31)] 0), #[]⟩),
  (132, ⟨(.type "builtin_function_or_method"), none, (.fields #[(.builtin "type.__prepare__"), (.type "type")]), #[]⟩),
  (133, ⟨(.type "dict"), none, (.dict #[⟨(hashStr w (PySem.Str.ofString "__module__")), (.str (PySem.Str.ofString "__module__") 349), (.str (PySem.Str.ofString "passkeep.errors") 194)⟩, ⟨(hashStr w (PySem.Str.ofString "__qualname__")), (.str (PySem.Str.ofString "__qualname__") 351), (.str (PySem.Str.ofString "NoRow") 350)⟩, ⟨(hashStr w (PySem.Str.ofString "__firstlineno__")), (.str (PySem.Str.ofString "__firstlineno__") 353), (.int (23) 352)⟩, ⟨(hashStr w (PySem.Str.ofString "__static_attributes__")), (.str (PySem.Str.ofString "__static_attributes__") 354), (.ref 138)⟩] 4), #[]⟩),
  (134, ⟨(.type "tuple"), none, (.seq #[] 0), #[]⟩),
  (135, ⟨.none, none, (.fields #[]), #[]⟩),
  (136, ⟨(.type "code"), none, (.fields #[(.str (PySem.Str.ofString "NoRow") 344), (.str (PySem.Str.ofString "NoRow") 345), (.str (PySem.Str.ofString "/claim/cut.py") 346), (.int (23) 0), (.int (0) 0), (.int (0) 0), (.int (0) 0), (.int (0) 0), (.ref 134), (.bool false), (.int (181) 0), (.ref 135), .none, .none, .none, .none, (.int (347) 0), (.int (23) 0), (.str (PySem.Str.ofString "/claim/cut.py") 348)]), #[]⟩),
  (137, ⟨(.type "frame"), none, .plain, #[(some (.ref 136)), (some (.ref 3)), (some (.ref 133)), none, (some (.str (PySem.Str.ofString "passkeep.errors") 194)), none, (some (.ref 0))]⟩),
  (138, ⟨(.type "tuple"), none, (.seq #[] 0), #[]⟩),
  (139, ⟨(.type "dict"), none, (.dict #[⟨(hashStr w (PySem.Str.ofString "__module__")), (.str (PySem.Str.ofString "__module__") 349), (.str (PySem.Str.ofString "passkeep.errors") 194)⟩, ⟨(hashStr w (PySem.Str.ofString "__firstlineno__")), (.str (PySem.Str.ofString "__firstlineno__") 353), (.int (23) 352)⟩, ⟨(hashStr w (PySem.Str.ofString "__static_attributes__")), (.str (PySem.Str.ofString "__static_attributes__") 354), (.ref 138)⟩, ⟨(hashStr w (PySem.Str.ofString "__doc__")), (.str (PySem.Str.ofString "__doc__") 355), .none⟩] 2), #[]⟩),
  (140, ⟨(.type "type"), none, (.cls ⟨(PySem.Str.ofString "NoRow"), [(.ref 31)], [(.ref 140), (.ref 31), (.type "ValueError"), (.type "Exception"), (.type "BaseException"), (.type "object")], 139, (PySem.Str.ofString "NoRow"), true, [], [], false, none, false⟩), #[(some (.ref 131)), none, (some (.str (PySem.Str.ofString "NoRow") 342)), (some (.str (PySem.Str.ofString "NoRow") 350)), (some (.builtin "ValueError.__new__")), (some (.bool true))]⟩),
  (141, ⟨(.type "super"), none, (.fields #[(.ref 140), (.ref 140), (.ref 140)]), #[]⟩),
  (142, ⟨(.type "builtin_function_or_method"), none, (.fields #[(.builtin "object.__init_subclass__"), (.ref 140)]), #[]⟩),
  (143, ⟨(.type "tuple"), none, (.seq #[(.ref 31)] 0), #[]⟩),
  (144, ⟨(.type "builtin_function_or_method"), none, (.fields #[(.builtin "type.__prepare__"), (.type "type")]), #[]⟩),
  (145, ⟨(.type "dict"), none, (.dict #[⟨(hashStr w (PySem.Str.ofString "__module__")), (.str (PySem.Str.ofString "__module__") 365), (.str (PySem.Str.ofString "passkeep.errors") 194)⟩, ⟨(hashStr w (PySem.Str.ofString "__qualname__")), (.str (PySem.Str.ofString "__qualname__") 367), (.str (PySem.Str.ofString "NoDeed") 366)⟩, ⟨(hashStr w (PySem.Str.ofString "__firstlineno__")), (.str (PySem.Str.ofString "__firstlineno__") 369), (.int (25) 368)⟩, ⟨(hashStr w (PySem.Str.ofString "__init__")), (.str (PySem.Str.ofString "__init__") 377), (.ref 156)⟩, ⟨(hashStr w (PySem.Str.ofString "__static_attributes__")), (.str (PySem.Str.ofString "__static_attributes__") 379), (.ref 157)⟩] 5), #[]⟩),
  (146, ⟨(.type "tuple"), none, (.seq #[] 0), #[]⟩),
  (147, ⟨.none, none, (.fields #[(.int (27) 0), (.int (4) 0), (.ref 155)]), #[]⟩),
  (148, ⟨(.type "code"), none, (.fields #[(.str (PySem.Str.ofString "NoDeed") 360), (.str (PySem.Str.ofString "NoDeed") 361), (.str (PySem.Str.ofString "/claim/cut.py") 362), (.int (25) 0), (.int (0) 0), (.int (0) 0), (.int (0) 0), (.int (0) 0), (.ref 146), (.bool false), (.int (181) 0), (.ref 147), .none, .none, .none, .none, (.int (363) 0), (.int (25) 0), (.str (PySem.Str.ofString "/claim/cut.py") 364)]), #[]⟩),
  (149, ⟨(.type "frame"), none, .plain, #[(some (.ref 148)), (some (.ref 3)), (some (.ref 145)), none, (some (.str (PySem.Str.ofString "passkeep.errors") 194)), none, (some (.ref 0))]⟩),
  (150, ⟨(.type "tuple"), none, (.seq #[] 0), #[]⟩),
  (151, ⟨.none, none, (.fields #[]), #[]⟩),
  (152, ⟨(.type "tuple"), none, (.seq #[(.str (PySem.Str.ofString "self") 373), (.str (PySem.Str.ofString "deed") 374)] 0), #[]⟩),
  (153, ⟨(.type "tuple"), none, (.seq #[] 0), #[]⟩),
  (154, ⟨.none, none, (.func ⟨(PySem.Str.ofString "__init__"), (PySem.Str.ofString "NoDeed.__init__"), defArgs s_NoDeed___init__, .stmts (defBody s_NoDeed___init__), defScope s_NoDeed___init__, 0, [], .none, .none, .none, .none, none, .none, .none, 0⟩), #[]⟩),
  (155, ⟨(.type "code"), none, (.fields #[(.str (PySem.Str.ofString "__init__") 370), (.str (PySem.Str.ofString "NoDeed.__init__") 371), (.str (PySem.Str.ofString "/claim/cut.py") 372), (.int (27) 0), (.int (2) 0), (.int (0) 0), (.int (0) 0), (.int (3) 0), (.ref 150), (.bool true), (.int (181) 0), (.ref 151), .none, (.ref 152), (.ref 153), (.ref 154), (.int (375) 0), (.int (27) 0), (.str (PySem.Str.ofString "/claim/cut.py") 376)]), #[]⟩),
  (156, ⟨(.type "function"), none, (.func ⟨(PySem.Str.ofString "__init__"), (PySem.Str.ofString "NoDeed.__init__"), defArgs s_NoDeed___init__, .stmts (defBody s_NoDeed___init__), defScope s_NoDeed___init__, 3, [], .none, .none, .none, (.str (PySem.Str.ofString "passkeep.errors") 194), none, (.ref 155), .none, 0⟩), #[]⟩),
  (157, ⟨(.type "tuple"), none, (.seq #[(.str (PySem.Str.ofString "deed") 378)] 0), #[]⟩),
  (158, ⟨(.type "dict"), none, (.dict #[⟨(hashStr w (PySem.Str.ofString "__module__")), (.str (PySem.Str.ofString "__module__") 365), (.str (PySem.Str.ofString "passkeep.errors") 194)⟩, ⟨(hashStr w (PySem.Str.ofString "__firstlineno__")), (.str (PySem.Str.ofString "__firstlineno__") 369), (.int (25) 368)⟩, ⟨(hashStr w (PySem.Str.ofString "__init__")), (.str (PySem.Str.ofString "__init__") 377), (.ref 156)⟩, ⟨(hashStr w (PySem.Str.ofString "__static_attributes__")), (.str (PySem.Str.ofString "__static_attributes__") 379), (.ref 157)⟩, ⟨(hashStr w (PySem.Str.ofString "__doc__")), (.str (PySem.Str.ofString "__doc__") 380), .none⟩] 2), #[]⟩),
  (159, ⟨(.type "type"), none, (.cls ⟨(PySem.Str.ofString "NoDeed"), [(.ref 31)], [(.ref 159), (.ref 31), (.type "ValueError"), (.type "Exception"), (.type "BaseException"), (.type "object")], 158, (PySem.Str.ofString "NoDeed"), true, [], [], false, none, false⟩), #[(some (.ref 143)), none, (some (.str (PySem.Str.ofString "NoDeed") 358)), (some (.str (PySem.Str.ofString "NoDeed") 366)), (some (.builtin "ValueError.__new__")), (some (.bool true))]⟩),
  (160, ⟨(.type "super"), none, (.fields #[(.ref 159), (.ref 159), (.ref 159)]), #[]⟩),
  (161, ⟨(.type "builtin_function_or_method"), none, (.fields #[(.builtin "object.__init_subclass__"), (.ref 159)]), #[]⟩)]
def bt_cut13 (w : World) : PySem.W.BT := insL (ch_cut13 w) (bt_block w)
abbrev S_cut13 (w : World) (os : OsState) : SharedT := stT w os (bt_cut13 w) 162 383
def ch_cut37 (w : World) : List (Nat × Obj) := [
  (3, ⟨(.type "dict"), none, (.dict #[⟨(hashStr w (PySem.Str.ofString "__name__")), (.str (PySem.Str.ofString "__name__") 165), (.str (PySem.Str.ofString "law_passkeep_k41_slots") 663)⟩, ⟨(hashStr w (PySem.Str.ofString "__doc__")), (.str (PySem.Str.ofString "__doc__") 166), .none⟩, ⟨(hashStr w (PySem.Str.ofString "__package__")), (.str (PySem.Str.ofString "__package__") 167), .none⟩, ⟨(hashStr w (PySem.Str.ofString "__loader__")), (.str (PySem.Str.ofString "__loader__") 168), (.builtin "__main__.__loader__#opaque")⟩, ⟨(hashStr w (PySem.Str.ofString "__spec__")), (.str (PySem.Str.ofString "__spec__") 169), .none⟩, ⟨(hashStr w (PySem.Str.ofString "__annotations__")), (.str (PySem.Str.ofString "__annotations__") 170), (.ref 6)⟩, ⟨(hashStr w (PySem.Str.ofString "__builtins__")), (.str (PySem.Str.ofString "__builtins__") 171), (.ref 4)⟩, ⟨(hashStr w (PySem.Str.ofString "__file__")), (.str (PySem.Str.ofString "__file__") 173), (.str (PySem.Str.ofString "/claim/cut.py") 172)⟩, ⟨(hashStr w (PySem.Str.ofString "__cached__")), (.str (PySem.Str.ofString "__cached__") 174), .none⟩, ⟨(hashStr w (PySem.Str.ofString "_wall")), (.str (PySem.Str.ofString "_wall") 193), (.ref 21)⟩, ⟨(hashStr w (PySem.Str.ofString "PassError")), (.str (PySem.Str.ofString "PassError") 213), (.ref 31)⟩, ⟨(hashStr w (PySem.Str.ofString "NoRights")), (.str (PySem.Str.ofString "NoRights") 229), (.ref 44)⟩, ⟨(hashStr w (PySem.Str.ofString "NoName")), (.str (PySem.Str.ofString "NoName") 245), (.ref 56)⟩, ⟨(hashStr w (PySem.Str.ofString "NoValue")), (.str (PySem.Str.ofString "NoValue") 261), (.ref 68)⟩, ⟨(hashStr w (PySem.Str.ofString "NoWords")), (.str (PySem.Str.ofString "NoWords") 277), (.ref 80)⟩, ⟨(hashStr w (PySem.Str.ofString "NoKind")), (.str (PySem.Str.ofString "NoKind") 293), (.ref 92)⟩, ⟨(hashStr w (PySem.Str.ofString "NoTask")), (.str (PySem.Str.ofString "NoTask") 309), (.ref 104)⟩, ⟨(hashStr w (PySem.Str.ofString "NoHandle")), (.str (PySem.Str.ofString "NoHandle") 325), (.ref 116)⟩, ⟨(hashStr w (PySem.Str.ofString "NoThing")), (.str (PySem.Str.ofString "NoThing") 341), (.ref 128)⟩, ⟨(hashStr w (PySem.Str.ofString "NoRow")), (.str (PySem.Str.ofString "NoRow") 357), (.ref 140)⟩, ⟨(hashStr w (PySem.Str.ofString "NoDeed")), (.str (PySem.Str.ofString "NoDeed") 382), (.ref 159)⟩, ⟨(hashStr w (PySem.Str.ofString "Lacks")), (.str (PySem.Str.ofString "Lacks") 407), (.ref 178)⟩, ⟨(hashStr w (PySem.Str.ofString "Taken")), (.str (PySem.Str.ofString "Taken") 423), (.ref 190)⟩, ⟨(hashStr w (PySem.Str.ofString "TooMany")), (.str (PySem.Str.ofString "TooMany") 439), (.ref 202)⟩, ⟨(hashStr w (PySem.Str.ofString "TooGreat")), (.str (PySem.Str.ofString "TooGreat") 455), (.ref 214)⟩, ⟨(hashStr w (PySem.Str.ofString "Empty")), (.str (PySem.Str.ofString "Empty") 471), (.ref 226)⟩, ⟨(hashStr w (PySem.Str.ofString "Full")), (.str (PySem.Str.ofString "Full") 487), (.ref 238)⟩, ⟨(hashStr w (PySem.Str.ofString "MOST_LETTERS")), (.str (PySem.Str.ofString "MOST_LETTERS") 491), (.int (8) 490)⟩, ⟨(hashStr w (PySem.Str.ofString "is_name")), (.str (PySem.Str.ofString "is_name") 497), (.ref 245)⟩, ⟨(hashStr w (PySem.Str.ofString "MOST_TASKS")), (.str (PySem.Str.ofString "MOST_TASKS") 501), (.int (12) 500)⟩, ⟨(hashStr w (PySem.Str.ofString "SLOTS")), (.str (PySem.Str.ofString "SLOTS") 503), (.int (16) 502)⟩, ⟨(hashStr w (PySem.Str.ofString "Task")), (.str (PySem.Str.ofString "Task") 534), (.ref 262)⟩, ⟨(hashStr w (PySem.Str.ofString "Tasks")), (.str (PySem.Str.ofString "Tasks") 662), (.ref 363)⟩, ⟨(hashStr w (PySem.Str.ofString "_law_mix")), (.str (PySem.Str.ofString "_law_mix") 674), (.ref 374)⟩, ⟨(hashStr w (PySem.Str.ofString "_law_name")), (.str (PySem.Str.ofString "_law_name") 680), (.ref 379)⟩, ⟨(hashStr w (PySem.Str.ofString "_law_word")), (.str (PySem.Str.ofString "_law_word") 688), (.ref 386)⟩, ⟨(hashStr w (PySem.Str.ofString "_law_whole")), (.str (PySem.Str.ofString "_law_whole") 695), (.ref 393)⟩, ⟨(hashStr w (PySem.Str.ofString "_law_put")), (.str (PySem.Str.ofString "_law_put") 705), (.ref 400)⟩, ⟨(hashStr w (PySem.Str.ofString "_law_at")), (.str (PySem.Str.ofString "_law_at") 715), (.ref 407)⟩, ⟨(hashStr w (PySem.Str.ofString "_law_put_due")), (.str (PySem.Str.ofString "_law_put_due") 725), (.ref 414)⟩, ⟨(hashStr w (PySem.Str.ofString "_law_at_due")), (.str (PySem.Str.ofString "_law_at_due") 734), (.ref 421)⟩, ⟨(hashStr w (PySem.Str.ofString "_law_out")), (.str (PySem.Str.ofString "_law_out") 740), (.ref 426)⟩] 42), #[]⟩),
  (12, ⟨.none, none, (.fields #[(.int (1) 0), (.int (0) 0), (.ref 20), (.int (5) 0), (.int (0) 0), (.ref 27), (.int (7) 0), (.int (0) 0), (.ref 40), (.int (9) 0), (.int (0) 0), (.ref 52), (.int (11) 0), (.int (0) 0), (.ref 64), (.int (13) 0), (.int (0) 0), (.ref 76), (.int (15) 0), (.int (0) 0), (.ref 88), (.int (17) 0), (.int (0) 0), (.ref 100), (.int (19) 0), (.int (0) 0), (.ref 112), (.int (21) 0), (.int (0) 0), (.ref 124), (.int (23) 0), (.int (0) 0), (.ref 136), (.int (25) 0), (.int (0) 0), (.ref 148), (.int (29) 0), (.int (0) 0), (.ref 167), (.int (33) 0), (.int (0) 0), (.ref 186), (.int (35) 0), (.int (0) 0), (.ref 198), (.int (37) 0), (.int (0) 0), (.ref 210), (.int (39) 0), (.int (0) 0), (.ref 222), (.int (41) 0), (.int (0) 0), (.ref 234), (.int (45) 0), (.int (0) 0), (.ref 244), (.int (52) 0), (.int (0) 0), (.ref 251), (.int (58) 0), (.int (0) 0), (.ref 272), (.int (123) 0), (.int (0) 0), (.ref 373), (.int (129) 0), (.int (0) 0), (.ref 378), (.int (137) 0), (.int (0) 0), (.ref 385), (.int (145) 0), (.int (0) 0), (.ref 392), (.int (147) 0), (.int (0) 0), (.ref 399), (.int (152) 0), (.int (0) 0), (.ref 406), (.int (157) 0), (.int (0) 0), (.ref 413), (.int (165) 0), (.int (0) 0), (.ref 420), (.int (171) 0), (.int (0) 0), (.ref 425)]), #[]⟩),
  (31, ⟨(.type "type"), none, (.cls ⟨(PySem.Str.ofString "PassError"), [(.type "ValueError")], [(.ref 31), (.type "ValueError"), (.type "Exception"), (.type "BaseException"), (.type "object")], 30, (PySem.Str.ofString "PassError"), true, [], [(.ref 44), (.ref 56), (.ref 68), (.ref 80), (.ref 92), (.ref 104), (.ref 116), (.ref 128), (.ref 140), (.ref 159), (.ref 178), (.ref 190), (.ref 202), (.ref 214), (.ref 226), (.ref 238)], false, none, false⟩), #[(some (.ref 22)), none, (some (.str (PySem.Str.ofString "PassError") 196)), (some (.str (PySem.Str.ofString "PassError") 204)), (some (.builtin "ValueError.__new__")), (some (.bool true))]⟩),
  (162, ⟨(.type "tuple"), none, (.seq #[(.ref 31)] 0), #[]⟩),
  (163, ⟨(.type "builtin_function_or_method"), none, (.fields #[(.builtin "type.__prepare__"), (.type "type")]), #[]⟩),
  (164, ⟨(.type "dict"), none, (.dict #[⟨(hashStr w (PySem.Str.ofString "__module__")), (.str (PySem.Str.ofString "__module__") 390), (.str (PySem.Str.ofString "passkeep.errors") 194)⟩, ⟨(hashStr w (PySem.Str.ofString "__qualname__")), (.str (PySem.Str.ofString "__qualname__") 392), (.str (PySem.Str.ofString "Lacks") 391)⟩, ⟨(hashStr w (PySem.Str.ofString "__firstlineno__")), (.str (PySem.Str.ofString "__firstlineno__") 394), (.int (29) 393)⟩, ⟨(hashStr w (PySem.Str.ofString "__init__")), (.str (PySem.Str.ofString "__init__") 402), (.ref 175)⟩, ⟨(hashStr w (PySem.Str.ofString "__static_attributes__")), (.str (PySem.Str.ofString "__static_attributes__") 404), (.ref 176)⟩] 5), #[]⟩),
  (165, ⟨(.type "tuple"), none, (.seq #[] 0), #[]⟩),
  (166, ⟨.none, none, (.fields #[(.int (31) 0), (.int (4) 0), (.ref 174)]), #[]⟩),
  (167, ⟨(.type "code"), none, (.fields #[(.str (PySem.Str.ofString "Lacks") 385), (.str (PySem.Str.ofString "Lacks") 386), (.str (PySem.Str.ofString "/claim/cut.py") 387), (.int (29) 0), (.int (0) 0), (.int (0) 0), (.int (0) 0), (.int (0) 0), (.ref 165), (.bool false), (.int (181) 0), (.ref 166), .none, .none, .none, .none, (.int (388) 0), (.int (29) 0), (.str (PySem.Str.ofString "/claim/cut.py") 389)]), #[]⟩),
  (168, ⟨(.type "frame"), none, .plain, #[(some (.ref 167)), (some (.ref 3)), (some (.ref 164)), none, (some (.str (PySem.Str.ofString "passkeep.errors") 194)), none, (some (.ref 0))]⟩),
  (169, ⟨(.type "tuple"), none, (.seq #[] 0), #[]⟩),
  (170, ⟨.none, none, (.fields #[]), #[]⟩),
  (171, ⟨(.type "tuple"), none, (.seq #[(.str (PySem.Str.ofString "self") 398), (.str (PySem.Str.ofString "missing") 399)] 0), #[]⟩),
  (172, ⟨(.type "tuple"), none, (.seq #[] 0), #[]⟩),
  (173, ⟨.none, none, (.func ⟨(PySem.Str.ofString "__init__"), (PySem.Str.ofString "Lacks.__init__"), defArgs s_Lacks___init__, .stmts (defBody s_Lacks___init__), defScope s_Lacks___init__, 0, [], .none, .none, .none, .none, none, .none, .none, 0⟩), #[]⟩),
  (174, ⟨(.type "code"), none, (.fields #[(.str (PySem.Str.ofString "__init__") 395), (.str (PySem.Str.ofString "Lacks.__init__") 396), (.str (PySem.Str.ofString "/claim/cut.py") 397), (.int (31) 0), (.int (2) 0), (.int (0) 0), (.int (0) 0), (.int (3) 0), (.ref 169), (.bool true), (.int (181) 0), (.ref 170), .none, (.ref 171), (.ref 172), (.ref 173), (.int (400) 0), (.int (31) 0), (.str (PySem.Str.ofString "/claim/cut.py") 401)]), #[]⟩),
  (175, ⟨(.type "function"), none, (.func ⟨(PySem.Str.ofString "__init__"), (PySem.Str.ofString "Lacks.__init__"), defArgs s_Lacks___init__, .stmts (defBody s_Lacks___init__), defScope s_Lacks___init__, 3, [], .none, .none, .none, (.str (PySem.Str.ofString "passkeep.errors") 194), none, (.ref 174), .none, 0⟩), #[]⟩),
  (176, ⟨(.type "tuple"), none, (.seq #[(.str (PySem.Str.ofString "missing") 403)] 0), #[]⟩),
  (177, ⟨(.type "dict"), none, (.dict #[⟨(hashStr w (PySem.Str.ofString "__module__")), (.str (PySem.Str.ofString "__module__") 390), (.str (PySem.Str.ofString "passkeep.errors") 194)⟩, ⟨(hashStr w (PySem.Str.ofString "__firstlineno__")), (.str (PySem.Str.ofString "__firstlineno__") 394), (.int (29) 393)⟩, ⟨(hashStr w (PySem.Str.ofString "__init__")), (.str (PySem.Str.ofString "__init__") 402), (.ref 175)⟩, ⟨(hashStr w (PySem.Str.ofString "__static_attributes__")), (.str (PySem.Str.ofString "__static_attributes__") 404), (.ref 176)⟩, ⟨(hashStr w (PySem.Str.ofString "__doc__")), (.str (PySem.Str.ofString "__doc__") 405), .none⟩] 2), #[]⟩),
  (178, ⟨(.type "type"), none, (.cls ⟨(PySem.Str.ofString "Lacks"), [(.ref 31)], [(.ref 178), (.ref 31), (.type "ValueError"), (.type "Exception"), (.type "BaseException"), (.type "object")], 177, (PySem.Str.ofString "Lacks"), true, [], [], false, none, false⟩), #[(some (.ref 162)), none, (some (.str (PySem.Str.ofString "Lacks") 383)), (some (.str (PySem.Str.ofString "Lacks") 391)), (some (.builtin "ValueError.__new__")), (some (.bool true))]⟩),
  (179, ⟨(.type "super"), none, (.fields #[(.ref 178), (.ref 178), (.ref 178)]), #[]⟩),
  (180, ⟨(.type "builtin_function_or_method"), none, (.fields #[(.builtin "object.__init_subclass__"), (.ref 178)]), #[]⟩),
  (181, ⟨(.type "tuple"), none, (.seq #[(.ref 31)] 0), #[]⟩),
  (182, ⟨(.type "builtin_function_or_method"), none, (.fields #[(.builtin "type.__prepare__"), (.type "type")]), #[]⟩),
  (183, ⟨(.type "dict"), none, (.dict #[⟨(hashStr w (PySem.Str.ofString "__module__")), (.str (PySem.Str.ofString "__module__") 415), (.str (PySem.Str.ofString "passkeep.errors") 194)⟩, ⟨(hashStr w (PySem.Str.ofString "__qualname__")), (.str (PySem.Str.ofString "__qualname__") 417), (.str (PySem.Str.ofString "Taken") 416)⟩, ⟨(hashStr w (PySem.Str.ofString "__firstlineno__")), (.str (PySem.Str.ofString "__firstlineno__") 419), (.int (33) 418)⟩, ⟨(hashStr w (PySem.Str.ofString "__static_attributes__")), (.str (PySem.Str.ofString "__static_attributes__") 420), (.ref 188)⟩] 4), #[]⟩),
  (184, ⟨(.type "tuple"), none, (.seq #[] 0), #[]⟩),
  (185, ⟨.none, none, (.fields #[]), #[]⟩),
  (186, ⟨(.type "code"), none, (.fields #[(.str (PySem.Str.ofString "Taken") 410), (.str (PySem.Str.ofString "Taken") 411), (.str (PySem.Str.ofString "/claim/cut.py") 412), (.int (33) 0), (.int (0) 0), (.int (0) 0), (.int (0) 0), (.int (0) 0), (.ref 184), (.bool false), (.int (181) 0), (.ref 185), .none, .none, .none, .none, (.int (413) 0), (.int (33) 0), (.str (PySem.Str.ofString "/claim/cut.py") 414)]), #[]⟩),
  (187, ⟨(.type "frame"), none, .plain, #[(some (.ref 186)), (some (.ref 3)), (some (.ref 183)), none, (some (.str (PySem.Str.ofString "passkeep.errors") 194)), none, (some (.ref 0))]⟩),
  (188, ⟨(.type "tuple"), none, (.seq #[] 0), #[]⟩),
  (189, ⟨(.type "dict"), none, (.dict #[⟨(hashStr w (PySem.Str.ofString "__module__")), (.str (PySem.Str.ofString "__module__") 415), (.str (PySem.Str.ofString "passkeep.errors") 194)⟩, ⟨(hashStr w (PySem.Str.ofString "__firstlineno__")), (.str (PySem.Str.ofString "__firstlineno__") 419), (.int (33) 418)⟩, ⟨(hashStr w (PySem.Str.ofString "__static_attributes__")), (.str (PySem.Str.ofString "__static_attributes__") 420), (.ref 188)⟩, ⟨(hashStr w (PySem.Str.ofString "__doc__")), (.str (PySem.Str.ofString "__doc__") 421), .none⟩] 2), #[]⟩),
  (190, ⟨(.type "type"), none, (.cls ⟨(PySem.Str.ofString "Taken"), [(.ref 31)], [(.ref 190), (.ref 31), (.type "ValueError"), (.type "Exception"), (.type "BaseException"), (.type "object")], 189, (PySem.Str.ofString "Taken"), true, [], [], false, none, false⟩), #[(some (.ref 181)), none, (some (.str (PySem.Str.ofString "Taken") 408)), (some (.str (PySem.Str.ofString "Taken") 416)), (some (.builtin "ValueError.__new__")), (some (.bool true))]⟩),
  (191, ⟨(.type "super"), none, (.fields #[(.ref 190), (.ref 190), (.ref 190)]), #[]⟩),
  (192, ⟨(.type "builtin_function_or_method"), none, (.fields #[(.builtin "object.__init_subclass__"), (.ref 190)]), #[]⟩),
  (193, ⟨(.type "tuple"), none, (.seq #[(.ref 31)] 0), #[]⟩),
  (194, ⟨(.type "builtin_function_or_method"), none, (.fields #[(.builtin "type.__prepare__"), (.type "type")]), #[]⟩),
  (195, ⟨(.type "dict"), none, (.dict #[⟨(hashStr w (PySem.Str.ofString "__module__")), (.str (PySem.Str.ofString "__module__") 431), (.str (PySem.Str.ofString "passkeep.errors") 194)⟩, ⟨(hashStr w (PySem.Str.ofString "__qualname__")), (.str (PySem.Str.ofString "__qualname__") 433), (.str (PySem.Str.ofString "TooMany") 432)⟩, ⟨(hashStr w (PySem.Str.ofString "__firstlineno__")), (.str (PySem.Str.ofString "__firstlineno__") 435), (.int (35) 434)⟩, ⟨(hashStr w (PySem.Str.ofString "__static_attributes__")), (.str (PySem.Str.ofString "__static_attributes__") 436), (.ref 200)⟩] 4), #[]⟩),
  (196, ⟨(.type "tuple"), none, (.seq #[] 0), #[]⟩),
  (197, ⟨.none, none, (.fields #[]), #[]⟩),
  (198, ⟨(.type "code"), none, (.fields #[(.str (PySem.Str.ofString "TooMany") 426), (.str (PySem.Str.ofString "TooMany") 427), (.str (PySem.Str.ofString "/claim/cut.py") 428), (.int (35) 0), (.int (0) 0), (.int (0) 0), (.int (0) 0), (.int (0) 0), (.ref 196), (.bool false), (.int (181) 0), (.ref 197), .none, .none, .none, .none, (.int (429) 0), (.int (35) 0), (.str (PySem.Str.ofString "/claim/cut.py") 430)]), #[]⟩),
  (199, ⟨(.type "frame"), none, .plain, #[(some (.ref 198)), (some (.ref 3)), (some (.ref 195)), none, (some (.str (PySem.Str.ofString "passkeep.errors") 194)), none, (some (.ref 0))]⟩),
  (200, ⟨(.type "tuple"), none, (.seq #[] 0), #[]⟩),
  (201, ⟨(.type "dict"), none, (.dict #[⟨(hashStr w (PySem.Str.ofString "__module__")), (.str (PySem.Str.ofString "__module__") 431), (.str (PySem.Str.ofString "passkeep.errors") 194)⟩, ⟨(hashStr w (PySem.Str.ofString "__firstlineno__")), (.str (PySem.Str.ofString "__firstlineno__") 435), (.int (35) 434)⟩, ⟨(hashStr w (PySem.Str.ofString "__static_attributes__")), (.str (PySem.Str.ofString "__static_attributes__") 436), (.ref 200)⟩, ⟨(hashStr w (PySem.Str.ofString "__doc__")), (.str (PySem.Str.ofString "__doc__") 437), .none⟩] 2), #[]⟩),
  (202, ⟨(.type "type"), none, (.cls ⟨(PySem.Str.ofString "TooMany"), [(.ref 31)], [(.ref 202), (.ref 31), (.type "ValueError"), (.type "Exception"), (.type "BaseException"), (.type "object")], 201, (PySem.Str.ofString "TooMany"), true, [], [], false, none, false⟩), #[(some (.ref 193)), none, (some (.str (PySem.Str.ofString "TooMany") 424)), (some (.str (PySem.Str.ofString "TooMany") 432)), (some (.builtin "ValueError.__new__")), (some (.bool true))]⟩),
  (203, ⟨(.type "super"), none, (.fields #[(.ref 202), (.ref 202), (.ref 202)]), #[]⟩),
  (204, ⟨(.type "builtin_function_or_method"), none, (.fields #[(.builtin "object.__init_subclass__"), (.ref 202)]), #[]⟩),
  (205, ⟨(.type "tuple"), none, (.seq #[(.ref 31)] 0), #[]⟩),
  (206, ⟨(.type "builtin_function_or_method"), none, (.fields #[(.builtin "type.__prepare__"), (.type "type")]), #[]⟩),
  (207, ⟨(.type "dict"), none, (.dict #[⟨(hashStr w (PySem.Str.ofString "__module__")), (.str (PySem.Str.ofString "__module__") 447), (.str (PySem.Str.ofString "passkeep.errors") 194)⟩, ⟨(hashStr w (PySem.Str.ofString "__qualname__")), (.str (PySem.Str.ofString "__qualname__") 449), (.str (PySem.Str.ofString "TooGreat") 448)⟩, ⟨(hashStr w (PySem.Str.ofString "__firstlineno__")), (.str (PySem.Str.ofString "__firstlineno__") 451), (.int (37) 450)⟩, ⟨(hashStr w (PySem.Str.ofString "__static_attributes__")), (.str (PySem.Str.ofString "__static_attributes__") 452), (.ref 212)⟩] 4), #[]⟩),
  (208, ⟨(.type "tuple"), none, (.seq #[] 0), #[]⟩),
  (209, ⟨.none, none, (.fields #[]), #[]⟩),
  (210, ⟨(.type "code"), none, (.fields #[(.str (PySem.Str.ofString "TooGreat") 442), (.str (PySem.Str.ofString "TooGreat") 443), (.str (PySem.Str.ofString "/claim/cut.py") 444), (.int (37) 0), (.int (0) 0), (.int (0) 0), (.int (0) 0), (.int (0) 0), (.ref 208), (.bool false), (.int (181) 0), (.ref 209), .none, .none, .none, .none, (.int (445) 0), (.int (37) 0), (.str (PySem.Str.ofString "/claim/cut.py") 446)]), #[]⟩),
  (211, ⟨(.type "frame"), none, .plain, #[(some (.ref 210)), (some (.ref 3)), (some (.ref 207)), none, (some (.str (PySem.Str.ofString "passkeep.errors") 194)), none, (some (.ref 0))]⟩),
  (212, ⟨(.type "tuple"), none, (.seq #[] 0), #[]⟩),
  (213, ⟨(.type "dict"), none, (.dict #[⟨(hashStr w (PySem.Str.ofString "__module__")), (.str (PySem.Str.ofString "__module__") 447), (.str (PySem.Str.ofString "passkeep.errors") 194)⟩, ⟨(hashStr w (PySem.Str.ofString "__firstlineno__")), (.str (PySem.Str.ofString "__firstlineno__") 451), (.int (37) 450)⟩, ⟨(hashStr w (PySem.Str.ofString "__static_attributes__")), (.str (PySem.Str.ofString "__static_attributes__") 452), (.ref 212)⟩, ⟨(hashStr w (PySem.Str.ofString "__doc__")), (.str (PySem.Str.ofString "__doc__") 453), .none⟩] 2), #[]⟩),
  (214, ⟨(.type "type"), none, (.cls ⟨(PySem.Str.ofString "TooGreat"), [(.ref 31)], [(.ref 214), (.ref 31), (.type "ValueError"), (.type "Exception"), (.type "BaseException"), (.type "object")], 213, (PySem.Str.ofString "TooGreat"), true, [], [], false, none, false⟩), #[(some (.ref 205)), none, (some (.str (PySem.Str.ofString "TooGreat") 440)), (some (.str (PySem.Str.ofString "TooGreat") 448)), (some (.builtin "ValueError.__new__")), (some (.bool true))]⟩),
  (215, ⟨(.type "super"), none, (.fields #[(.ref 214), (.ref 214), (.ref 214)]), #[]⟩),
  (216, ⟨(.type "builtin_function_or_method"), none, (.fields #[(.builtin "object.__init_subclass__"), (.ref 214)]), #[]⟩),
  (217, ⟨(.type "tuple"), none, (.seq #[(.ref 31)] 0), #[]⟩),
  (218, ⟨(.type "builtin_function_or_method"), none, (.fields #[(.builtin "type.__prepare__"), (.type "type")]), #[]⟩),
  (219, ⟨(.type "dict"), none, (.dict #[⟨(hashStr w (PySem.Str.ofString "__module__")), (.str (PySem.Str.ofString "__module__") 463), (.str (PySem.Str.ofString "passkeep.errors") 194)⟩, ⟨(hashStr w (PySem.Str.ofString "__qualname__")), (.str (PySem.Str.ofString "__qualname__") 465), (.str (PySem.Str.ofString "Empty") 464)⟩, ⟨(hashStr w (PySem.Str.ofString "__firstlineno__")), (.str (PySem.Str.ofString "__firstlineno__") 467), (.int (39) 466)⟩, ⟨(hashStr w (PySem.Str.ofString "__static_attributes__")), (.str (PySem.Str.ofString "__static_attributes__") 468), (.ref 224)⟩] 4), #[]⟩),
  (220, ⟨(.type "tuple"), none, (.seq #[] 0), #[]⟩),
  (221, ⟨.none, none, (.fields #[]), #[]⟩),
  (222, ⟨(.type "code"), none, (.fields #[(.str (PySem.Str.ofString "Empty") 458), (.str (PySem.Str.ofString "Empty") 459), (.str (PySem.Str.ofString "/claim/cut.py") 460), (.int (39) 0), (.int (0) 0), (.int (0) 0), (.int (0) 0), (.int (0) 0), (.ref 220), (.bool false), (.int (181) 0), (.ref 221), .none, .none, .none, .none, (.int (461) 0), (.int (39) 0), (.str (PySem.Str.ofString "/claim/cut.py") 462)]), #[]⟩),
  (223, ⟨(.type "frame"), none, .plain, #[(some (.ref 222)), (some (.ref 3)), (some (.ref 219)), none, (some (.str (PySem.Str.ofString "passkeep.errors") 194)), none, (some (.ref 0))]⟩),
  (224, ⟨(.type "tuple"), none, (.seq #[] 0), #[]⟩),
  (225, ⟨(.type "dict"), none, (.dict #[⟨(hashStr w (PySem.Str.ofString "__module__")), (.str (PySem.Str.ofString "__module__") 463), (.str (PySem.Str.ofString "passkeep.errors") 194)⟩, ⟨(hashStr w (PySem.Str.ofString "__firstlineno__")), (.str (PySem.Str.ofString "__firstlineno__") 467), (.int (39) 466)⟩, ⟨(hashStr w (PySem.Str.ofString "__static_attributes__")), (.str (PySem.Str.ofString "__static_attributes__") 468), (.ref 224)⟩, ⟨(hashStr w (PySem.Str.ofString "__doc__")), (.str (PySem.Str.ofString "__doc__") 469), .none⟩] 2), #[]⟩),
  (226, ⟨(.type "type"), none, (.cls ⟨(PySem.Str.ofString "Empty"), [(.ref 31)], [(.ref 226), (.ref 31), (.type "ValueError"), (.type "Exception"), (.type "BaseException"), (.type "object")], 225, (PySem.Str.ofString "Empty"), true, [], [], false, none, false⟩), #[(some (.ref 217)), none, (some (.str (PySem.Str.ofString "Empty") 456)), (some (.str (PySem.Str.ofString "Empty") 464)), (some (.builtin "ValueError.__new__")), (some (.bool true))]⟩),
  (227, ⟨(.type "super"), none, (.fields #[(.ref 226), (.ref 226), (.ref 226)]), #[]⟩),
  (228, ⟨(.type "builtin_function_or_method"), none, (.fields #[(.builtin "object.__init_subclass__"), (.ref 226)]), #[]⟩),
  (229, ⟨(.type "tuple"), none, (.seq #[(.ref 31)] 0), #[]⟩),
  (230, ⟨(.type "builtin_function_or_method"), none, (.fields #[(.builtin "type.__prepare__"), (.type "type")]), #[]⟩),
  (231, ⟨(.type "dict"), none, (.dict #[⟨(hashStr w (PySem.Str.ofString "__module__")), (.str (PySem.Str.ofString "__module__") 479), (.str (PySem.Str.ofString "passkeep.errors") 194)⟩, ⟨(hashStr w (PySem.Str.ofString "__qualname__")), (.str (PySem.Str.ofString "__qualname__") 481), (.str (PySem.Str.ofString "Full") 480)⟩, ⟨(hashStr w (PySem.Str.ofString "__firstlineno__")), (.str (PySem.Str.ofString "__firstlineno__") 483), (.int (41) 482)⟩, ⟨(hashStr w (PySem.Str.ofString "__static_attributes__")), (.str (PySem.Str.ofString "__static_attributes__") 484), (.ref 236)⟩] 4), #[]⟩),
  (232, ⟨(.type "tuple"), none, (.seq #[] 0), #[]⟩),
  (233, ⟨.none, none, (.fields #[]), #[]⟩),
  (234, ⟨(.type "code"), none, (.fields #[(.str (PySem.Str.ofString "Full") 474), (.str (PySem.Str.ofString "Full") 475), (.str (PySem.Str.ofString "/claim/cut.py") 476), (.int (41) 0), (.int (0) 0), (.int (0) 0), (.int (0) 0), (.int (0) 0), (.ref 232), (.bool false), (.int (181) 0), (.ref 233), .none, .none, .none, .none, (.int (477) 0), (.int (41) 0), (.str (PySem.Str.ofString "/claim/cut.py") 478)]), #[]⟩),
  (235, ⟨(.type "frame"), none, .plain, #[(some (.ref 234)), (some (.ref 3)), (some (.ref 231)), none, (some (.str (PySem.Str.ofString "passkeep.errors") 194)), none, (some (.ref 0))]⟩),
  (236, ⟨(.type "tuple"), none, (.seq #[] 0), #[]⟩),
  (237, ⟨(.type "dict"), none, (.dict #[⟨(hashStr w (PySem.Str.ofString "__module__")), (.str (PySem.Str.ofString "__module__") 479), (.str (PySem.Str.ofString "passkeep.errors") 194)⟩, ⟨(hashStr w (PySem.Str.ofString "__firstlineno__")), (.str (PySem.Str.ofString "__firstlineno__") 483), (.int (41) 482)⟩, ⟨(hashStr w (PySem.Str.ofString "__static_attributes__")), (.str (PySem.Str.ofString "__static_attributes__") 484), (.ref 236)⟩, ⟨(hashStr w (PySem.Str.ofString "__doc__")), (.str (PySem.Str.ofString "__doc__") 485), .none⟩] 2), #[]⟩),
  (238, ⟨(.type "type"), none, (.cls ⟨(PySem.Str.ofString "Full"), [(.ref 31)], [(.ref 238), (.ref 31), (.type "ValueError"), (.type "Exception"), (.type "BaseException"), (.type "object")], 237, (PySem.Str.ofString "Full"), true, [], [], false, none, false⟩), #[(some (.ref 229)), none, (some (.str (PySem.Str.ofString "Full") 472)), (some (.str (PySem.Str.ofString "Full") 480)), (some (.builtin "ValueError.__new__")), (some (.bool true))]⟩),
  (239, ⟨(.type "super"), none, (.fields #[(.ref 238), (.ref 238), (.ref 238)]), #[]⟩),
  (240, ⟨(.type "builtin_function_or_method"), none, (.fields #[(.builtin "object.__init_subclass__"), (.ref 238)]), #[]⟩),
  (241, ⟨(.type "tuple"), none, (.seq #[] 0), #[]⟩),
  (242, ⟨.none, none, (.fields #[]), #[]⟩),
  (243, ⟨.none, none, (.func ⟨(PySem.Str.ofString "is_name"), (PySem.Str.ofString "is_name"), defArgs s_is_name, .stmts (defBody s_is_name), defScope s_is_name, 0, [], .none, .none, .none, .none, none, .none, .none, 0⟩), #[]⟩),
  (244, ⟨(.type "code"), none, (.fields #[(.str (PySem.Str.ofString "is_name") 492), (.str (PySem.Str.ofString "is_name") 493), (.str (PySem.Str.ofString "/claim/cut.py") 494), (.int (45) 0), (.int (1) 0), (.int (0) 0), (.int (0) 0), (.int (3) 0), (.ref 241), (.bool true), (.int (181) 0), (.ref 242), .none, .none, .none, (.ref 243), (.int (495) 0), (.int (45) 0), (.str (PySem.Str.ofString "/claim/cut.py") 496)]), #[]⟩),
  (245, ⟨(.type "function"), none, (.func ⟨(PySem.Str.ofString "is_name"), (PySem.Str.ofString "is_name"), defArgs s_is_name, .stmts (defBody s_is_name), defScope s_is_name, 3, [], .none, .none, .none, (.str (PySem.Str.ofString "passkeep.rights") 488), none, (.ref 244), .none, 0⟩), #[]⟩),
  (246, ⟨(.type "tuple"), none, (.seq #[] 0), #[]⟩),
  (247, ⟨(.type "builtin_function_or_method"), none, (.fields #[(.builtin "type.__prepare__"), (.type "type")]), #[]⟩),
  (248, ⟨(.type "dict"), none, (.dict #[⟨(hashStr w (PySem.Str.ofString "__module__")), (.str (PySem.Str.ofString "__module__") 511), (.str (PySem.Str.ofString "passkeep.tasks") 498)⟩, ⟨(hashStr w (PySem.Str.ofString "__qualname__")), (.str (PySem.Str.ofString "__qualname__") 513), (.str (PySem.Str.ofString "Task") 512)⟩, ⟨(hashStr w (PySem.Str.ofString "__firstlineno__")), (.str (PySem.Str.ofString "__firstlineno__") 515), (.int (52) 514)⟩, ⟨(hashStr w (PySem.Str.ofString "__init__")), (.str (PySem.Str.ofString "__init__") 523), (.ref 259)⟩, ⟨(hashStr w (PySem.Str.ofString "__static_attributes__")), (.str (PySem.Str.ofString "__static_attributes__") 527), (.ref 260)⟩] 5), #[]⟩),
  (249, ⟨(.type "tuple"), none, (.seq #[] 0), #[]⟩),
  (250, ⟨.none, none, (.fields #[(.int (54) 0), (.int (4) 0), (.ref 258)]), #[]⟩),
  (251, ⟨(.type "code"), none, (.fields #[(.str (PySem.Str.ofString "Task") 506), (.str (PySem.Str.ofString "Task") 507), (.str (PySem.Str.ofString "/claim/cut.py") 508), (.int (52) 0), (.int (0) 0), (.int (0) 0), (.int (0) 0), (.int (0) 0), (.ref 249), (.bool false), (.int (181) 0), (.ref 250), .none, .none, .none, .none, (.int (509) 0), (.int (52) 0), (.str (PySem.Str.ofString "/claim/cut.py") 510)]), #[]⟩),
  (252, ⟨(.type "frame"), none, .plain, #[(some (.ref 251)), (some (.ref 3)), (some (.ref 248)), none, (some (.str (PySem.Str.ofString "passkeep.tasks") 498)), none, (some (.ref 0))]⟩),
  (253, ⟨(.type "tuple"), none, (.seq #[] 0), #[]⟩),
  (254, ⟨.none, none, (.fields #[]), #[]⟩),
  (255, ⟨(.type "tuple"), none, (.seq #[(.str (PySem.Str.ofString "self") 519), (.str (PySem.Str.ofString "maker") 520)] 0), #[]⟩),
  (256, ⟨(.type "tuple"), none, (.seq #[] 0), #[]⟩),
  (257, ⟨.none, none, (.func ⟨(PySem.Str.ofString "__init__"), (PySem.Str.ofString "Task.__init__"), defArgs s_Task___init__, .stmts (defBody s_Task___init__), defScope s_Task___init__, 0, [], .none, .none, .none, .none, none, .none, .none, 0⟩), #[]⟩),
  (258, ⟨(.type "code"), none, (.fields #[(.str (PySem.Str.ofString "__init__") 516), (.str (PySem.Str.ofString "Task.__init__") 517), (.str (PySem.Str.ofString "/claim/cut.py") 518), (.int (54) 0), (.int (2) 0), (.int (0) 0), (.int (0) 0), (.int (3) 0), (.ref 253), (.bool true), (.int (181) 0), (.ref 254), .none, (.ref 255), (.ref 256), (.ref 257), (.int (521) 0), (.int (54) 0), (.str (PySem.Str.ofString "/claim/cut.py") 522)]), #[]⟩),
  (259, ⟨(.type "function"), none, (.func ⟨(PySem.Str.ofString "__init__"), (PySem.Str.ofString "Task.__init__"), defArgs s_Task___init__, .stmts (defBody s_Task___init__), defScope s_Task___init__, 3, [], .none, .none, .none, (.str (PySem.Str.ofString "passkeep.tasks") 498), none, (.ref 258), .none, 0⟩), #[]⟩),
  (260, ⟨(.type "tuple"), none, (.seq #[(.str (PySem.Str.ofString "maker") 524), (.str (PySem.Str.ofString "rows") 525), (.str (PySem.Str.ofString "runs") 526)] 0), #[]⟩),
  (261, ⟨(.type "dict"), none, (.dict #[⟨(hashStr w (PySem.Str.ofString "__module__")), (.str (PySem.Str.ofString "__module__") 511), (.str (PySem.Str.ofString "passkeep.tasks") 498)⟩, ⟨(hashStr w (PySem.Str.ofString "__firstlineno__")), (.str (PySem.Str.ofString "__firstlineno__") 515), (.int (52) 514)⟩, ⟨(hashStr w (PySem.Str.ofString "__init__")), (.str (PySem.Str.ofString "__init__") 523), (.ref 259)⟩, ⟨(hashStr w (PySem.Str.ofString "__static_attributes__")), (.str (PySem.Str.ofString "__static_attributes__") 527), (.ref 260)⟩, ⟨(hashStr w (PySem.Str.ofString "__dict__")), (.str (PySem.Str.ofString "__dict__") 529), (.ref 263)⟩, ⟨(hashStr w (PySem.Str.ofString "__weakref__")), (.str (PySem.Str.ofString "__weakref__") 531), (.ref 264)⟩, ⟨(hashStr w (PySem.Str.ofString "__doc__")), (.str (PySem.Str.ofString "__doc__") 532), .none⟩] 4), #[]⟩),
  (262, ⟨(.type "type"), none, (.cls ⟨(PySem.Str.ofString "Task"), [(.type "object")], [(.ref 262), (.type "object")], 261, (PySem.Str.ofString "Task"), true, [], [], false, none, false⟩), #[none, none, (some (.str (PySem.Str.ofString "Task") 504)), (some (.str (PySem.Str.ofString "Task") 512)), (some (.builtin "object.__new__")), (some (.bool true))]⟩),
  (263, ⟨(.type "getset_descriptor"), none, (.fields #[(.str (PySem.Str.ofString "__dict__") 528), (.ref 262), (.builtin "function.__dict__"), (.builtin "function.__dict__#set")]), #[]⟩),
  (264, ⟨(.type "getset_descriptor"), none, (.fields #[(.str (PySem.Str.ofString "__weakref__") 530), (.ref 262), (.builtin "ExceptionGroup.__weakref__"), .none]), #[]⟩),
  (265, ⟨(.type "super"), none, (.fields #[(.ref 262), (.ref 262), (.ref 262)]), #[]⟩),
  (266, ⟨(.type "builtin_function_or_method"), none, (.fields #[(.builtin "object.__init_subclass__"), (.ref 262)]), #[]⟩),
  (267, ⟨(.type "tuple"), none, (.seq #[] 0), #[]⟩),
  (268, ⟨(.type "builtin_function_or_method"), none, (.fields #[(.builtin "type.__prepare__"), (.type "type")]), #[]⟩),
  (269, ⟨(.type "dict"), none, (.dict #[⟨(hashStr w (PySem.Str.ofString "__module__")), (.str (PySem.Str.ofString "__module__") 542), (.str (PySem.Str.ofString "passkeep.tasks") 498)⟩, ⟨(hashStr w (PySem.Str.ofString "__qualname__")), (.str (PySem.Str.ofString "__qualname__") 544), (.str (PySem.Str.ofString "Tasks") 543)⟩, ⟨(hashStr w (PySem.Str.ofString "__firstlineno__")), (.str (PySem.Str.ofString "__firstlineno__") 546), (.int (58) 545)⟩, ⟨(hashStr w (PySem.Str.ofString "__init__")), (.str (PySem.Str.ofString "__init__") 553), (.ref 280)⟩, ⟨(hashStr w (PySem.Str.ofString "running_one")), (.str (PySem.Str.ofString "running_one") 561), (.ref 287)⟩, ⟨(hashStr w (PySem.Str.ofString "need")), (.str (PySem.Str.ofString "need") 569), (.ref 294)⟩, ⟨(hashStr w (PySem.Str.ofString "added")), (.str (PySem.Str.ofString "added") 578), (.ref 301)⟩, ⟨(hashStr w (PySem.Str.ofString "running")), (.str (PySem.Str.ofString "running") 584), (.ref 306)⟩, ⟨(hashStr w (PySem.Str.ofString "names")), (.str (PySem.Str.ofString "names") 591), (.ref 313)⟩, ⟨(hashStr w (PySem.Str.ofString "put")), (.str (PySem.Str.ofString "put") 602), (.ref 320)⟩, ⟨(hashStr w (PySem.Str.ofString "at")), (.str (PySem.Str.ofString "at") 612), (.ref 327)⟩, ⟨(hashStr w (PySem.Str.ofString "free")), (.str (PySem.Str.ofString "free") 620), (.ref 334)⟩, ⟨(hashStr w (PySem.Str.ofString "slots")), (.str (PySem.Str.ofString "slots") 626), (.ref 339)⟩, ⟨(hashStr w (PySem.Str.ofString "taken_out")), (.str (PySem.Str.ofString "taken_out") 637), (.ref 346)⟩, ⟨(hashStr w (PySem.Str.ofString "made_by")), (.str (PySem.Str.ofString "made_by") 645), (.ref 353)⟩, ⟨(hashStr w (PySem.Str.ofString "stopped")), (.str (PySem.Str.ofString "stopped") 653), (.ref 360)⟩, ⟨(hashStr w (PySem.Str.ofString "__static_attributes__")), (.str (PySem.Str.ofString "__static_attributes__") 655), (.ref 361)⟩] 17), #[]⟩),
  (270, ⟨(.type "tuple"), none, (.seq #[] 0), #[]⟩),
  (271, ⟨.none, none, (.fields #[(.int (60) 0), (.int (4) 0), (.ref 279), (.int (63) 0), (.int (4) 0), (.ref 286), (.int (68) 0), (.int (4) 0), (.ref 293), (.int (71) 0), (.int (4) 0), (.ref 300), (.int (82) 0), (.int (4) 0), (.ref 305), (.int (85) 0), (.int (4) 0), (.ref 312), (.int (88) 0), (.int (4) 0), (.ref 319), (.int (96) 0), (.int (4) 0), (.ref 326), (.int (102) 0), (.int (4) 0), (.ref 333), (.int (105) 0), (.int (4) 0), (.ref 338), (.int (108) 0), (.int (4) 0), (.ref 345), (.int (117) 0), (.int (4) 0), (.ref 352), (.int (120) 0), (.int (4) 0), (.ref 359)]), #[]⟩),
  (272, ⟨(.type "code"), none, (.fields #[(.str (PySem.Str.ofString "Tasks") 537), (.str (PySem.Str.ofString "Tasks") 538), (.str (PySem.Str.ofString "/claim/cut.py") 539), (.int (58) 0), (.int (0) 0), (.int (0) 0), (.int (0) 0), (.int (0) 0), (.ref 270), (.bool false), (.int (181) 0), (.ref 271), .none, .none, .none, .none, (.int (540) 0), (.int (58) 0), (.str (PySem.Str.ofString "/claim/cut.py") 541)]), #[]⟩),
  (273, ⟨(.type "frame"), none, .plain, #[(some (.ref 272)), (some (.ref 3)), (some (.ref 269)), none, (some (.str (PySem.Str.ofString "passkeep.tasks") 498)), none, (some (.ref 0))]⟩),
  (274, ⟨(.type "tuple"), none, (.seq #[] 0), #[]⟩),
  (275, ⟨.none, none, (.fields #[]), #[]⟩),
  (276, ⟨(.type "tuple"), none, (.seq #[(.str (PySem.Str.ofString "self") 550)] 0), #[]⟩),
  (277, ⟨(.type "tuple"), none, (.seq #[] 0), #[]⟩),
  (278, ⟨.none, none, (.func ⟨(PySem.Str.ofString "__init__"), (PySem.Str.ofString "Tasks.__init__"), defArgs s_Tasks___init__, .stmts (defBody s_Tasks___init__), defScope s_Tasks___init__, 0, [], .none, .none, .none, .none, none, .none, .none, 0⟩), #[]⟩),
  (279, ⟨(.type "code"), none, (.fields #[(.str (PySem.Str.ofString "__init__") 547), (.str (PySem.Str.ofString "Tasks.__init__") 548), (.str (PySem.Str.ofString "/claim/cut.py") 549), (.int (60) 0), (.int (1) 0), (.int (0) 0), (.int (0) 0), (.int (3) 0), (.ref 274), (.bool true), (.int (181) 0), (.ref 275), .none, (.ref 276), (.ref 277), (.ref 278), (.int (551) 0), (.int (60) 0), (.str (PySem.Str.ofString "/claim/cut.py") 552)]), #[]⟩),
  (280, ⟨(.type "function"), none, (.func ⟨(PySem.Str.ofString "__init__"), (PySem.Str.ofString "Tasks.__init__"), defArgs s_Tasks___init__, .stmts (defBody s_Tasks___init__), defScope s_Tasks___init__, 3, [], .none, .none, .none, (.str (PySem.Str.ofString "passkeep.tasks") 498), none, (.ref 279), .none, 0⟩), #[]⟩),
  (281, ⟨(.type "tuple"), none, (.seq #[] 0), #[]⟩),
  (282, ⟨.none, none, (.fields #[]), #[]⟩),
  (283, ⟨(.type "tuple"), none, (.seq #[(.str (PySem.Str.ofString "self") 557), (.str (PySem.Str.ofString "name") 558)] 0), #[]⟩),
  (284, ⟨(.type "tuple"), none, (.seq #[] 0), #[]⟩),
  (285, ⟨.none, none, (.func ⟨(PySem.Str.ofString "running_one"), (PySem.Str.ofString "Tasks.running_one"), defArgs s_Tasks_running_one, .stmts (defBody s_Tasks_running_one), defScope s_Tasks_running_one, 0, [], .none, .none, .none, .none, none, .none, .none, 0⟩), #[]⟩),
  (286, ⟨(.type "code"), none, (.fields #[(.str (PySem.Str.ofString "running_one") 554), (.str (PySem.Str.ofString "Tasks.running_one") 555), (.str (PySem.Str.ofString "/claim/cut.py") 556), (.int (63) 0), (.int (2) 0), (.int (0) 0), (.int (0) 0), (.int (3) 0), (.ref 281), (.bool true), (.int (181) 0), (.ref 282), .none, (.ref 283), (.ref 284), (.ref 285), (.int (559) 0), (.int (63) 0), (.str (PySem.Str.ofString "/claim/cut.py") 560)]), #[]⟩),
  (287, ⟨(.type "function"), none, (.func ⟨(PySem.Str.ofString "running_one"), (PySem.Str.ofString "Tasks.running_one"), defArgs s_Tasks_running_one, .stmts (defBody s_Tasks_running_one), defScope s_Tasks_running_one, 3, [], .none, .none, .none, (.str (PySem.Str.ofString "passkeep.tasks") 498), none, (.ref 286), .none, 0⟩), #[]⟩),
  (288, ⟨(.type "tuple"), none, (.seq #[] 0), #[]⟩),
  (289, ⟨.none, none, (.fields #[]), #[]⟩),
  (290, ⟨(.type "tuple"), none, (.seq #[(.str (PySem.Str.ofString "self") 565), (.str (PySem.Str.ofString "name") 566)] 0), #[]⟩),
  (291, ⟨(.type "tuple"), none, (.seq #[] 0), #[]⟩),
  (292, ⟨.none, none, (.func ⟨(PySem.Str.ofString "need"), (PySem.Str.ofString "Tasks.need"), defArgs s_Tasks_need, .stmts (defBody s_Tasks_need), defScope s_Tasks_need, 0, [], .none, .none, .none, .none, none, .none, .none, 0⟩), #[]⟩),
  (293, ⟨(.type "code"), none, (.fields #[(.str (PySem.Str.ofString "need") 562), (.str (PySem.Str.ofString "Tasks.need") 563), (.str (PySem.Str.ofString "/claim/cut.py") 564), (.int (68) 0), (.int (2) 0), (.int (0) 0), (.int (0) 0), (.int (3) 0), (.ref 288), (.bool true), (.int (181) 0), (.ref 289), .none, (.ref 290), (.ref 291), (.ref 292), (.int (567) 0), (.int (68) 0), (.str (PySem.Str.ofString "/claim/cut.py") 568)]), #[]⟩),
  (294, ⟨(.type "function"), none, (.func ⟨(PySem.Str.ofString "need"), (PySem.Str.ofString "Tasks.need"), defArgs s_Tasks_need, .stmts (defBody s_Tasks_need), defScope s_Tasks_need, 3, [], .none, .none, .none, (.str (PySem.Str.ofString "passkeep.tasks") 498), none, (.ref 293), .none, 0⟩), #[]⟩),
  (295, ⟨(.type "tuple"), none, (.seq #[] 0), #[]⟩),
  (296, ⟨.none, none, (.fields #[]), #[]⟩),
  (297, ⟨(.type "tuple"), none, (.seq #[(.str (PySem.Str.ofString "self") 573), (.str (PySem.Str.ofString "name") 574), (.str (PySem.Str.ofString "maker") 575)] 0), #[]⟩),
  (298, ⟨(.type "tuple"), none, (.seq #[] 0), #[]⟩),
  (299, ⟨.none, none, (.func ⟨(PySem.Str.ofString "added"), (PySem.Str.ofString "Tasks.added"), defArgs s_Tasks_added, .stmts (defBody s_Tasks_added), defScope s_Tasks_added, 0, [], .none, .none, .none, .none, none, .none, .none, 0⟩), #[]⟩),
  (300, ⟨(.type "code"), none, (.fields #[(.str (PySem.Str.ofString "added") 570), (.str (PySem.Str.ofString "Tasks.added") 571), (.str (PySem.Str.ofString "/claim/cut.py") 572), (.int (71) 0), (.int (3) 0), (.int (0) 0), (.int (0) 0), (.int (3) 0), (.ref 295), (.bool true), (.int (181) 0), (.ref 296), .none, (.ref 297), (.ref 298), (.ref 299), (.int (576) 0), (.int (71) 0), (.str (PySem.Str.ofString "/claim/cut.py") 577)]), #[]⟩),
  (301, ⟨(.type "function"), none, (.func ⟨(PySem.Str.ofString "added"), (PySem.Str.ofString "Tasks.added"), defArgs s_Tasks_added, .stmts (defBody s_Tasks_added), defScope s_Tasks_added, 3, [], .none, .none, .none, (.str (PySem.Str.ofString "passkeep.tasks") 498), none, (.ref 300), .none, 0⟩), #[]⟩),
  (302, ⟨(.type "tuple"), none, (.seq #[] 0), #[]⟩),
  (303, ⟨.none, none, (.fields #[]), #[]⟩),
  (304, ⟨.none, none, (.func ⟨(PySem.Str.ofString "running"), (PySem.Str.ofString "Tasks.running"), defArgs s_Tasks_running, .stmts (defBody s_Tasks_running), defScope s_Tasks_running, 0, [], .none, .none, .none, .none, none, .none, .none, 0⟩), #[]⟩),
  (305, ⟨(.type "code"), none, (.fields #[(.str (PySem.Str.ofString "running") 579), (.str (PySem.Str.ofString "Tasks.running") 580), (.str (PySem.Str.ofString "/claim/cut.py") 581), (.int (82) 0), (.int (1) 0), (.int (0) 0), (.int (0) 0), (.int (3) 0), (.ref 302), (.bool true), (.int (181) 0), (.ref 303), .none, .none, .none, (.ref 304), (.int (582) 0), (.int (82) 0), (.str (PySem.Str.ofString "/claim/cut.py") 583)]), #[]⟩),
  (306, ⟨(.type "function"), none, (.func ⟨(PySem.Str.ofString "running"), (PySem.Str.ofString "Tasks.running"), defArgs s_Tasks_running, .stmts (defBody s_Tasks_running), defScope s_Tasks_running, 3, [], .none, .none, .none, (.str (PySem.Str.ofString "passkeep.tasks") 498), none, (.ref 305), .none, 0⟩), #[]⟩),
  (307, ⟨(.type "tuple"), none, (.seq #[] 0), #[]⟩),
  (308, ⟨.none, none, (.fields #[]), #[]⟩),
  (309, ⟨(.type "tuple"), none, (.seq #[(.str (PySem.Str.ofString "self") 588)] 0), #[]⟩),
  (310, ⟨(.type "tuple"), none, (.seq #[] 0), #[]⟩),
  (311, ⟨.none, none, (.func ⟨(PySem.Str.ofString "names"), (PySem.Str.ofString "Tasks.names"), defArgs s_Tasks_names, .stmts (defBody s_Tasks_names), defScope s_Tasks_names, 0, [], .none, .none, .none, .none, none, .none, .none, 0⟩), #[]⟩),
  (312, ⟨(.type "code"), none, (.fields #[(.str (PySem.Str.ofString "names") 585), (.str (PySem.Str.ofString "Tasks.names") 586), (.str (PySem.Str.ofString "/claim/cut.py") 587), (.int (85) 0), (.int (1) 0), (.int (0) 0), (.int (0) 0), (.int (3) 0), (.ref 307), (.bool true), (.int (181) 0), (.ref 308), .none, (.ref 309), (.ref 310), (.ref 311), (.int (589) 0), (.int (85) 0), (.str (PySem.Str.ofString "/claim/cut.py") 590)]), #[]⟩),
  (313, ⟨(.type "function"), none, (.func ⟨(PySem.Str.ofString "names"), (PySem.Str.ofString "Tasks.names"), defArgs s_Tasks_names, .stmts (defBody s_Tasks_names), defScope s_Tasks_names, 3, [], .none, .none, .none, (.str (PySem.Str.ofString "passkeep.tasks") 498), none, (.ref 312), .none, 0⟩), #[]⟩),
  (314, ⟨(.type "tuple"), none, (.seq #[] 0), #[]⟩),
  (315, ⟨.none, none, (.fields #[]), #[]⟩),
  (316, ⟨(.type "tuple"), none, (.seq #[(.str (PySem.Str.ofString "self") 595), (.str (PySem.Str.ofString "name") 596), (.str (PySem.Str.ofString "number") 597), (.str (PySem.Str.ofString "rows") 598), (.str (PySem.Str.ofString "slot") 599)] 0), #[]⟩),
  (317, ⟨(.type "tuple"), none, (.seq #[] 0), #[]⟩),
  (318, ⟨.none, none, (.func ⟨(PySem.Str.ofString "put"), (PySem.Str.ofString "Tasks.put"), defArgs s_Tasks_put, .stmts (defBody s_Tasks_put), defScope s_Tasks_put, 0, [], .none, .none, .none, .none, none, .none, .none, 0⟩), #[]⟩),
  (319, ⟨(.type "code"), none, (.fields #[(.str (PySem.Str.ofString "put") 592), (.str (PySem.Str.ofString "Tasks.put") 593), (.str (PySem.Str.ofString "/claim/cut.py") 594), (.int (88) 0), (.int (3) 0), (.int (0) 0), (.int (0) 0), (.int (3) 0), (.ref 314), (.bool true), (.int (181) 0), (.ref 315), .none, (.ref 316), (.ref 317), (.ref 318), (.int (600) 0), (.int (88) 0), (.str (PySem.Str.ofString "/claim/cut.py") 601)]), #[]⟩),
  (320, ⟨(.type "function"), none, (.func ⟨(PySem.Str.ofString "put"), (PySem.Str.ofString "Tasks.put"), defArgs s_Tasks_put, .stmts (defBody s_Tasks_put), defScope s_Tasks_put, 3, [], .none, .none, .none, (.str (PySem.Str.ofString "passkeep.tasks") 498), none, (.ref 319), .none, 0⟩), #[]⟩),
  (321, ⟨(.type "tuple"), none, (.seq #[] 0), #[]⟩),
  (322, ⟨.none, none, (.fields #[]), #[]⟩),
  (323, ⟨(.type "tuple"), none, (.seq #[(.str (PySem.Str.ofString "self") 606), (.str (PySem.Str.ofString "name") 607), (.str (PySem.Str.ofString "slot") 608), (.str (PySem.Str.ofString "rows") 609)] 0), #[]⟩),
  (324, ⟨(.type "tuple"), none, (.seq #[] 0), #[]⟩),
  (325, ⟨.none, none, (.func ⟨(PySem.Str.ofString "at"), (PySem.Str.ofString "Tasks.at"), defArgs s_Tasks_at, .stmts (defBody s_Tasks_at), defScope s_Tasks_at, 0, [], .none, .none, .none, .none, none, .none, .none, 0⟩), #[]⟩),
  (326, ⟨(.type "code"), none, (.fields #[(.str (PySem.Str.ofString "at") 603), (.str (PySem.Str.ofString "Tasks.at") 604), (.str (PySem.Str.ofString "/claim/cut.py") 605), (.int (96) 0), (.int (3) 0), (.int (0) 0), (.int (0) 0), (.int (3) 0), (.ref 321), (.bool true), (.int (181) 0), (.ref 322), .none, (.ref 323), (.ref 324), (.ref 325), (.int (610) 0), (.int (96) 0), (.str (PySem.Str.ofString "/claim/cut.py") 611)]), #[]⟩),
  (327, ⟨(.type "function"), none, (.func ⟨(PySem.Str.ofString "at"), (PySem.Str.ofString "Tasks.at"), defArgs s_Tasks_at, .stmts (defBody s_Tasks_at), defScope s_Tasks_at, 3, [], .none, .none, .none, (.str (PySem.Str.ofString "passkeep.tasks") 498), none, (.ref 326), .none, 0⟩), #[]⟩),
  (328, ⟨(.type "tuple"), none, (.seq #[] 0), #[]⟩),
  (329, ⟨.none, none, (.fields #[]), #[]⟩),
  (330, ⟨(.type "tuple"), none, (.seq #[(.str (PySem.Str.ofString "self") 616), (.str (PySem.Str.ofString "name") 617)] 0), #[]⟩),
  (331, ⟨(.type "tuple"), none, (.seq #[] 0), #[]⟩),
  (332, ⟨.none, none, (.func ⟨(PySem.Str.ofString "free"), (PySem.Str.ofString "Tasks.free"), defArgs s_Tasks_free, .stmts (defBody s_Tasks_free), defScope s_Tasks_free, 0, [], .none, .none, .none, .none, none, .none, .none, 0⟩), #[]⟩),
  (333, ⟨(.type "code"), none, (.fields #[(.str (PySem.Str.ofString "free") 613), (.str (PySem.Str.ofString "Tasks.free") 614), (.str (PySem.Str.ofString "/claim/cut.py") 615), (.int (102) 0), (.int (2) 0), (.int (0) 0), (.int (0) 0), (.int (3) 0), (.ref 328), (.bool true), (.int (181) 0), (.ref 329), .none, (.ref 330), (.ref 331), (.ref 332), (.int (618) 0), (.int (102) 0), (.str (PySem.Str.ofString "/claim/cut.py") 619)]), #[]⟩),
  (334, ⟨(.type "function"), none, (.func ⟨(PySem.Str.ofString "free"), (PySem.Str.ofString "Tasks.free"), defArgs s_Tasks_free, .stmts (defBody s_Tasks_free), defScope s_Tasks_free, 3, [], .none, .none, .none, (.str (PySem.Str.ofString "passkeep.tasks") 498), none, (.ref 333), .none, 0⟩), #[]⟩),
  (335, ⟨(.type "tuple"), none, (.seq #[] 0), #[]⟩),
  (336, ⟨.none, none, (.fields #[]), #[]⟩),
  (337, ⟨.none, none, (.func ⟨(PySem.Str.ofString "slots"), (PySem.Str.ofString "Tasks.slots"), defArgs s_Tasks_slots, .stmts (defBody s_Tasks_slots), defScope s_Tasks_slots, 0, [], .none, .none, .none, .none, none, .none, .none, 0⟩), #[]⟩),
  (338, ⟨(.type "code"), none, (.fields #[(.str (PySem.Str.ofString "slots") 621), (.str (PySem.Str.ofString "Tasks.slots") 622), (.str (PySem.Str.ofString "/claim/cut.py") 623), (.int (105) 0), (.int (2) 0), (.int (0) 0), (.int (0) 0), (.int (3) 0), (.ref 335), (.bool true), (.int (181) 0), (.ref 336), .none, .none, .none, (.ref 337), (.int (624) 0), (.int (105) 0), (.str (PySem.Str.ofString "/claim/cut.py") 625)]), #[]⟩),
  (339, ⟨(.type "function"), none, (.func ⟨(PySem.Str.ofString "slots"), (PySem.Str.ofString "Tasks.slots"), defArgs s_Tasks_slots, .stmts (defBody s_Tasks_slots), defScope s_Tasks_slots, 3, [], .none, .none, .none, (.str (PySem.Str.ofString "passkeep.tasks") 498), none, (.ref 338), .none, 0⟩), #[]⟩),
  (340, ⟨(.type "tuple"), none, (.seq #[] 0), #[]⟩),
  (341, ⟨.none, none, (.fields #[]), #[]⟩),
  (342, ⟨(.type "tuple"), none, (.seq #[(.str (PySem.Str.ofString "self") 630), (.str (PySem.Str.ofString "number") 631), (.str (PySem.Str.ofString "many") 632), (.str (PySem.Str.ofString "task") 633), (.str (PySem.Str.ofString "slot") 634)] 0), #[]⟩),
  (343, ⟨(.type "tuple"), none, (.seq #[] 0), #[]⟩),
  (344, ⟨.none, none, (.func ⟨(PySem.Str.ofString "taken_out"), (PySem.Str.ofString "Tasks.taken_out"), defArgs s_Tasks_taken_out, .stmts (defBody s_Tasks_taken_out), defScope s_Tasks_taken_out, 0, [], .none, .none, .none, .none, none, .none, .none, 0⟩), #[]⟩),
  (345, ⟨(.type "code"), none, (.fields #[(.str (PySem.Str.ofString "taken_out") 627), (.str (PySem.Str.ofString "Tasks.taken_out") 628), (.str (PySem.Str.ofString "/claim/cut.py") 629), (.int (108) 0), (.int (2) 0), (.int (0) 0), (.int (0) 0), (.int (3) 0), (.ref 340), (.bool true), (.int (181) 0), (.ref 341), .none, (.ref 342), (.ref 343), (.ref 344), (.int (635) 0), (.int (108) 0), (.str (PySem.Str.ofString "/claim/cut.py") 636)]), #[]⟩),
  (346, ⟨(.type "function"), none, (.func ⟨(PySem.Str.ofString "taken_out"), (PySem.Str.ofString "Tasks.taken_out"), defArgs s_Tasks_taken_out, .stmts (defBody s_Tasks_taken_out), defScope s_Tasks_taken_out, 3, [], .none, .none, .none, (.str (PySem.Str.ofString "passkeep.tasks") 498), none, (.ref 345), .none, 0⟩), #[]⟩),
  (347, ⟨(.type "tuple"), none, (.seq #[] 0), #[]⟩),
  (348, ⟨.none, none, (.fields #[]), #[]⟩),
  (349, ⟨(.type "tuple"), none, (.seq #[(.str (PySem.Str.ofString "self") 641), (.str (PySem.Str.ofString "name") 642)] 0), #[]⟩),
  (350, ⟨(.type "tuple"), none, (.seq #[] 0), #[]⟩),
  (351, ⟨.none, none, (.func ⟨(PySem.Str.ofString "made_by"), (PySem.Str.ofString "Tasks.made_by"), defArgs s_Tasks_made_by, .stmts (defBody s_Tasks_made_by), defScope s_Tasks_made_by, 0, [], .none, .none, .none, .none, none, .none, .none, 0⟩), #[]⟩),
  (352, ⟨(.type "code"), none, (.fields #[(.str (PySem.Str.ofString "made_by") 638), (.str (PySem.Str.ofString "Tasks.made_by") 639), (.str (PySem.Str.ofString "/claim/cut.py") 640), (.int (117) 0), (.int (2) 0), (.int (0) 0), (.int (0) 0), (.int (3) 0), (.ref 347), (.bool true), (.int (181) 0), (.ref 348), .none, (.ref 349), (.ref 350), (.ref 351), (.int (643) 0), (.int (117) 0), (.str (PySem.Str.ofString "/claim/cut.py") 644)]), #[]⟩),
  (353, ⟨(.type "function"), none, (.func ⟨(PySem.Str.ofString "made_by"), (PySem.Str.ofString "Tasks.made_by"), defArgs s_Tasks_made_by, .stmts (defBody s_Tasks_made_by), defScope s_Tasks_made_by, 3, [], .none, .none, .none, (.str (PySem.Str.ofString "passkeep.tasks") 498), none, (.ref 352), .none, 0⟩), #[]⟩),
  (354, ⟨(.type "tuple"), none, (.seq #[] 0), #[]⟩),
  (355, ⟨.none, none, (.fields #[]), #[]⟩),
  (356, ⟨(.type "tuple"), none, (.seq #[(.str (PySem.Str.ofString "self") 649), (.str (PySem.Str.ofString "name") 650)] 0), #[]⟩),
  (357, ⟨(.type "tuple"), none, (.seq #[] 0), #[]⟩),
  (358, ⟨.none, none, (.func ⟨(PySem.Str.ofString "stopped"), (PySem.Str.ofString "Tasks.stopped"), defArgs s_Tasks_stopped, .stmts (defBody s_Tasks_stopped), defScope s_Tasks_stopped, 0, [], .none, .none, .none, .none, none, .none, .none, 0⟩), #[]⟩),
  (359, ⟨(.type "code"), none, (.fields #[(.str (PySem.Str.ofString "stopped") 646), (.str (PySem.Str.ofString "Tasks.stopped") 647), (.str (PySem.Str.ofString "/claim/cut.py") 648), (.int (120) 0), (.int (2) 0), (.int (0) 0), (.int (0) 0), (.int (3) 0), (.ref 354), (.bool true), (.int (181) 0), (.ref 355), .none, (.ref 356), (.ref 357), (.ref 358), (.int (651) 0), (.int (120) 0), (.str (PySem.Str.ofString "/claim/cut.py") 652)]), #[]⟩),
  (360, ⟨(.type "function"), none, (.func ⟨(PySem.Str.ofString "stopped"), (PySem.Str.ofString "Tasks.stopped"), defArgs s_Tasks_stopped, .stmts (defBody s_Tasks_stopped), defScope s_Tasks_stopped, 3, [], .none, .none, .none, (.str (PySem.Str.ofString "passkeep.tasks") 498), none, (.ref 359), .none, 0⟩), #[]⟩),
  (361, ⟨(.type "tuple"), none, (.seq #[(.str (PySem.Str.ofString "known") 654)] 0), #[]⟩),
  (362, ⟨(.type "dict"), none, (.dict #[⟨(hashStr w (PySem.Str.ofString "__module__")), (.str (PySem.Str.ofString "__module__") 542), (.str (PySem.Str.ofString "passkeep.tasks") 498)⟩, ⟨(hashStr w (PySem.Str.ofString "__firstlineno__")), (.str (PySem.Str.ofString "__firstlineno__") 546), (.int (58) 545)⟩, ⟨(hashStr w (PySem.Str.ofString "__init__")), (.str (PySem.Str.ofString "__init__") 553), (.ref 280)⟩, ⟨(hashStr w (PySem.Str.ofString "running_one")), (.str (PySem.Str.ofString "running_one") 561), (.ref 287)⟩, ⟨(hashStr w (PySem.Str.ofString "need")), (.str (PySem.Str.ofString "need") 569), (.ref 294)⟩, ⟨(hashStr w (PySem.Str.ofString "added")), (.str (PySem.Str.ofString "added") 578), (.ref 301)⟩, ⟨(hashStr w (PySem.Str.ofString "running")), (.str (PySem.Str.ofString "running") 584), (.ref 306)⟩, ⟨(hashStr w (PySem.Str.ofString "names")), (.str (PySem.Str.ofString "names") 591), (.ref 313)⟩, ⟨(hashStr w (PySem.Str.ofString "put")), (.str (PySem.Str.ofString "put") 602), (.ref 320)⟩, ⟨(hashStr w (PySem.Str.ofString "at")), (.str (PySem.Str.ofString "at") 612), (.ref 327)⟩, ⟨(hashStr w (PySem.Str.ofString "free")), (.str (PySem.Str.ofString "free") 620), (.ref 334)⟩, ⟨(hashStr w (PySem.Str.ofString "slots")), (.str (PySem.Str.ofString "slots") 626), (.ref 339)⟩, ⟨(hashStr w (PySem.Str.ofString "taken_out")), (.str (PySem.Str.ofString "taken_out") 637), (.ref 346)⟩, ⟨(hashStr w (PySem.Str.ofString "made_by")), (.str (PySem.Str.ofString "made_by") 645), (.ref 353)⟩, ⟨(hashStr w (PySem.Str.ofString "stopped")), (.str (PySem.Str.ofString "stopped") 653), (.ref 360)⟩, ⟨(hashStr w (PySem.Str.ofString "__static_attributes__")), (.str (PySem.Str.ofString "__static_attributes__") 655), (.ref 361)⟩, ⟨(hashStr w (PySem.Str.ofString "__dict__")), (.str (PySem.Str.ofString "__dict__") 657), (.ref 364)⟩, ⟨(hashStr w (PySem.Str.ofString "__weakref__")), (.str (PySem.Str.ofString "__weakref__") 659), (.ref 365)⟩, ⟨(hashStr w (PySem.Str.ofString "__doc__")), (.str (PySem.Str.ofString "__doc__") 660), .none⟩] 4), #[]⟩),
  (363, ⟨(.type "type"), none, (.cls ⟨(PySem.Str.ofString "Tasks"), [(.type "object")], [(.ref 363), (.type "object")], 362, (PySem.Str.ofString "Tasks"), true, [], [], false, none, false⟩), #[none, none, (some (.str (PySem.Str.ofString "Tasks") 535)), (some (.str (PySem.Str.ofString "Tasks") 543)), (some (.builtin "object.__new__")), (some (.bool true))]⟩),
  (364, ⟨(.type "getset_descriptor"), none, (.fields #[(.str (PySem.Str.ofString "__dict__") 656), (.ref 363), (.builtin "function.__dict__"), (.builtin "function.__dict__#set")]), #[]⟩),
  (365, ⟨(.type "getset_descriptor"), none, (.fields #[(.str (PySem.Str.ofString "__weakref__") 658), (.ref 363), (.builtin "ExceptionGroup.__weakref__"), .none]), #[]⟩),
  (366, ⟨(.type "super"), none, (.fields #[(.ref 363), (.ref 363), (.ref 363)]), #[]⟩),
  (367, ⟨(.type "builtin_function_or_method"), none, (.fields #[(.builtin "object.__init_subclass__"), (.ref 363)]), #[]⟩),
  (368, ⟨(.type "tuple"), none, (.seq #[] 0), #[]⟩),
  (369, ⟨.none, none, (.fields #[]), #[]⟩),
  (370, ⟨(.type "tuple"), none, (.seq #[(.str (PySem.Str.ofString "_law_script") 668), (.str (PySem.Str.ofString "_law_k") 669), (.str (PySem.Str.ofString "_law_cell") 670), (.str (PySem.Str.ofString "_law_number") 671)] 0), #[]⟩),
  (371, ⟨(.type "tuple"), none, (.seq #[] 0), #[]⟩),
  (372, ⟨.none, none, (.func ⟨(PySem.Str.ofString "_law_mix"), (PySem.Str.ofString "_law_mix"), defArgs s__law_mix, .stmts (defBody s__law_mix), defScope s__law_mix, 0, [], .none, .none, .none, .none, none, .none, .none, 0⟩), #[]⟩),
  (373, ⟨(.type "code"), none, (.fields #[(.str (PySem.Str.ofString "_law_mix") 665), (.str (PySem.Str.ofString "_law_mix") 666), (.str (PySem.Str.ofString "/claim/cut.py") 667), (.int (123) 0), (.int (2) 0), (.int (0) 0), (.int (0) 0), (.int (3) 0), (.ref 368), (.bool true), (.int (181) 0), (.ref 369), .none, (.ref 370), (.ref 371), (.ref 372), (.int (672) 0), (.int (123) 0), (.str (PySem.Str.ofString "/claim/cut.py") 673)]), #[]⟩),
  (374, ⟨(.type "function"), none, (.func ⟨(PySem.Str.ofString "_law_mix"), (PySem.Str.ofString "_law_mix"), defArgs s__law_mix, .stmts (defBody s__law_mix), defScope s__law_mix, 3, [], .none, .none, .none, (.str (PySem.Str.ofString "law_passkeep_k41_slots") 663), none, (.ref 373), .none, 0⟩), #[]⟩),
  (375, ⟨(.type "tuple"), none, (.seq #[] 0), #[]⟩),
  (376, ⟨.none, none, (.fields #[]), #[]⟩),
  (377, ⟨.none, none, (.func ⟨(PySem.Str.ofString "_law_name"), (PySem.Str.ofString "_law_name"), defArgs s__law_name, .stmts (defBody s__law_name), defScope s__law_name, 0, [], .none, .none, .none, .none, none, .none, .none, 0⟩), #[]⟩),
  (378, ⟨(.type "code"), none, (.fields #[(.str (PySem.Str.ofString "_law_name") 675), (.str (PySem.Str.ofString "_law_name") 676), (.str (PySem.Str.ofString "/claim/cut.py") 677), (.int (129) 0), (.int (2) 0), (.int (0) 0), (.int (0) 0), (.int (3) 0), (.ref 375), (.bool true), (.int (181) 0), (.ref 376), .none, .none, .none, (.ref 377), (.int (678) 0), (.int (129) 0), (.str (PySem.Str.ofString "/claim/cut.py") 679)]), #[]⟩),
  (379, ⟨(.type "function"), none, (.func ⟨(PySem.Str.ofString "_law_name"), (PySem.Str.ofString "_law_name"), defArgs s__law_name, .stmts (defBody s__law_name), defScope s__law_name, 3, [], .none, .none, .none, (.str (PySem.Str.ofString "law_passkeep_k41_slots") 663), none, (.ref 378), .none, 0⟩), #[]⟩),
  (380, ⟨(.type "tuple"), none, (.seq #[] 0), #[]⟩),
  (381, ⟨.none, none, (.fields #[]), #[]⟩),
  (382, ⟨(.type "tuple"), none, (.seq #[(.str (PySem.Str.ofString "_law_e") 684), (.str (PySem.Str.ofString "_law_some") 685)] 0), #[]⟩),
  (383, ⟨(.type "tuple"), none, (.seq #[] 0), #[]⟩),
  (384, ⟨.none, none, (.func ⟨(PySem.Str.ofString "_law_word"), (PySem.Str.ofString "_law_word"), defArgs s__law_word, .stmts (defBody s__law_word), defScope s__law_word, 0, [], .none, .none, .none, .none, none, .none, .none, 0⟩), #[]⟩),
  (385, ⟨(.type "code"), none, (.fields #[(.str (PySem.Str.ofString "_law_word") 681), (.str (PySem.Str.ofString "_law_word") 682), (.str (PySem.Str.ofString "/claim/cut.py") 683), (.int (137) 0), (.int (1) 0), (.int (0) 0), (.int (0) 0), (.int (3) 0), (.ref 380), (.bool true), (.int (181) 0), (.ref 381), .none, (.ref 382), (.ref 383), (.ref 384), (.int (686) 0), (.int (137) 0), (.str (PySem.Str.ofString "/claim/cut.py") 687)]), #[]⟩),
  (386, ⟨(.type "function"), none, (.func ⟨(PySem.Str.ofString "_law_word"), (PySem.Str.ofString "_law_word"), defArgs s__law_word, .stmts (defBody s__law_word), defScope s__law_word, 3, [], .none, .none, .none, (.str (PySem.Str.ofString "law_passkeep_k41_slots") 663), none, (.ref 385), .none, 0⟩), #[]⟩),
  (387, ⟨(.type "tuple"), none, (.seq #[] 0), #[]⟩),
  (388, ⟨.none, none, (.fields #[]), #[]⟩),
  (389, ⟨(.type "tuple"), none, (.seq #[(.str (PySem.Str.ofString "_law_thing") 692)] 0), #[]⟩),
  (390, ⟨(.type "tuple"), none, (.seq #[] 0), #[]⟩),
  (391, ⟨.none, none, (.func ⟨(PySem.Str.ofString "_law_whole"), (PySem.Str.ofString "_law_whole"), defArgs s__law_whole, .stmts (defBody s__law_whole), defScope s__law_whole, 0, [], .none, .none, .none, .none, none, .none, .none, 0⟩), #[]⟩),
  (392, ⟨(.type "code"), none, (.fields #[(.str (PySem.Str.ofString "_law_whole") 689), (.str (PySem.Str.ofString "_law_whole") 690), (.str (PySem.Str.ofString "/claim/cut.py") 691), (.int (145) 0), (.int (1) 0), (.int (0) 0), (.int (0) 0), (.int (3) 0), (.ref 387), (.bool true), (.int (181) 0), (.ref 388), .none, (.ref 389), (.ref 390), (.ref 391), (.int (693) 0), (.int (145) 0), (.str (PySem.Str.ofString "/claim/cut.py") 694)]), #[]⟩),
  (393, ⟨(.type "function"), none, (.func ⟨(PySem.Str.ofString "_law_whole"), (PySem.Str.ofString "_law_whole"), defArgs s__law_whole, .stmts (defBody s__law_whole), defScope s__law_whole, 3, [], .none, .none, .none, (.str (PySem.Str.ofString "law_passkeep_k41_slots") 663), none, (.ref 392), .none, 0⟩), #[]⟩),
  (394, ⟨(.type "tuple"), none, (.seq #[] 0), #[]⟩),
  (395, ⟨.none, none, (.fields #[]), #[]⟩),
  (396, ⟨(.type "tuple"), none, (.seq #[(.str (PySem.Str.ofString "_law_tasks") 699), (.str (PySem.Str.ofString "_law_name_here") 700), (.str (PySem.Str.ofString "_law_number") 701), (.str (PySem.Str.ofString "_law_e") 702)] 0), #[]⟩),
  (397, ⟨(.type "tuple"), none, (.seq #[] 0), #[]⟩),
  (398, ⟨.none, none, (.func ⟨(PySem.Str.ofString "_law_put"), (PySem.Str.ofString "_law_put"), defArgs s__law_put, .stmts (defBody s__law_put), defScope s__law_put, 0, [], .none, .none, .none, .none, none, .none, .none, 0⟩), #[]⟩),
  (399, ⟨(.type "code"), none, (.fields #[(.str (PySem.Str.ofString "_law_put") 696), (.str (PySem.Str.ofString "_law_put") 697), (.str (PySem.Str.ofString "/claim/cut.py") 698), (.int (147) 0), (.int (3) 0), (.int (0) 0), (.int (0) 0), (.int (3) 0), (.ref 394), (.bool true), (.int (181) 0), (.ref 395), .none, (.ref 396), (.ref 397), (.ref 398), (.int (703) 0), (.int (147) 0), (.str (PySem.Str.ofString "/claim/cut.py") 704)]), #[]⟩),
  (400, ⟨(.type "function"), none, (.func ⟨(PySem.Str.ofString "_law_put"), (PySem.Str.ofString "_law_put"), defArgs s__law_put, .stmts (defBody s__law_put), defScope s__law_put, 3, [], .none, .none, .none, (.str (PySem.Str.ofString "law_passkeep_k41_slots") 663), none, (.ref 399), .none, 0⟩), #[]⟩),
  (401, ⟨(.type "tuple"), none, (.seq #[] 0), #[]⟩),
  (402, ⟨.none, none, (.fields #[]), #[]⟩),
  (403, ⟨(.type "tuple"), none, (.seq #[(.str (PySem.Str.ofString "_law_tasks") 709), (.str (PySem.Str.ofString "_law_name_here") 710), (.str (PySem.Str.ofString "_law_slot") 711), (.str (PySem.Str.ofString "_law_e") 712)] 0), #[]⟩),
  (404, ⟨(.type "tuple"), none, (.seq #[] 0), #[]⟩),
  (405, ⟨.none, none, (.func ⟨(PySem.Str.ofString "_law_at"), (PySem.Str.ofString "_law_at"), defArgs s__law_at, .stmts (defBody s__law_at), defScope s__law_at, 0, [], .none, .none, .none, .none, none, .none, .none, 0⟩), #[]⟩),
  (406, ⟨(.type "code"), none, (.fields #[(.str (PySem.Str.ofString "_law_at") 706), (.str (PySem.Str.ofString "_law_at") 707), (.str (PySem.Str.ofString "/claim/cut.py") 708), (.int (152) 0), (.int (3) 0), (.int (0) 0), (.int (0) 0), (.int (3) 0), (.ref 401), (.bool true), (.int (181) 0), (.ref 402), .none, (.ref 403), (.ref 404), (.ref 405), (.int (713) 0), (.int (152) 0), (.str (PySem.Str.ofString "/claim/cut.py") 714)]), #[]⟩),
  (407, ⟨(.type "function"), none, (.func ⟨(PySem.Str.ofString "_law_at"), (PySem.Str.ofString "_law_at"), defArgs s__law_at, .stmts (defBody s__law_at), defScope s__law_at, 3, [], .none, .none, .none, (.str (PySem.Str.ofString "law_passkeep_k41_slots") 663), none, (.ref 406), .none, 0⟩), #[]⟩),
  (408, ⟨(.type "tuple"), none, (.seq #[] 0), #[]⟩),
  (409, ⟨.none, none, (.fields #[]), #[]⟩),
  (410, ⟨(.type "tuple"), none, (.seq #[(.str (PySem.Str.ofString "_law_rows") 719), (.str (PySem.Str.ofString "_law_name_here") 720), (.str (PySem.Str.ofString "_law_number") 721), (.str (PySem.Str.ofString "_law_slot") 722)] 0), #[]⟩),
  (411, ⟨(.type "tuple"), none, (.seq #[] 0), #[]⟩),
  (412, ⟨.none, none, (.func ⟨(PySem.Str.ofString "_law_put_due"), (PySem.Str.ofString "_law_put_due"), defArgs s__law_put_due, .stmts (defBody s__law_put_due), defScope s__law_put_due, 0, [], .none, .none, .none, .none, none, .none, .none, 0⟩), #[]⟩),
  (413, ⟨(.type "code"), none, (.fields #[(.str (PySem.Str.ofString "_law_put_due") 716), (.str (PySem.Str.ofString "_law_put_due") 717), (.str (PySem.Str.ofString "/claim/cut.py") 718), (.int (157) 0), (.int (3) 0), (.int (0) 0), (.int (0) 0), (.int (3) 0), (.ref 408), (.bool true), (.int (181) 0), (.ref 409), .none, (.ref 410), (.ref 411), (.ref 412), (.int (723) 0), (.int (157) 0), (.str (PySem.Str.ofString "/claim/cut.py") 724)]), #[]⟩),
  (414, ⟨(.type "function"), none, (.func ⟨(PySem.Str.ofString "_law_put_due"), (PySem.Str.ofString "_law_put_due"), defArgs s__law_put_due, .stmts (defBody s__law_put_due), defScope s__law_put_due, 3, [], .none, .none, .none, (.str (PySem.Str.ofString "law_passkeep_k41_slots") 663), none, (.ref 413), .none, 0⟩), #[]⟩),
  (415, ⟨(.type "tuple"), none, (.seq #[] 0), #[]⟩),
  (416, ⟨.none, none, (.fields #[]), #[]⟩),
  (417, ⟨(.type "tuple"), none, (.seq #[(.str (PySem.Str.ofString "_law_rows") 729), (.str (PySem.Str.ofString "_law_name_here") 730), (.str (PySem.Str.ofString "_law_slot") 731)] 0), #[]⟩),
  (418, ⟨(.type "tuple"), none, (.seq #[] 0), #[]⟩),
  (419, ⟨.none, none, (.func ⟨(PySem.Str.ofString "_law_at_due"), (PySem.Str.ofString "_law_at_due"), defArgs s__law_at_due, .stmts (defBody s__law_at_due), defScope s__law_at_due, 0, [], .none, .none, .none, .none, none, .none, .none, 0⟩), #[]⟩),
  (420, ⟨(.type "code"), none, (.fields #[(.str (PySem.Str.ofString "_law_at_due") 726), (.str (PySem.Str.ofString "_law_at_due") 727), (.str (PySem.Str.ofString "/claim/cut.py") 728), (.int (165) 0), (.int (3) 0), (.int (0) 0), (.int (0) 0), (.int (3) 0), (.ref 415), (.bool true), (.int (181) 0), (.ref 416), .none, (.ref 417), (.ref 418), (.ref 419), (.int (732) 0), (.int (165) 0), (.str (PySem.Str.ofString "/claim/cut.py") 733)]), #[]⟩),
  (421, ⟨(.type "function"), none, (.func ⟨(PySem.Str.ofString "_law_at_due"), (PySem.Str.ofString "_law_at_due"), defArgs s__law_at_due, .stmts (defBody s__law_at_due), defScope s__law_at_due, 3, [], .none, .none, .none, (.str (PySem.Str.ofString "law_passkeep_k41_slots") 663), none, (.ref 420), .none, 0⟩), #[]⟩),
  (422, ⟨(.type "tuple"), none, (.seq #[] 0), #[]⟩),
  (423, ⟨.none, none, (.fields #[]), #[]⟩),
  (424, ⟨.none, none, (.func ⟨(PySem.Str.ofString "_law_out"), (PySem.Str.ofString "_law_out"), defArgs s__law_out, .stmts (defBody s__law_out), defScope s__law_out, 0, [], .none, .none, .none, .none, none, .none, .none, 0⟩), #[]⟩),
  (425, ⟨(.type "code"), none, (.fields #[(.str (PySem.Str.ofString "_law_out") 735), (.str (PySem.Str.ofString "_law_out") 736), (.str (PySem.Str.ofString "/claim/cut.py") 737), (.int (171) 0), (.int (2) 0), (.int (0) 0), (.int (0) 0), (.int (3) 0), (.ref 422), (.bool true), (.int (181) 0), (.ref 423), .none, .none, .none, (.ref 424), (.int (738) 0), (.int (171) 0), (.str (PySem.Str.ofString "/claim/cut.py") 739)]), #[]⟩),
  (426, ⟨(.type "function"), none, (.func ⟨(PySem.Str.ofString "_law_out"), (PySem.Str.ofString "_law_out"), defArgs s__law_out, .stmts (defBody s__law_out), defScope s__law_out, 3, [], .none, .none, .none, (.str (PySem.Str.ofString "law_passkeep_k41_slots") 663), none, (.ref 425), .none, 0⟩), #[]⟩)]
def bt_cut37 (w : World) : PySem.W.BT := insL (ch_cut37 w) (bt_cut13 w)
abbrev S_cut37 (w : World) (os : OsState) : SharedT := stT w os (bt_cut37 w) 427 741
theorem p_pre (w : World) (os : OsState) : goPF (stepQ (denQ tabQ) R.prog w) 11 annR 12 (stT w os (bt0 w.params) 11 181) (topStub R.prog) = some (S_pre w os, ⟨denQ tabQ codeR, codeR, ⟨0, 0, 0, 0⟩, [topFrame posR]⟩) := by kernel_rfl
theorem p_block (w : World) (os : OsState) : segF (stepQ (denQ tabQ) R.prog w) 11 annR 1 (S_pre w os) (blockOf bodyR envR codeR ⟨0, 0, 0, 0⟩ [topFrame posR]) = some (.next, S_block w os, codeR, ⟨0, 0, 0, 0⟩) := by kernel_rfl
theorem p_cut13 (w : World) (os : OsState) : segF (stepQ (denQ tabQ) R.prog w) 11 annR 2587 (S_block w os) (piecesOf ((bodyR).take 13) envR codeR ⟨0, 0, 0, 0⟩ [topFrame posR]) = some (.next, S_cut13 w os, codeR, ⟨25, 0, 28, 24⟩) := by kernel_rfl
theorem p_cut37 (w : World) (os : OsState) : segF (stepQ (denQ tabQ) R.prog w) 11 annR 2690 (S_cut13 w os) (piecesOf (((bodyR).drop 13).take 24) envR codeR ⟨25, 0, 28, 24⟩ [topFrame posR]) = some (.next, S_cut37 w os, codeR, ⟨171, 0, 176, 20⟩) := by kernel_rfl
theorem p_last (w : World) (os : OsState) : (goF (stepQ (denQ tabQ) R.prog w) 11 annR 388 (S_cut37 w os) (restOf (((bodyR).drop 13).drop 24) envR codeR ⟨171, 0, 176, 20⟩ [topFrame posR])).map (fun s => (looksF R.prog (boot_heap w.params) s.abs, seenQ qv loose (importedModules R.prog.main.body) (fun s => xlAt qv [] s && recOk R.toRowW.records s) s.abs, ob s)) = some (true, openGood qv loose, hk.val w) := by kernel_rfl
theorem run (w : World) (os : OsState) : ∃ s, topRun treeTable R.prog w (boot_heap w.params).objs.size (bootAnn w) 5678 ⟨boot_heap w.params, #[], boot_drawn, boot_toks, os⟩ (topStub R.prog) = some s ∧ Shows R qv hk loose w s := by
  obtain ⟨s, hs, sh⟩ := shows_of (r := R) (q := qv) (H := hk) (ob := ob) (loose := loose) (w := w) ob_eq (p_last w os)
  refine ⟨s.abs, ?_, sh⟩
  rw [hn0, hann]
  have e0 := stT_boot (w := w) (os := os) hput
  rw [← e0, htok]
  have z := goF_ok (tb := treeTable) (p := R.prog) (w := w) (by rw [← stepQ_eq, ← denQ_eq, ← tabQ_eq] at hs; exact hs)
  have z := piece_app (segF_ok (tb := treeTable) (by have h := p_cut37 w os; rw [← stepQ_eq, ← denQ_eq, ← tabQ_eq] at h; exact h)) z
  rw [List.take_append_drop] at z
  have z := piece_app (segF_ok (tb := treeTable) (by have h := p_cut13 w os; rw [← stepQ_eq, ← denQ_eq, ← tabQ_eq] at h; exact h)) z
  rw [List.take_append_drop] at z
  have z := piece_block (segF_ok (tb := treeTable) (by have h := p_block w os; rw [← stepQ_eq, ← denQ_eq, ← tabQ_eq] at h; exact h)) z
  have z := go_top (goPF_ok (tb := treeTable) (by have h := p_pre w os; rw [← stepQ_eq, ← denQ_eq, ← tabQ_eq] at h; exact h)) z
  exact z
end Pk
end

namespace Pk
open PySem PySem.Spec PyProof.Rows L2
theorem lk_known {k : Addr} : List.lookup ("known" : Str) (fTasks k) = some (.ref k) := rfl
theorem lk_maker {m : Str} {b : Bool} {r : Addr} : List.lookup ("maker" : Str) (fTask m b r) = some (.str m) := rfl
theorem lk_runs {m : Str} {b : Bool} {r : Addr} : List.lookup ("runs" : Str) (fTask m b r) = some (.bl b) := rfl
theorem lk_rows {m : Str} {b : Bool} {r : Addr} : List.lookup ("rows" : Str) (fTask m b r) = some (.ref r) := rfl
section
variable {P : Program} {w : World} {K : PySem.W.Frag} {mg : Str → Option Value} {base : Heap}
/-- running_one(name): the Task, or NoTask -/
def sp_running_one (K : PySem.W.Frag) : Sp := Sp.of (fun a : Addr × V => [.ref a.1, a.2]) fun a H Q E => ∃ lk A ts, RepT K lk A ts H ∧ a.1 = A .tI ∧ (tyName H a.2).isSome = true ∧
  (∀ i, runIx ts a.2 = some i → Q (.ref (A (.aI i))) H) ∧ (runIx ts a.2 = none → E (.ref (ga K "NoTask")) none H)
theorem ok_Tasks_running_one (T : Tx K mg) : Fw P w K mg base 1 (ma K (ga K "Tasks") "running_one") (sp_running_one K) :=
  Fw.mk_of (T.d_Tasks_running_one) sc_Tasks_running_one (fun _ _ _ _ _ _ us hl => match us, hl with | [_, _], _ => rfl) (fun _ => rfl) fun cdv Ar outer s H a Q E hr hb => by
    have hu := hr.units
    refine ⟨_, (pss_cons (ps_if (PW.pt (pw_or (pt_not (pt_truF (pe_callB call_isF (by rfl) T.n_isinstance (by decide +kernel) (pa_cons (pv 1) (pa_cons (pe_bltn (v := .ty "str") rfl T.n_str (by decide +kernel) rfl) pa_nil))) (by intro _; rfl))) (pw_or (pt_cmpR (op_notInF hu) (pv 1) (pe_fld (pv 0) rfl) (by rfl)) (pw_or1 (pt_not (pt_truF (pe_fld (pe_ix (ix_F hu) (pe_fld (pv 0) rfl) (pv 1) (fun _ _ => rfl)) rfl) (by intro _; rfl))))))) (pss_one (ps_raiseW rfl tkF T.g_NoTask T.x_NoTask T.xn_NoTask)) pss_nil)
    (pss_one (ps_ret (pe_ix (ix_F hu) (pe_fld (pv 0) rfl) (pv 1) (fun _ _ => rfl))))), ?_⟩
    obtain ⟨p, v⟩ := a
    obtain ⟨lk, A, ts, R, hp, hv, hq, he⟩ := hb
    dsimp only at hp hv hq he
    subst hp
    have rk := R.tK
    cases v with
    | str z =>
      have vk := valV_tKvs A ts z
      cases f : findT ts z with
      | none =>
        rw [f] at vk
        simp only [tSeq, tIfS, tTest, tOp, tVar, L2.tC, tCB, tCons, tNil, tRet, tAsg, gName, gSub, tNot, tOr, tAnd, tFld, tB, tTru, tLM, tCallS, tMethW, tMakeW, tDrop, tNext, tUn, tTup, tLst, sFld, tChain, tAndV, tOrV, tNotV, tIf, tDNewK,
 qAddI, qAddS, qAddL, qMulI, qMulL, qSubI, qI, qUI, qEqS, qNeS, scNI, scIN, scNS, scSN, scNB, scBN, scNN, scII, scSS, scBB, scIS, scSI, scBS, scSB, qInL, qInT, qNiL, qNiT, qInDs, qNiDs, qInDi, qNiDi, qIxL, qIxT, qIxDs, qIxDi, qIxS, qSetL, qSetDs, qSetDi, qLenS, qLenL, qLenT, qLenD, qIs, okInt, okStr, okBool, okList, okTup, okDict, tyNon, tyBl, tyInt, tyStr, qTN, qTB, qTI, qTS, qTL, qLtI, qLeI, qGtI, qGeI, qApp, qCnt, qIdx, flN, flI, flS, flB, qIsL,
 isT_NoneType_int, isT_NoneType_str, isT_NoneType_bool, isT_NoneType_list, isT_NoneType_tuple, isT_NoneType_dict, isT_bool_int, isT_bool_str, isT_bool_bool, isT_bool_list, isT_bool_tuple, isT_bool_dict, isT_int_int, isT_int_str, isT_int_bool, isT_int_list, isT_int_tuple, isT_int_dict, isT_str_int, isT_str_str, isT_str_bool, isT_str_list, isT_str_tuple, isT_str_dict, isT_list_int, isT_list_str, isT_list_bool, isT_list_list, isT_list_tuple, isT_list_dict, isT_tuple_int, isT_tuple_str, isT_tuple_bool, isT_tuple_list, isT_tuple_tuple, isT_tuple_dict, isT_dict_int, isT_dict_str, isT_dict_bool, isT_dict_list, isT_dict_tuple, isT_dict_dict, cxB_K, WF, WE, List.getElem?_cons_zero, List.getElem?_cons_succ, Option.some.injEq, exists_eq_left', exists_eq_left, V.ref.injEq, V.int.injEq, V.str.injEq, V.bl.injEq, HO.ins.injEq, List.cons.injEq, and_true, true_and, exists_and_left, and_assoc, reduceCtorEq, false_and, and_false, exists_false, or_false, false_or, if_true, if_false, Bool.false_eq_true, Bool.not_true, Bool.not_false, ite_true, ite_false, List.mem_singleton, forall_eq, L2.start, List.map_cons, List.map_nil, List.length_cons, List.length_nil, List.replicate, List.cons_append, List.nil_append, Nat.sub_self, Nat.reduceAdd, Nat.reduceSub, List.set_cons_zero, List.set_cons_succ, L2.wipe, tYes, gCons, gNil, tCont, tAndF, tOrF, false_implies, L2.tSl, tNoPart, tPart, tBM, tyVs, Int.reduceLT, Int.reduceLE, CDiv, qSlS, tAug, qIpI, Int.zero_add, decide_true, decide_false, sz1, sz2, sz3, sz0, sz4, sz5, sz6, sz7, sz8, sz9, sz10, sz11, sz12, kV_s, kV_i, Nat.reduceLT, Nat.reduceLeDiff, true_implies, Option.isSome_some, Option.isSome_none, String.reduceBEq, Bool.or_false, Bool.or_true, Bool.false_or, Bool.true_or, Bool.and_true, Bool.and_false, Bool.true_and, Bool.false_and, R.tI, T.c_Tasks, T.na_Tasks_known, lk_known, qNiDs rk, vk, Option.map_none]
        exact he (by simp [runIx, f])
      | some i =>
        rw [f] at vk
        obtain ⟨t, et, hz⟩ := findT_some f
        simp only [tSeq, tIfS, tTest, tOp, tVar, L2.tC, tCB, tCons, tNil, tRet, tAsg, gName, gSub, tNot, tOr, tAnd, tFld, tB, tTru, tLM, tCallS, tMethW, tMakeW, tDrop, tNext, tUn, tTup, tLst, sFld, tChain, tAndV, tOrV, tNotV, tIf, tDNewK,
 qAddI, qAddS, qAddL, qMulI, qMulL, qSubI, qI, qUI, qEqS, qNeS, scNI, scIN, scNS, scSN, scNB, scBN, scNN, scII, scSS, scBB, scIS, scSI, scBS, scSB, qInL, qInT, qNiL, qNiT, qInDs, qNiDs, qInDi, qNiDi, qIxL, qIxT, qIxDs, qIxDi, qIxS, qSetL, qSetDs, qSetDi, qLenS, qLenL, qLenT, qLenD, qIs, okInt, okStr, okBool, okList, okTup, okDict, tyNon, tyBl, tyInt, tyStr, qTN, qTB, qTI, qTS, qTL, qLtI, qLeI, qGtI, qGeI, qApp, qCnt, qIdx, flN, flI, flS, flB, qIsL,
 isT_NoneType_int, isT_NoneType_str, isT_NoneType_bool, isT_NoneType_list, isT_NoneType_tuple, isT_NoneType_dict, isT_bool_int, isT_bool_str, isT_bool_bool, isT_bool_list, isT_bool_tuple, isT_bool_dict, isT_int_int, isT_int_str, isT_int_bool, isT_int_list, isT_int_tuple, isT_int_dict, isT_str_int, isT_str_str, isT_str_bool, isT_str_list, isT_str_tuple, isT_str_dict, isT_list_int, isT_list_str, isT_list_bool, isT_list_list, isT_list_tuple, isT_list_dict, isT_tuple_int, isT_tuple_str, isT_tuple_bool, isT_tuple_list, isT_tuple_tuple, isT_tuple_dict, isT_dict_int, isT_dict_str, isT_dict_bool, isT_dict_list, isT_dict_tuple, isT_dict_dict, cxB_K, WF, WE, List.getElem?_cons_zero, List.getElem?_cons_succ, Option.some.injEq, exists_eq_left', exists_eq_left, V.ref.injEq, V.int.injEq, V.str.injEq, V.bl.injEq, HO.ins.injEq, List.cons.injEq, and_true, true_and, exists_and_left, and_assoc, reduceCtorEq, false_and, and_false, exists_false, or_false, false_or, if_true, if_false, Bool.false_eq_true, Bool.not_true, Bool.not_false, ite_true, ite_false, List.mem_singleton, forall_eq, L2.start, List.map_cons, List.map_nil, List.length_cons, List.length_nil, List.replicate, List.cons_append, List.nil_append, Nat.sub_self, Nat.reduceAdd, Nat.reduceSub, List.set_cons_zero, List.set_cons_succ, L2.wipe, tYes, gCons, gNil, tCont, tAndF, tOrF, false_implies, L2.tSl, tNoPart, tPart, tBM, tyVs, Int.reduceLT, Int.reduceLE, CDiv, qSlS, tAug, qIpI, Int.zero_add, decide_true, decide_false, sz1, sz2, sz3, sz0, sz4, sz5, sz6, sz7, sz8, sz9, sz10, sz11, sz12, kV_s, kV_i, Nat.reduceLT, Nat.reduceLeDiff, true_implies, Option.isSome_some, Option.isSome_none, String.reduceBEq, Bool.or_false, Bool.or_true, Bool.false_or, Bool.true_or, Bool.and_true, Bool.and_false, Bool.true_and, Bool.false_and, R.tI, T.c_Tasks, T.na_Tasks_known, T.c_Task, T.na_Task_maker, T.na_Task_runs, T.na_Task_rows, lk_known, qNiDs rk, qIxDs rk, vk, Option.map_some, R.aI et, lk_runs]
        cases hrn : t.runs with
        | true => exact hq i (by simp [runIx, f, et, hrn])
        | false => exact he (by simp [runIx, f, et, hrn])
    | ref a =>
      obtain ⟨n, hn⟩ := Option.isSome_iff_exists.mp hv
      have ne : isT n "str" = false := by
        unfold tyName at hn
        cases ea : H a with
        | none => simp only [ea] at hn; cases hn
        | some o =>
          simp only [ea] at hn
          cases o <;> first | (cases hn; rfl) | cases hn
      simp only [tSeq, tIfS, tTest, tOp, tVar, L2.tC, tCB, tCons, tNil, tRet, tAsg, gName, gSub, tNot, tOr, tAnd, tFld, tB, tTru, tLM, tCallS, tMethW, tMakeW, tDrop, tNext, tUn, tTup, tLst, sFld, tChain, tAndV, tOrV, tNotV, tIf, tDNewK,
 qAddI, qAddS, qAddL, qMulI, qMulL, qSubI, qI, qUI, qEqS, qNeS, scNI, scIN, scNS, scSN, scNB, scBN, scNN, scII, scSS, scBB, scIS, scSI, scBS, scSB, qInL, qInT, qNiL, qNiT, qInDs, qNiDs, qInDi, qNiDi, qIxL, qIxT, qIxDs, qIxDi, qIxS, qSetL, qSetDs, qSetDi, qLenS, qLenL, qLenT, qLenD, qIs, okInt, okStr, okBool, okList, okTup, okDict, tyNon, tyBl, tyInt, tyStr, qTN, qTB, qTI, qTS, qTL, qLtI, qLeI, qGtI, qGeI, qApp, qCnt, qIdx, flN, flI, flS, flB, qIsL,
 isT_NoneType_int, isT_NoneType_str, isT_NoneType_bool, isT_NoneType_list, isT_NoneType_tuple, isT_NoneType_dict, isT_bool_int, isT_bool_str, isT_bool_bool, isT_bool_list, isT_bool_tuple, isT_bool_dict, isT_int_int, isT_int_str, isT_int_bool, isT_int_list, isT_int_tuple, isT_int_dict, isT_str_int, isT_str_str, isT_str_bool, isT_str_list, isT_str_tuple, isT_str_dict, isT_list_int, isT_list_str, isT_list_bool, isT_list_list, isT_list_tuple, isT_list_dict, isT_tuple_int, isT_tuple_str, isT_tuple_bool, isT_tuple_list, isT_tuple_tuple, isT_tuple_dict, isT_dict_int, isT_dict_str, isT_dict_bool, isT_dict_list, isT_dict_tuple, isT_dict_dict, cxB_K, WF, WE, List.getElem?_cons_zero, List.getElem?_cons_succ, Option.some.injEq, exists_eq_left', exists_eq_left, V.ref.injEq, V.int.injEq, V.str.injEq, V.bl.injEq, HO.ins.injEq, List.cons.injEq, and_true, true_and, exists_and_left, and_assoc, reduceCtorEq, false_and, and_false, exists_false, or_false, false_or, if_true, if_false, Bool.false_eq_true, Bool.not_true, Bool.not_false, ite_true, ite_false, List.mem_singleton, forall_eq, L2.start, List.map_cons, List.map_nil, List.length_cons, List.length_nil, List.replicate, List.cons_append, List.nil_append, Nat.sub_self, Nat.reduceAdd, Nat.reduceSub, List.set_cons_zero, List.set_cons_succ, L2.wipe, tYes, gCons, gNil, tCont, tAndF, tOrF, false_implies, L2.tSl, tNoPart, tPart, tBM, tyVs, Int.reduceLT, Int.reduceLE, CDiv, qSlS, tAug, qIpI, Int.zero_add, decide_true, decide_false, sz1, sz2, sz3, sz0, sz4, sz5, sz6, sz7, sz8, sz9, sz10, sz11, sz12, kV_s, kV_i, Nat.reduceLT, Nat.reduceLeDiff, true_implies, Option.isSome_some, Option.isSome_none, String.reduceBEq, Bool.or_false, Bool.or_true, Bool.false_or, Bool.true_or, Bool.and_true, Bool.and_false, Bool.true_and, Bool.false_and, hn, ne]
      exact he rfl
    | byt _ => cases hv
    | flt _ => cases hv
    | ty _ => cases hv
    | _ =>
      simp only [tSeq, tIfS, tTest, tOp, tVar, L2.tC, tCB, tCons, tNil, tRet, tAsg, gName, gSub, tNot, tOr, tAnd, tFld, tB, tTru, tLM, tCallS, tMethW, tMakeW, tDrop, tNext, tUn, tTup, tLst, sFld, tChain, tAndV, tOrV, tNotV, tIf, tDNewK,
 qAddI, qAddS, qAddL, qMulI, qMulL, qSubI, qI, qUI, qEqS, qNeS, scNI, scIN, scNS, scSN, scNB, scBN, scNN, scII, scSS, scBB, scIS, scSI, scBS, scSB, qInL, qInT, qNiL, qNiT, qInDs, qNiDs, qInDi, qNiDi, qIxL, qIxT, qIxDs, qIxDi, qIxS, qSetL, qSetDs, qSetDi, qLenS, qLenL, qLenT, qLenD, qIs, okInt, okStr, okBool, okList, okTup, okDict, tyNon, tyBl, tyInt, tyStr, qTN, qTB, qTI, qTS, qTL, qLtI, qLeI, qGtI, qGeI, qApp, qCnt, qIdx, flN, flI, flS, flB, qIsL,
 isT_NoneType_int, isT_NoneType_str, isT_NoneType_bool, isT_NoneType_list, isT_NoneType_tuple, isT_NoneType_dict, isT_bool_int, isT_bool_str, isT_bool_bool, isT_bool_list, isT_bool_tuple, isT_bool_dict, isT_int_int, isT_int_str, isT_int_bool, isT_int_list, isT_int_tuple, isT_int_dict, isT_str_int, isT_str_str, isT_str_bool, isT_str_list, isT_str_tuple, isT_str_dict, isT_list_int, isT_list_str, isT_list_bool, isT_list_list, isT_list_tuple, isT_list_dict, isT_tuple_int, isT_tuple_str, isT_tuple_bool, isT_tuple_list, isT_tuple_tuple, isT_tuple_dict, isT_dict_int, isT_dict_str, isT_dict_bool, isT_dict_list, isT_dict_tuple, isT_dict_dict, cxB_K, WF, WE, List.getElem?_cons_zero, List.getElem?_cons_succ, Option.some.injEq, exists_eq_left', exists_eq_left, V.ref.injEq, V.int.injEq, V.str.injEq, V.bl.injEq, HO.ins.injEq, List.cons.injEq, and_true, true_and, exists_and_left, and_assoc, reduceCtorEq, false_and, and_false, exists_false, or_false, false_or, if_true, if_false, Bool.false_eq_true, Bool.not_true, Bool.not_false, ite_true, ite_false, List.mem_singleton, forall_eq, L2.start, List.map_cons, List.map_nil, List.length_cons, List.length_nil, List.replicate, List.cons_append, List.nil_append, Nat.sub_self, Nat.reduceAdd, Nat.reduceSub, List.set_cons_zero, List.set_cons_succ, L2.wipe, tYes, gCons, gNil, tCont, tAndF, tOrF, false_implies, L2.tSl, tNoPart, tPart, tBM, tyVs, Int.reduceLT, Int.reduceLE, CDiv, qSlS, tAug, qIpI, Int.zero_add, decide_true, decide_false, sz1, sz2, sz3, sz0, sz4, sz5, sz6, sz7, sz8, sz9, sz10, sz11, sz12, kV_s, kV_i, Nat.reduceLT, Nat.reduceLeDiff, true_implies, Option.isSome_some, Option.isSome_none, String.reduceBEq, Bool.or_false, Bool.or_true, Bool.false_or, Bool.true_or, Bool.and_true, Bool.and_false, Bool.true_and, Bool.false_and]
      exact he rfl
end
end Pk

namespace Pk
open PySem PySem.Spec PyProof.Rows L2
/-! ### what a name is -/
def isName : V → Bool
  | .str z => decide (1 ≤ z.length) && decide (z.length ≤ 8) && z.cps.toList.all fun c => decide (c ∈ letters)
  | _ => false
section
variable {P : Program} {w : World} {K : PySem.W.Frag} {mg : Str → Option Value} {base : Heap}
def sp_is_name (K : PySem.W.Frag) : Sp := Sp.of (fun v : V => [v]) fun v H Q E => (tyName H v).isSome = true ∧ (∀ z, v = .str z → z.length ≤ 1000) ∧ ∀ H', Same H H' → Q (.bl (isName v)) H'
theorem ok_is_name (T : Tx K mg) : Fw P w K mg base 1 (ga K "is_name") (sp_is_name K) :=
  Fw.mk_of (T.d_is_name) sc_is_name (fun _ _ _ _ _ _ us hl => match us, hl with | [_], _ => rfl) (fun _ => rfl) fun cdv Ar outer s H v Q E hr hb => by
    have hu := hr.units
    refine ⟨_, (pss_cons (ps_if (PW.pt (pw_or (pt_not (pt_truF (pe_callB call_isF (by rfl) T.n_isinstance (by decide +kernel) (pa_cons (pv 0) (pa_cons (pe_bltn (v := .ty "str") rfl T.n_str (by decide +kernel) rfl) pa_nil))) (by intro _; rfl))) (pw_or (pt_cmpR op_ltF (pe_callB call_lenF (by rfl) T.n_len (by decide +kernel) (pa_cons (pv 0) pa_nil)) pe_int (nomark _)) (pw_or1 (pt_cmpR op_gtF (pe_callB call_lenF (by rfl) T.n_len (by decide +kernel) (pa_cons (pv 0) pa_nil)) (pe_gint T.i_MOST_LETTERS) (nomark _)))))) (pss_one (ps_ret pe_bl)) pss_nil)
    (pss_one (ps_ret (pe_callB (cr_all rfl) (by rfl) T.n_all (by decide +kernel) (pa_cons (pe_lc (by rfl) sc_is_name.nd (pi_str (pv 0)) (blkOk_by (own := [("sign", 1)]) (N := ["thing", "sign"]) (sc := defScope s_is_name) (by decide +kernel)) (fun _ _ _ _ _ => by exact (pg_name (i := 1) sc_is_name.nd rfl (by first | exact Or.inl rfl | exact Or.inr rfl))) (fun _ _ _ _ _ => by exact pts_nil) (fun _ _ _ _ _ => by exact (pe_cmpR (op_inF hu) (pv 1) pe_str (by rfl)))) pa_nil))))), ?_⟩
    obtain ⟨hv, hl, hq⟩ := hb
    obtain ⟨n, hn⟩ := Option.isSome_iff_exists.mp hv
    cases v with
    | str z =>
      have hz := hl z rfl
      have hz2 : z.length ≤ sizeLine := Nat.le_trans hz (by decide)
      simp only [tSeq, tIfS, tTest, tOp, tVar, L2.tC, tCB, tCons, tNil, tRet, tAsg, gName, gSub, tNot, tOr, tAnd, tFld, tB, tTru, tLM, tCallS, tMethW, tMakeW, tDrop, tNext, tUn, tTup, tLst, sFld, tChain, tAndV, tOrV, tNotV, tIf, tDNewK,
 qAddI, qAddS, qAddL, qMulI, qMulL, qSubI, qI, qUI, qEqS, qNeS, scNI, scIN, scNS, scSN, scNB, scBN, scNN, scII, scSS, scBB, scIS, scSI, scBS, scSB, qInL, qInT, qNiL, qNiT, qInDs, qNiDs, qInDi, qNiDi, qIxL, qIxT, qIxDs, qIxDi, qIxS, qSetL, qSetDs, qSetDi, qLenS, qLenL, qLenT, qLenD, qIs, okInt, okStr, okBool, okList, okTup, okDict, tyNon, tyBl, tyInt, tyStr, qTN, qTB, qTI, qTS, qTL, qLtI, qLeI, qGtI, qGeI, qApp, qCnt, qIdx, flN, flI, flS, flB, qIsL,
 isT_NoneType_int, isT_NoneType_str, isT_NoneType_bool, isT_NoneType_list, isT_NoneType_tuple, isT_NoneType_dict, isT_bool_int, isT_bool_str, isT_bool_bool, isT_bool_list, isT_bool_tuple, isT_bool_dict, isT_int_int, isT_int_str, isT_int_bool, isT_int_list, isT_int_tuple, isT_int_dict, isT_str_int, isT_str_str, isT_str_bool, isT_str_list, isT_str_tuple, isT_str_dict, isT_list_int, isT_list_str, isT_list_bool, isT_list_list, isT_list_tuple, isT_list_dict, isT_tuple_int, isT_tuple_str, isT_tuple_bool, isT_tuple_list, isT_tuple_tuple, isT_tuple_dict, isT_dict_int, isT_dict_str, isT_dict_bool, isT_dict_list, isT_dict_tuple, isT_dict_dict, cxB_K, WF, WE, List.getElem?_cons_zero, List.getElem?_cons_succ, Option.some.injEq, exists_eq_left', exists_eq_left, V.ref.injEq, V.int.injEq, V.str.injEq, V.bl.injEq, HO.ins.injEq, List.cons.injEq, and_true, true_and, exists_and_left, and_assoc, reduceCtorEq, false_and, and_false, exists_false, or_false, false_or, if_true, if_false, Bool.false_eq_true, Bool.not_true, Bool.not_false, ite_true, ite_false, List.mem_singleton, forall_eq, L2.start, List.map_cons, List.map_nil, List.length_cons, List.length_nil, List.replicate, List.cons_append, List.nil_append, Nat.sub_self, Nat.reduceAdd, Nat.reduceSub, List.set_cons_zero, List.set_cons_succ, L2.wipe, tYes, gCons, gNil, tCont, tAndF, tOrF, false_implies, L2.tSl, tNoPart, tPart, tBM, tyVs, Int.reduceLT, Int.reduceLE, CDiv, qSlS, tAug, qIpI, Int.zero_add, decide_true, decide_false, sz1, sz2, sz3, sz0, sz4, sz5, sz6, sz7, sz8, sz9, sz10, sz11, sz12, kV_s, kV_i, Nat.reduceLT, Nat.reduceLeDiff, true_implies, Option.isSome_some, Option.isSome_none, String.reduceBEq, Bool.or_false, Bool.or_true, Bool.false_or, Bool.true_or, Bool.and_true, Bool.and_false, Bool.true_and, Bool.false_and, hz2]
      by_cases h1 : (z.length : Int) < 1
      · rw [if_pos (by simp [h1])]
        have e : isName (.str z) = false := by
          have : ¬ 1 ≤ z.length := by omega
          simp [isName, this]
        rw [← e]
        exact hq H (Same.refl H)
      · rw [if_neg (by simp [h1])]
        by_cases h2 : (8 : Int) < z.length
        · rw [if_pos (by simp [h2])]
          have e : isName (.str z) = false := by
            have : ¬ z.length ≤ 8 := by omega
            simp [isName, this]
          rw [← e]
          exact hq H (Same.refl H)
        · rw [if_neg (by simp [h2])]
          refine ⟨_, rfl, _, rfl, ?_⟩
          intro D hD
          refine lc_map walk_str (src := z.cps.toList) (by simp) (fun _ => true) (fun c => .bl (decide (c ∈ letters))) (fun _ _ => trivial) hD (by show z.length ≤ _; omega) ?_ ?_
          · rintro i c x H1 H2 C N ec s1 ⟨rfl, c', ec', rfl⟩ hC hN
            have : c' = c := by
              rw [Array.getElem?_toList] at ec
              rw [ec] at ec'
              exact (Option.some.inj ec').symm
            subst this
            refine ⟨rfl, ?_⟩
            simp only [tSeq, tIfS, tTest, tOp, tVar, L2.tC, tCB, tCons, tNil, tRet, tAsg, gName, gSub, tNot, tOr, tAnd, tFld, tB, tTru, tLM, tCallS, tMethW, tMakeW, tDrop, tNext, tUn, tTup, tLst, sFld, tChain, tAndV, tOrV, tNotV, tIf, tDNewK,
 qAddI, qAddS, qAddL, qMulI, qMulL, qSubI, qI, qUI, qEqS, qNeS, scNI, scIN, scNS, scSN, scNB, scBN, scNN, scII, scSS, scBB, scIS, scSI, scBS, scSB, qInL, qInT, qNiL, qNiT, qInDs, qNiDs, qInDi, qNiDi, qIxL, qIxT, qIxDs, qIxDi, qIxS, qSetL, qSetDs, qSetDi, qLenS, qLenL, qLenT, qLenD, qIs, okInt, okStr, okBool, okList, okTup, okDict, tyNon, tyBl, tyInt, tyStr, qTN, qTB, qTI, qTS, qTL, qLtI, qLeI, qGtI, qGeI, qApp, qCnt, qIdx, flN, flI, flS, flB, qIsL,
 isT_NoneType_int, isT_NoneType_str, isT_NoneType_bool, isT_NoneType_list, isT_NoneType_tuple, isT_NoneType_dict, isT_bool_int, isT_bool_str, isT_bool_bool, isT_bool_list, isT_bool_tuple, isT_bool_dict, isT_int_int, isT_int_str, isT_int_bool, isT_int_list, isT_int_tuple, isT_int_dict, isT_str_int, isT_str_str, isT_str_bool, isT_str_list, isT_str_tuple, isT_str_dict, isT_list_int, isT_list_str, isT_list_bool, isT_list_list, isT_list_tuple, isT_list_dict, isT_tuple_int, isT_tuple_str, isT_tuple_bool, isT_tuple_list, isT_tuple_tuple, isT_tuple_dict, isT_dict_int, isT_dict_str, isT_dict_bool, isT_dict_list, isT_dict_tuple, isT_dict_dict, cxB_K, WF, WE, List.getElem?_cons_zero, List.getElem?_cons_succ, Option.some.injEq, exists_eq_left', exists_eq_left, V.ref.injEq, V.int.injEq, V.str.injEq, V.bl.injEq, HO.ins.injEq, List.cons.injEq, and_true, true_and, exists_and_left, and_assoc, reduceCtorEq, false_and, and_false, exists_false, or_false, false_or, if_true, if_false, Bool.false_eq_true, Bool.not_true, Bool.not_false, ite_true, ite_false, List.mem_singleton, forall_eq, L2.start, List.map_cons, List.map_nil, List.length_cons, List.length_nil, List.replicate, List.cons_append, List.nil_append, Nat.sub_self, Nat.reduceAdd, Nat.reduceSub, List.set_cons_zero, List.set_cons_succ, L2.wipe, tYes, gCons, gNil, tCont, tAndF, tOrF, false_implies, L2.tSl, tNoPart, tPart, tBM, tyVs, Int.reduceLT, Int.reduceLE, CDiv, qSlS, tAug, qIpI, Int.zero_add, decide_true, decide_false, sz1, sz2, sz3, sz0, sz4, sz5, sz6, sz7, sz8, sz9, sz10, sz11, sz12, kV_s, kV_i, Nat.reduceLT, Nat.reduceLeDiff, true_implies, Option.isSome_some, Option.isSome_none, String.reduceBEq, Bool.or_false, Bool.or_true, Bool.false_or, Bool.true_or, Bool.and_true, Bool.and_false, Bool.true_and, Bool.false_and, qInS]
            exact hC rfl _ (Same.refl _)
          · intro H1 s1 hD1
            rw [filter_all] at hD1
            refine rAll_of (bs := z.cps.toList.map fun c => decide (c ∈ letters)) (by rw [hD1, List.map_map]; rfl) ?_
            have e : isName (.str z) = (z.cps.toList.map fun c => decide (c ∈ letters)).all id := by
              have h3 : 1 ≤ z.length := by omega
              have h4 : z.length ≤ 8 := by omega
              simp [isName, h3, h4, List.all_map, Function.comp_def]
            rw [← e]
            exact hq _ s1
    | ref a =>
      have ne := tyName_ref_str hn
      dsimp only [isName] at hq
      simp only [tSeq, tIfS, tTest, tOp, tVar, L2.tC, tCB, tCons, tNil, tRet, tAsg, gName, gSub, tNot, tOr, tAnd, tFld, tB, tTru, tLM, tCallS, tMethW, tMakeW, tDrop, tNext, tUn, tTup, tLst, sFld, tChain, tAndV, tOrV, tNotV, tIf, tDNewK,
 qAddI, qAddS, qAddL, qMulI, qMulL, qSubI, qI, qUI, qEqS, qNeS, scNI, scIN, scNS, scSN, scNB, scBN, scNN, scII, scSS, scBB, scIS, scSI, scBS, scSB, qInL, qInT, qNiL, qNiT, qInDs, qNiDs, qInDi, qNiDi, qIxL, qIxT, qIxDs, qIxDi, qIxS, qSetL, qSetDs, qSetDi, qLenS, qLenL, qLenT, qLenD, qIs, okInt, okStr, okBool, okList, okTup, okDict, tyNon, tyBl, tyInt, tyStr, qTN, qTB, qTI, qTS, qTL, qLtI, qLeI, qGtI, qGeI, qApp, qCnt, qIdx, flN, flI, flS, flB, qIsL,
 isT_NoneType_int, isT_NoneType_str, isT_NoneType_bool, isT_NoneType_list, isT_NoneType_tuple, isT_NoneType_dict, isT_bool_int, isT_bool_str, isT_bool_bool, isT_bool_list, isT_bool_tuple, isT_bool_dict, isT_int_int, isT_int_str, isT_int_bool, isT_int_list, isT_int_tuple, isT_int_dict, isT_str_int, isT_str_str, isT_str_bool, isT_str_list, isT_str_tuple, isT_str_dict, isT_list_int, isT_list_str, isT_list_bool, isT_list_list, isT_list_tuple, isT_list_dict, isT_tuple_int, isT_tuple_str, isT_tuple_bool, isT_tuple_list, isT_tuple_tuple, isT_tuple_dict, isT_dict_int, isT_dict_str, isT_dict_bool, isT_dict_list, isT_dict_tuple, isT_dict_dict, cxB_K, WF, WE, List.getElem?_cons_zero, List.getElem?_cons_succ, Option.some.injEq, exists_eq_left', exists_eq_left, V.ref.injEq, V.int.injEq, V.str.injEq, V.bl.injEq, HO.ins.injEq, List.cons.injEq, and_true, true_and, exists_and_left, and_assoc, reduceCtorEq, false_and, and_false, exists_false, or_false, false_or, if_true, if_false, Bool.false_eq_true, Bool.not_true, Bool.not_false, ite_true, ite_false, List.mem_singleton, forall_eq, L2.start, List.map_cons, List.map_nil, List.length_cons, List.length_nil, List.replicate, List.cons_append, List.nil_append, Nat.sub_self, Nat.reduceAdd, Nat.reduceSub, List.set_cons_zero, List.set_cons_succ, L2.wipe, tYes, gCons, gNil, tCont, tAndF, tOrF, false_implies, L2.tSl, tNoPart, tPart, tBM, tyVs, Int.reduceLT, Int.reduceLE, CDiv, qSlS, tAug, qIpI, Int.zero_add, decide_true, decide_false, sz1, sz2, sz3, sz0, sz4, sz5, sz6, sz7, sz8, sz9, sz10, sz11, sz12, kV_s, kV_i, Nat.reduceLT, Nat.reduceLeDiff, true_implies, Option.isSome_some, Option.isSome_none, String.reduceBEq, Bool.or_false, Bool.or_true, Bool.false_or, Bool.true_or, Bool.and_true, Bool.and_false, Bool.true_and, Bool.false_and, hn, ne]
      exact hq H (Same.refl H)
    | byt _ => cases hv
    | flt _ => cases hv
    | ty _ => cases hv
    | _ =>
      dsimp only [isName] at hq
      simp only [tSeq, tIfS, tTest, tOp, tVar, L2.tC, tCB, tCons, tNil, tRet, tAsg, gName, gSub, tNot, tOr, tAnd, tFld, tB, tTru, tLM, tCallS, tMethW, tMakeW, tDrop, tNext, tUn, tTup, tLst, sFld, tChain, tAndV, tOrV, tNotV, tIf, tDNewK,
 qAddI, qAddS, qAddL, qMulI, qMulL, qSubI, qI, qUI, qEqS, qNeS, scNI, scIN, scNS, scSN, scNB, scBN, scNN, scII, scSS, scBB, scIS, scSI, scBS, scSB, qInL, qInT, qNiL, qNiT, qInDs, qNiDs, qInDi, qNiDi, qIxL, qIxT, qIxDs, qIxDi, qIxS, qSetL, qSetDs, qSetDi, qLenS, qLenL, qLenT, qLenD, qIs, okInt, okStr, okBool, okList, okTup, okDict, tyNon, tyBl, tyInt, tyStr, qTN, qTB, qTI, qTS, qTL, qLtI, qLeI, qGtI, qGeI, qApp, qCnt, qIdx, flN, flI, flS, flB, qIsL,
 isT_NoneType_int, isT_NoneType_str, isT_NoneType_bool, isT_NoneType_list, isT_NoneType_tuple, isT_NoneType_dict, isT_bool_int, isT_bool_str, isT_bool_bool, isT_bool_list, isT_bool_tuple, isT_bool_dict, isT_int_int, isT_int_str, isT_int_bool, isT_int_list, isT_int_tuple, isT_int_dict, isT_str_int, isT_str_str, isT_str_bool, isT_str_list, isT_str_tuple, isT_str_dict, isT_list_int, isT_list_str, isT_list_bool, isT_list_list, isT_list_tuple, isT_list_dict, isT_tuple_int, isT_tuple_str, isT_tuple_bool, isT_tuple_list, isT_tuple_tuple, isT_tuple_dict, isT_dict_int, isT_dict_str, isT_dict_bool, isT_dict_list, isT_dict_tuple, isT_dict_dict, cxB_K, WF, WE, List.getElem?_cons_zero, List.getElem?_cons_succ, Option.some.injEq, exists_eq_left', exists_eq_left, V.ref.injEq, V.int.injEq, V.str.injEq, V.bl.injEq, HO.ins.injEq, List.cons.injEq, and_true, true_and, exists_and_left, and_assoc, reduceCtorEq, false_and, and_false, exists_false, or_false, false_or, if_true, if_false, Bool.false_eq_true, Bool.not_true, Bool.not_false, ite_true, ite_false, List.mem_singleton, forall_eq, L2.start, List.map_cons, List.map_nil, List.length_cons, List.length_nil, List.replicate, List.cons_append, List.nil_append, Nat.sub_self, Nat.reduceAdd, Nat.reduceSub, List.set_cons_zero, List.set_cons_succ, L2.wipe, tYes, gCons, gNil, tCont, tAndF, tOrF, false_implies, L2.tSl, tNoPart, tPart, tBM, tyVs, Int.reduceLT, Int.reduceLE, CDiv, qSlS, tAug, qIpI, Int.zero_add, decide_true, decide_false, sz1, sz2, sz3, sz0, sz4, sz5, sz6, sz7, sz8, sz9, sz10, sz11, sz12, kV_s, kV_i, Nat.reduceLT, Nat.reduceLeDiff, true_implies, Option.isSome_some, Option.isSome_none, String.reduceBEq, Bool.or_false, Bool.or_true, Bool.false_or, Bool.true_or, Bool.and_true, Bool.and_false, Bool.true_and, Bool.false_and]
      exact hq H (Same.refl H)
end
end Pk

namespace Pk
open PySem PySem.Spec PyProof.Rows L2
section
variable {P : Program} {w : World} {K : PySem.W.Frag} {mg : Str → Option Value} {base : Heap}
theorem m_Tasks_running_one (T : Tx K mg) : ∀ D, D ∈ [ga K "Tasks"] → MethW P w K mg base 1 "running_one" D ((fun _ => sp_running_one K) D) := one_cls T.c_Tasks T.me_Tasks_running_one (ok_Tasks_running_one T)
def sp_need (K : PySem.W.Frag) : Sp := Sp.of (fun a : Addr × V => [.ref a.1, a.2]) fun a H Q E => ∃ lk A ts, RepT K lk A ts H ∧ a.1 = A .tI ∧ (tyName H a.2).isSome = true ∧
  ((runIx ts a.2).isSome = true → Q .non H) ∧ (runIx ts a.2 = none → E (.ref (ga K "NoTask")) none H)
theorem ok_Tasks_need (T : Tx K mg) : Fw P w K mg base 2 (ma K (ga K "Tasks") "need") (sp_need K) :=
  Fw.mk_of (T.d_Tasks_need) sc_Tasks_need (fun _ _ _ _ _ _ us hl => match us, hl with | [_, _], _ => rfl) (fun _ => rfl) fun cdv Ar outer s H a Q E hr hb => by
    have hu := hr.units
    refine ⟨_, (pss_one (ps_expr (pe_methW (pv 0) (m_Tasks_running_one T) (hr.mono (by decide)) (fun σ => L2N.passAt tkF σ) (pa_cons (pv 1) pa_nil)))), ?_⟩
    obtain ⟨p, v⟩ := a
    obtain ⟨lk, A, ts, R, hp, hv, hq, he⟩ := hb
    dsimp only at hp hv hq he
    subst hp
    simp only [tSeq, tIfS, tTest, tOp, tVar, L2.tC, tCB, tCons, tNil, tRet, tAsg, gName, gSub, tNot, tOr, tAnd, tFld, tB, tTru, tLM, tCallS, tMethW, tMakeW, tDrop, tNext, tUn, tTup, tLst, sFld, tChain, tAndV, tOrV, tNotV, tIf, tDNewK,
 qAddI, qAddS, qAddL, qMulI, qMulL, qSubI, qI, qUI, qEqS, qNeS, scNI, scIN, scNS, scSN, scNB, scBN, scNN, scII, scSS, scBB, scIS, scSI, scBS, scSB, qInL, qInT, qNiL, qNiT, qInDs, qNiDs, qInDi, qNiDi, qIxL, qIxT, qIxDs, qIxDi, qIxS, qSetL, qSetDs, qSetDi, qLenS, qLenL, qLenT, qLenD, qIs, okInt, okStr, okBool, okList, okTup, okDict, tyNon, tyBl, tyInt, tyStr, qTN, qTB, qTI, qTS, qTL, qLtI, qLeI, qGtI, qGeI, qApp, qCnt, qIdx, flN, flI, flS, flB, qIsL,
 isT_NoneType_int, isT_NoneType_str, isT_NoneType_bool, isT_NoneType_list, isT_NoneType_tuple, isT_NoneType_dict, isT_bool_int, isT_bool_str, isT_bool_bool, isT_bool_list, isT_bool_tuple, isT_bool_dict, isT_int_int, isT_int_str, isT_int_bool, isT_int_list, isT_int_tuple, isT_int_dict, isT_str_int, isT_str_str, isT_str_bool, isT_str_list, isT_str_tuple, isT_str_dict, isT_list_int, isT_list_str, isT_list_bool, isT_list_list, isT_list_tuple, isT_list_dict, isT_tuple_int, isT_tuple_str, isT_tuple_bool, isT_tuple_list, isT_tuple_tuple, isT_tuple_dict, isT_dict_int, isT_dict_str, isT_dict_bool, isT_dict_list, isT_dict_tuple, isT_dict_dict, cxB_K, WF, WE, List.getElem?_cons_zero, List.getElem?_cons_succ, Option.some.injEq, exists_eq_left', exists_eq_left, V.ref.injEq, V.int.injEq, V.str.injEq, V.bl.injEq, HO.ins.injEq, List.cons.injEq, and_true, true_and, exists_and_left, and_assoc, reduceCtorEq, false_and, and_false, exists_false, or_false, false_or, if_true, if_false, Bool.false_eq_true, Bool.not_true, Bool.not_false, ite_true, ite_false, List.mem_singleton, forall_eq, L2.start, List.map_cons, List.map_nil, List.length_cons, List.length_nil, List.replicate, List.cons_append, List.nil_append, Nat.sub_self, Nat.reduceAdd, Nat.reduceSub, List.set_cons_zero, List.set_cons_succ, L2.wipe, tYes, gCons, gNil, tCont, tAndF, tOrF, false_implies, L2.tSl, tNoPart, tPart, tBM, tyVs, Int.reduceLT, Int.reduceLE, CDiv, qSlS, tAug, qIpI, Int.zero_add, decide_true, decide_false, sz1, sz2, sz3, sz0, sz4, sz5, sz6, sz7, sz8, sz9, sz10, sz11, sz12, kV_s, kV_i, Nat.reduceLT, Nat.reduceLeDiff, true_implies, Option.isSome_some, Option.isSome_none, String.reduceBEq, Bool.or_false, Bool.or_true, Bool.false_or, Bool.true_or, Bool.and_true, Bool.and_false, Bool.true_and, Bool.false_and, R.tI, T.c_Tasks, T.na_Tasks_known, lk_known]
    exact ⟨rfl, (A .tI, v), rfl, lk, A, ts, R, rfl, hv, fun i hi => hq (by rw [hi]; rfl), he⟩
theorem m_Tasks_need (T : Tx K mg) : ∀ D, D ∈ [ga K "Tasks"] → MethW P w K mg base 2 "need" D ((fun _ => sp_need K) D) := one_cls T.c_Tasks T.me_Tasks_need (ok_Tasks_need T)
def sp_free (K : PySem.W.Frag) : Sp := Sp.of (fun a : Addr × V => [.ref a.1, a.2]) fun a H Q E => ∃ lk A ts, RepT K lk A ts H ∧ a.1 = A .tI ∧ (tyName H a.2).isSome = true ∧
  (∀ i t, runIx ts a.2 = some i → ts[i]? = some t → Q (.int (t.rows.count none : Nat)) H) ∧ (runIx ts a.2 = none → E (.ref (ga K "NoTask")) none H)
theorem ok_Tasks_free (T : Tx K mg) : Fw P w K mg base 2 (ma K (ga K "Tasks") "free") (sp_free K) :=
  Fw.mk_of (T.d_Tasks_free) sc_Tasks_free (fun _ _ _ _ _ _ us hl => match us, hl with | [_, _], _ => rfl) (fun _ => rfl) fun cdv Ar outer s H a Q E hr hb => by
    have hu := hr.units
    refine ⟨_, (pss_one (ps_ret (pe_lm PySem.F.slot_list_count PySem.F.type_list_count mt_cntF (pe_fld (pe_methW (pv 0) (m_Tasks_running_one T) (hr.mono (by decide)) (fun σ => L2N.passAt tkF σ) (pa_cons (pv 1) pa_nil)) rfl) (pa_cons pe_non pa_nil)))), ?_⟩
    obtain ⟨p, v⟩ := a
    obtain ⟨lk, A, ts, R, hp, hv, hq, he⟩ := hb
    dsimp only at hp hv hq he
    subst hp
    simp only [tSeq, tIfS, tTest, tOp, tVar, L2.tC, tCB, tCons, tNil, tRet, tAsg, gName, gSub, tNot, tOr, tAnd, tFld, tB, tTru, tLM, tCallS, tMethW, tMakeW, tDrop, tNext, tUn, tTup, tLst, sFld, tChain, tAndV, tOrV, tNotV, tIf, tDNewK,
 qAddI, qAddS, qAddL, qMulI, qMulL, qSubI, qI, qUI, qEqS, qNeS, scNI, scIN, scNS, scSN, scNB, scBN, scNN, scII, scSS, scBB, scIS, scSI, scBS, scSB, qInL, qInT, qNiL, qNiT, qInDs, qNiDs, qInDi, qNiDi, qIxL, qIxT, qIxDs, qIxDi, qIxS, qSetL, qSetDs, qSetDi, qLenS, qLenL, qLenT, qLenD, qIs, okInt, okStr, okBool, okList, okTup, okDict, tyNon, tyBl, tyInt, tyStr, qTN, qTB, qTI, qTS, qTL, qLtI, qLeI, qGtI, qGeI, qApp, qCnt, qIdx, flN, flI, flS, flB, qIsL,
 isT_NoneType_int, isT_NoneType_str, isT_NoneType_bool, isT_NoneType_list, isT_NoneType_tuple, isT_NoneType_dict, isT_bool_int, isT_bool_str, isT_bool_bool, isT_bool_list, isT_bool_tuple, isT_bool_dict, isT_int_int, isT_int_str, isT_int_bool, isT_int_list, isT_int_tuple, isT_int_dict, isT_str_int, isT_str_str, isT_str_bool, isT_str_list, isT_str_tuple, isT_str_dict, isT_list_int, isT_list_str, isT_list_bool, isT_list_list, isT_list_tuple, isT_list_dict, isT_tuple_int, isT_tuple_str, isT_tuple_bool, isT_tuple_list, isT_tuple_tuple, isT_tuple_dict, isT_dict_int, isT_dict_str, isT_dict_bool, isT_dict_list, isT_dict_tuple, isT_dict_dict, cxB_K, WF, WE, List.getElem?_cons_zero, List.getElem?_cons_succ, Option.some.injEq, exists_eq_left', exists_eq_left, V.ref.injEq, V.int.injEq, V.str.injEq, V.bl.injEq, HO.ins.injEq, List.cons.injEq, and_true, true_and, exists_and_left, and_assoc, reduceCtorEq, false_and, and_false, exists_false, or_false, false_or, if_true, if_false, Bool.false_eq_true, Bool.not_true, Bool.not_false, ite_true, ite_false, List.mem_singleton, forall_eq, L2.start, List.map_cons, List.map_nil, List.length_cons, List.length_nil, List.replicate, List.cons_append, List.nil_append, Nat.sub_self, Nat.reduceAdd, Nat.reduceSub, List.set_cons_zero, List.set_cons_succ, L2.wipe, tYes, gCons, gNil, tCont, tAndF, tOrF, false_implies, L2.tSl, tNoPart, tPart, tBM, tyVs, Int.reduceLT, Int.reduceLE, CDiv, qSlS, tAug, qIpI, Int.zero_add, decide_true, decide_false, sz1, sz2, sz3, sz0, sz4, sz5, sz6, sz7, sz8, sz9, sz10, sz11, sz12, kV_s, kV_i, Nat.reduceLT, Nat.reduceLeDiff, true_implies, Option.isSome_some, Option.isSome_none, String.reduceBEq, Bool.or_false, Bool.or_true, Bool.false_or, Bool.true_or, Bool.and_true, Bool.and_false, Bool.true_and, Bool.false_and, R.tI, T.c_Tasks, T.na_Tasks_known, lk_known]
    refine ⟨rfl, (A .tI, v), rfl, lk, A, ts, R, rfl, hv, fun i hi => ?_, he⟩
    obtain ⟨t, et, _, _⟩ := runIx_get hi
    have hc := R.aR et
    simp only [tSeq, tIfS, tTest, tOp, tVar, L2.tC, tCB, tCons, tNil, tRet, tAsg, gName, gSub, tNot, tOr, tAnd, tFld, tB, tTru, tLM, tCallS, tMethW, tMakeW, tDrop, tNext, tUn, tTup, tLst, sFld, tChain, tAndV, tOrV, tNotV, tIf, tDNewK,
 qAddI, qAddS, qAddL, qMulI, qMulL, qSubI, qI, qUI, qEqS, qNeS, scNI, scIN, scNS, scSN, scNB, scBN, scNN, scII, scSS, scBB, scIS, scSI, scBS, scSB, qInL, qInT, qNiL, qNiT, qInDs, qNiDs, qInDi, qNiDi, qIxL, qIxT, qIxDs, qIxDi, qIxS, qSetL, qSetDs, qSetDi, qLenS, qLenL, qLenT, qLenD, qIs, okInt, okStr, okBool, okList, okTup, okDict, tyNon, tyBl, tyInt, tyStr, qTN, qTB, qTI, qTS, qTL, qLtI, qLeI, qGtI, qGeI, qApp, qCnt, qIdx, flN, flI, flS, flB, qIsL,
 isT_NoneType_int, isT_NoneType_str, isT_NoneType_bool, isT_NoneType_list, isT_NoneType_tuple, isT_NoneType_dict, isT_bool_int, isT_bool_str, isT_bool_bool, isT_bool_list, isT_bool_tuple, isT_bool_dict, isT_int_int, isT_int_str, isT_int_bool, isT_int_list, isT_int_tuple, isT_int_dict, isT_str_int, isT_str_str, isT_str_bool, isT_str_list, isT_str_tuple, isT_str_dict, isT_list_int, isT_list_str, isT_list_bool, isT_list_list, isT_list_tuple, isT_list_dict, isT_tuple_int, isT_tuple_str, isT_tuple_bool, isT_tuple_list, isT_tuple_tuple, isT_tuple_dict, isT_dict_int, isT_dict_str, isT_dict_bool, isT_dict_list, isT_dict_tuple, isT_dict_dict, cxB_K, WF, WE, List.getElem?_cons_zero, List.getElem?_cons_succ, Option.some.injEq, exists_eq_left', exists_eq_left, V.ref.injEq, V.int.injEq, V.str.injEq, V.bl.injEq, HO.ins.injEq, List.cons.injEq, and_true, true_and, exists_and_left, and_assoc, reduceCtorEq, false_and, and_false, exists_false, or_false, false_or, if_true, if_false, Bool.false_eq_true, Bool.not_true, Bool.not_false, ite_true, ite_false, List.mem_singleton, forall_eq, L2.start, List.map_cons, List.map_nil, List.length_cons, List.length_nil, List.replicate, List.cons_append, List.nil_append, Nat.sub_self, Nat.reduceAdd, Nat.reduceSub, List.set_cons_zero, List.set_cons_succ, L2.wipe, tYes, gCons, gNil, tCont, tAndF, tOrF, false_implies, L2.tSl, tNoPart, tPart, tBM, tyVs, Int.reduceLT, Int.reduceLE, CDiv, qSlS, tAug, qIpI, Int.zero_add, decide_true, decide_false, sz1, sz2, sz3, sz0, sz4, sz5, sz6, sz7, sz8, sz9, sz10, sz11, sz12, kV_s, kV_i, Nat.reduceLT, Nat.reduceLeDiff, true_implies, Option.isSome_some, Option.isSome_none, String.reduceBEq, Bool.or_false, Bool.or_true, Bool.false_or, Bool.true_or, Bool.and_true, Bool.and_false, Bool.true_and, Bool.false_and, R.aI et, T.c_Task, T.na_Task_maker, T.na_Task_runs, T.na_Task_rows, lk_rows, isLst, hc, rCntFF, flatV, flat_optV, count_non]
    exact hq i t hi et
theorem m_Tasks_free (T : Tx K mg) : ∀ D, D ∈ [ga K "Tasks"] → MethW P w K mg base 2 "free" D ((fun _ => sp_free K) D) := one_cls T.c_Tasks T.me_Tasks_free (ok_Tasks_free T)
def sp_put (K : PySem.W.Frag) : Sp := Sp.of (fun a : Addr × V × Int => [.ref a.1, a.2.1, .int a.2.2]) fun a H Q E => ∃ lk A ts, RepT K lk A ts H ∧ a.1 = A .tI ∧ (tyName H a.2.1).isSome = true ∧
  (runIx ts a.2.1 = none → E (.ref (ga K "NoTask")) none H) ∧ ∀ i t, runIx ts a.2.1 = some i → ts[i]? = some t →
  (t.rows.findIdx? (·.isNone) = none → E (.ref (ga K "TooMany")) none H) ∧
  ∀ j, t.rows.findIdx? (·.isNone) = some j → Q (.int j) (upd H (A (.aR i)) (.lst ((t.rows.set j (some a.2.2)).map optV)))
theorem ok_Tasks_put (T : Tx K mg) : Fw P w K mg base 2 (ma K (ga K "Tasks") "put") (sp_put K) :=
  Fw.mk_of (T.d_Tasks_put) sc_Tasks_put (fun _ _ _ _ _ _ us hl => match us, hl with | [_, _, _], _ => rfl) (fun _ => rfl) fun cdv Ar outer s H a Q E hr hb => by
    have hu := hr.units
    refine ⟨_, (pss_cons (ps_set (i := 3) sc_Tasks_put.nd rfl (by first | exact Or.inl rfl | exact Or.inr rfl) (pe_fld (pe_methW (pv 0) (m_Tasks_running_one T) (hr.mono (by decide)) (fun σ => L2N.passAt tkF σ) (pa_cons (pv 1) pa_nil)) rfl))
    (pss_cons (ps_if (pt_cmpR (op_notInF hu) pe_non (pv 3) (by rfl)) (pss_one (ps_raiseW rfl tkF T.g_TooMany T.x_TooMany T.xn_TooMany)) pss_nil)
    (pss_cons (ps_set (i := 4) sc_Tasks_put.nd rfl (by first | exact Or.inl rfl | exact Or.inr rfl) (pe_lm PySem.F.slot_list_index PySem.F.type_list_index mt_idxF (pv 3) (pa_cons pe_non pa_nil)))
    (pss_cons (ps_asg (pv 2) (pg_sub (pv 3) (pv 4) (set_F hu)))
    (pss_one (ps_ret (pv 4))))))), ?_⟩
    obtain ⟨p, v, n⟩ := a
    obtain ⟨lk, A, ts, R, hp, hv, he, hq⟩ := hb
    dsimp only at hp hv hq he
    subst hp
    simp only [tSeq, tIfS, tTest, tOp, tVar, L2.tC, tCB, tCons, tNil, tRet, tAsg, gName, gSub, tNot, tOr, tAnd, tFld, tB, tTru, tLM, tCallS, tMethW, tMakeW, tDrop, tNext, tUn, tTup, tLst, sFld, tChain, tAndV, tOrV, tNotV, tIf, tDNewK,
 qAddI, qAddS, qAddL, qMulI, qMulL, qSubI, qI, qUI, qEqS, qNeS, scNI, scIN, scNS, scSN, scNB, scBN, scNN, scII, scSS, scBB, scIS, scSI, scBS, scSB, qInL, qInT, qNiL, qNiT, qInDs, qNiDs, qInDi, qNiDi, qIxL, qIxT, qIxDs, qIxDi, qIxS, qSetL, qSetDs, qSetDi, qLenS, qLenL, qLenT, qLenD, qIs, okInt, okStr, okBool, okList, okTup, okDict, tyNon, tyBl, tyInt, tyStr, qTN, qTB, qTI, qTS, qTL, qLtI, qLeI, qGtI, qGeI, qApp, qCnt, qIdx, flN, flI, flS, flB, qIsL,
 isT_NoneType_int, isT_NoneType_str, isT_NoneType_bool, isT_NoneType_list, isT_NoneType_tuple, isT_NoneType_dict, isT_bool_int, isT_bool_str, isT_bool_bool, isT_bool_list, isT_bool_tuple, isT_bool_dict, isT_int_int, isT_int_str, isT_int_bool, isT_int_list, isT_int_tuple, isT_int_dict, isT_str_int, isT_str_str, isT_str_bool, isT_str_list, isT_str_tuple, isT_str_dict, isT_list_int, isT_list_str, isT_list_bool, isT_list_list, isT_list_tuple, isT_list_dict, isT_tuple_int, isT_tuple_str, isT_tuple_bool, isT_tuple_list, isT_tuple_tuple, isT_tuple_dict, isT_dict_int, isT_dict_str, isT_dict_bool, isT_dict_list, isT_dict_tuple, isT_dict_dict, cxB_K, WF, WE, List.getElem?_cons_zero, List.getElem?_cons_succ, Option.some.injEq, exists_eq_left', exists_eq_left, V.ref.injEq, V.int.injEq, V.str.injEq, V.bl.injEq, HO.ins.injEq, List.cons.injEq, and_true, true_and, exists_and_left, and_assoc, reduceCtorEq, false_and, and_false, exists_false, or_false, false_or, if_true, if_false, Bool.false_eq_true, Bool.not_true, Bool.not_false, ite_true, ite_false, List.mem_singleton, forall_eq, L2.start, List.map_cons, List.map_nil, List.length_cons, List.length_nil, List.replicate, List.cons_append, List.nil_append, Nat.sub_self, Nat.reduceAdd, Nat.reduceSub, List.set_cons_zero, List.set_cons_succ, L2.wipe, tYes, gCons, gNil, tCont, tAndF, tOrF, false_implies, L2.tSl, tNoPart, tPart, tBM, tyVs, Int.reduceLT, Int.reduceLE, CDiv, qSlS, tAug, qIpI, Int.zero_add, decide_true, decide_false, sz1, sz2, sz3, sz0, sz4, sz5, sz6, sz7, sz8, sz9, sz10, sz11, sz12, kV_s, kV_i, Nat.reduceLT, Nat.reduceLeDiff, true_implies, Option.isSome_some, Option.isSome_none, String.reduceBEq, Bool.or_false, Bool.or_true, Bool.false_or, Bool.true_or, Bool.and_true, Bool.and_false, Bool.true_and, Bool.false_and, R.tI, T.c_Tasks, T.na_Tasks_known, lk_known]
    refine ⟨rfl, (A .tI, v), rfl, lk, A, ts, R, rfl, hv, fun i hi => ?_, he⟩
    obtain ⟨t, et, _, _⟩ := runIx_get hi
    have hc := R.aR et
    obtain ⟨hq1, hq2⟩ := hq i t hi et
    simp only [tSeq, tIfS, tTest, tOp, tVar, L2.tC, tCB, tCons, tNil, tRet, tAsg, gName, gSub, tNot, tOr, tAnd, tFld, tB, tTru, tLM, tCallS, tMethW, tMakeW, tDrop, tNext, tUn, tTup, tLst, sFld, tChain, tAndV, tOrV, tNotV, tIf, tDNewK,
 qAddI, qAddS, qAddL, qMulI, qMulL, qSubI, qI, qUI, qEqS, qNeS, scNI, scIN, scNS, scSN, scNB, scBN, scNN, scII, scSS, scBB, scIS, scSI, scBS, scSB, qInL, qInT, qNiL, qNiT, qInDs, qNiDs, qInDi, qNiDi, qIxL, qIxT, qIxDs, qIxDi, qIxS, qSetL, qSetDs, qSetDi, qLenS, qLenL, qLenT, qLenD, qIs, okInt, okStr, okBool, okList, okTup, okDict, tyNon, tyBl, tyInt, tyStr, qTN, qTB, qTI, qTS, qTL, qLtI, qLeI, qGtI, qGeI, qApp, qCnt, qIdx, flN, flI, flS, flB, qIsL,
 isT_NoneType_int, isT_NoneType_str, isT_NoneType_bool, isT_NoneType_list, isT_NoneType_tuple, isT_NoneType_dict, isT_bool_int, isT_bool_str, isT_bool_bool, isT_bool_list, isT_bool_tuple, isT_bool_dict, isT_int_int, isT_int_str, isT_int_bool, isT_int_list, isT_int_tuple, isT_int_dict, isT_str_int, isT_str_str, isT_str_bool, isT_str_list, isT_str_tuple, isT_str_dict, isT_list_int, isT_list_str, isT_list_bool, isT_list_list, isT_list_tuple, isT_list_dict, isT_tuple_int, isT_tuple_str, isT_tuple_bool, isT_tuple_list, isT_tuple_tuple, isT_tuple_dict, isT_dict_int, isT_dict_str, isT_dict_bool, isT_dict_list, isT_dict_tuple, isT_dict_dict, cxB_K, WF, WE, List.getElem?_cons_zero, List.getElem?_cons_succ, Option.some.injEq, exists_eq_left', exists_eq_left, V.ref.injEq, V.int.injEq, V.str.injEq, V.bl.injEq, HO.ins.injEq, List.cons.injEq, and_true, true_and, exists_and_left, and_assoc, reduceCtorEq, false_and, and_false, exists_false, or_false, false_or, if_true, if_false, Bool.false_eq_true, Bool.not_true, Bool.not_false, ite_true, ite_false, List.mem_singleton, forall_eq, L2.start, List.map_cons, List.map_nil, List.length_cons, List.length_nil, List.replicate, List.cons_append, List.nil_append, Nat.sub_self, Nat.reduceAdd, Nat.reduceSub, List.set_cons_zero, List.set_cons_succ, L2.wipe, tYes, gCons, gNil, tCont, tAndF, tOrF, false_implies, L2.tSl, tNoPart, tPart, tBM, tyVs, Int.reduceLT, Int.reduceLE, CDiv, qSlS, tAug, qIpI, Int.zero_add, decide_true, decide_false, sz1, sz2, sz3, sz0, sz4, sz5, sz6, sz7, sz8, sz9, sz10, sz11, sz12, kV_s, kV_i, Nat.reduceLT, Nat.reduceLeDiff, true_implies, Option.isSome_some, Option.isSome_none, String.reduceBEq, Bool.or_false, Bool.or_true, Bool.false_or, Bool.true_or, Bool.and_true, Bool.and_false, Bool.true_and, Bool.false_and, R.aI et, T.c_Task, T.na_Task_maker, T.na_Task_runs, T.na_Task_rows, lk_rows, isLst, hc, rIdxF, rNotInF, inF, flatV, flat_optV, inV_non, contains_none, idx_non]
    cases f : t.rows.findIdx? (·.isNone) with
    | none =>
      simp only [tSeq, tIfS, tTest, tOp, tVar, L2.tC, tCB, tCons, tNil, tRet, tAsg, gName, gSub, tNot, tOr, tAnd, tFld, tB, tTru, tLM, tCallS, tMethW, tMakeW, tDrop, tNext, tUn, tTup, tLst, sFld, tChain, tAndV, tOrV, tNotV, tIf, tDNewK,
 qAddI, qAddS, qAddL, qMulI, qMulL, qSubI, qI, qUI, qEqS, qNeS, scNI, scIN, scNS, scSN, scNB, scBN, scNN, scII, scSS, scBB, scIS, scSI, scBS, scSB, qInL, qInT, qNiL, qNiT, qInDs, qNiDs, qInDi, qNiDi, qIxL, qIxT, qIxDs, qIxDi, qIxS, qSetL, qSetDs, qSetDi, qLenS, qLenL, qLenT, qLenD, qIs, okInt, okStr, okBool, okList, okTup, okDict, tyNon, tyBl, tyInt, tyStr, qTN, qTB, qTI, qTS, qTL, qLtI, qLeI, qGtI, qGeI, qApp, qCnt, qIdx, flN, flI, flS, flB, qIsL,
 isT_NoneType_int, isT_NoneType_str, isT_NoneType_bool, isT_NoneType_list, isT_NoneType_tuple, isT_NoneType_dict, isT_bool_int, isT_bool_str, isT_bool_bool, isT_bool_list, isT_bool_tuple, isT_bool_dict, isT_int_int, isT_int_str, isT_int_bool, isT_int_list, isT_int_tuple, isT_int_dict, isT_str_int, isT_str_str, isT_str_bool, isT_str_list, isT_str_tuple, isT_str_dict, isT_list_int, isT_list_str, isT_list_bool, isT_list_list, isT_list_tuple, isT_list_dict, isT_tuple_int, isT_tuple_str, isT_tuple_bool, isT_tuple_list, isT_tuple_tuple, isT_tuple_dict, isT_dict_int, isT_dict_str, isT_dict_bool, isT_dict_list, isT_dict_tuple, isT_dict_dict, cxB_K, WF, WE, List.getElem?_cons_zero, List.getElem?_cons_succ, Option.some.injEq, exists_eq_left', exists_eq_left, V.ref.injEq, V.int.injEq, V.str.injEq, V.bl.injEq, HO.ins.injEq, List.cons.injEq, and_true, true_and, exists_and_left, and_assoc, reduceCtorEq, false_and, and_false, exists_false, or_false, false_or, if_true, if_false, Bool.false_eq_true, Bool.not_true, Bool.not_false, ite_true, ite_false, List.mem_singleton, forall_eq, L2.start, List.map_cons, List.map_nil, List.length_cons, List.length_nil, List.replicate, List.cons_append, List.nil_append, Nat.sub_self, Nat.reduceAdd, Nat.reduceSub, List.set_cons_zero, List.set_cons_succ, L2.wipe, tYes, gCons, gNil, tCont, tAndF, tOrF, false_implies, L2.tSl, tNoPart, tPart, tBM, tyVs, Int.reduceLT, Int.reduceLE, CDiv, qSlS, tAug, qIpI, Int.zero_add, decide_true, decide_false, sz1, sz2, sz3, sz0, sz4, sz5, sz6, sz7, sz8, sz9, sz10, sz11, sz12, kV_s, kV_i, Nat.reduceLT, Nat.reduceLeDiff, true_implies, Option.isSome_some, Option.isSome_none, String.reduceBEq, Bool.or_false, Bool.or_true, Bool.false_or, Bool.true_or, Bool.and_true, Bool.and_false, Bool.true_and, Bool.false_and]
      exact hq1 f
    | some j =>
      obtain ⟨hj, _, _⟩ := List.findIdx?_eq_some_iff_getElem.mp f
      simp only [tSeq, tIfS, tTest, tOp, tVar, L2.tC, tCB, tCons, tNil, tRet, tAsg, gName, gSub, tNot, tOr, tAnd, tFld, tB, tTru, tLM, tCallS, tMethW, tMakeW, tDrop, tNext, tUn, tTup, tLst, sFld, tChain, tAndV, tOrV, tNotV, tIf, tDNewK,
 qAddI, qAddS, qAddL, qMulI, qMulL, qSubI, qI, qUI, qEqS, qNeS, scNI, scIN, scNS, scSN, scNB, scBN, scNN, scII, scSS, scBB, scIS, scSI, scBS, scSB, qInL, qInT, qNiL, qNiT, qInDs, qNiDs, qInDi, qNiDi, qIxL, qIxT, qIxDs, qIxDi, qIxS, qSetL, qSetDs, qSetDi, qLenS, qLenL, qLenT, qLenD, qIs, okInt, okStr, okBool, okList, okTup, okDict, tyNon, tyBl, tyInt, tyStr, qTN, qTB, qTI, qTS, qTL, qLtI, qLeI, qGtI, qGeI, qApp, qCnt, qIdx, flN, flI, flS, flB, qIsL,
 isT_NoneType_int, isT_NoneType_str, isT_NoneType_bool, isT_NoneType_list, isT_NoneType_tuple, isT_NoneType_dict, isT_bool_int, isT_bool_str, isT_bool_bool, isT_bool_list, isT_bool_tuple, isT_bool_dict, isT_int_int, isT_int_str, isT_int_bool, isT_int_list, isT_int_tuple, isT_int_dict, isT_str_int, isT_str_str, isT_str_bool, isT_str_list, isT_str_tuple, isT_str_dict, isT_list_int, isT_list_str, isT_list_bool, isT_list_list, isT_list_tuple, isT_list_dict, isT_tuple_int, isT_tuple_str, isT_tuple_bool, isT_tuple_list, isT_tuple_tuple, isT_tuple_dict, isT_dict_int, isT_dict_str, isT_dict_bool, isT_dict_list, isT_dict_tuple, isT_dict_dict, cxB_K, WF, WE, List.getElem?_cons_zero, List.getElem?_cons_succ, Option.some.injEq, exists_eq_left', exists_eq_left, V.ref.injEq, V.int.injEq, V.str.injEq, V.bl.injEq, HO.ins.injEq, List.cons.injEq, and_true, true_and, exists_and_left, and_assoc, reduceCtorEq, false_and, and_false, exists_false, or_false, false_or, if_true, if_false, Bool.false_eq_true, Bool.not_true, Bool.not_false, ite_true, ite_false, List.mem_singleton, forall_eq, L2.start, List.map_cons, List.map_nil, List.length_cons, List.length_nil, List.replicate, List.cons_append, List.nil_append, Nat.sub_self, Nat.reduceAdd, Nat.reduceSub, List.set_cons_zero, List.set_cons_succ, L2.wipe, tYes, gCons, gNil, tCont, tAndF, tOrF, false_implies, L2.tSl, tNoPart, tPart, tBM, tyVs, Int.reduceLT, Int.reduceLE, CDiv, qSlS, tAug, qIpI, Int.zero_add, decide_true, decide_false, sz1, sz2, sz3, sz0, sz4, sz5, sz6, sz7, sz8, sz9, sz10, sz11, sz12, kV_s, kV_i, Nat.reduceLT, Nat.reduceLeDiff, true_implies, Option.isSome_some, Option.isSome_none, String.reduceBEq, Bool.or_false, Bool.or_true, Bool.false_or, Bool.true_or, Bool.and_true, Bool.and_false, Bool.true_and, Bool.false_and, qSetL hc, List.length_map, ixN_lt hj]
      have := hq2 j f
      rw [List.map_set] at this
      exact this
theorem m_Tasks_put (T : Tx K mg) : ∀ D, D ∈ [ga K "Tasks"] → MethW P w K mg base 2 "put" D ((fun _ => sp_put K) D) := one_cls T.c_Tasks T.me_Tasks_put (ok_Tasks_put T)
def sp_at (K : PySem.W.Frag) : Sp := Sp.of (fun a : Addr × V × V => [.ref a.1, a.2.1, a.2.2]) fun a H Q E => ∃ lk A ts, RepT K lk A ts H ∧ a.1 = A .tI ∧ (tyName H a.2.1).isSome = true ∧ (tyName H a.2.2).isSome = true ∧
  (runIx ts a.2.1 = none → E (.ref (ga K "NoTask")) none H) ∧ ∀ i t, runIx ts a.2.1 = some i → ts[i]? = some t →
  (atT t.rows a.2.2 = none → E (.ref (ga K "NoHandle")) none H) ∧ ∀ n, atT t.rows a.2.2 = some n → Q (.int n) H
theorem ok_Tasks_at (T : Tx K mg) : Fw P w K mg base 2 (ma K (ga K "Tasks") "at") (sp_at K) :=
  Fw.mk_of (T.d_Tasks_at) sc_Tasks_at (fun _ _ _ _ _ _ us hl => match us, hl with | [_, _, _], _ => rfl) (fun _ => rfl) fun cdv Ar outer s H a Q E hr hb => by
    have hu := hr.units
    refine ⟨_, (pss_cons (ps_set (i := 3) sc_Tasks_at.nd rfl (by first | exact Or.inl rfl | exact Or.inr rfl) (pe_fld (pe_methW (pv 0) (m_Tasks_running_one T) (hr.mono (by decide)) (fun σ => L2N.passAt tkF σ) (pa_cons (pv 1) pa_nil)) rfl))
    (pss_cons (ps_if (PW.pt (pw_or (pt_not (pt_truF (pe_callB call_isF (by rfl) T.n_isinstance (by decide +kernel) (pa_cons (pv 2) (pa_cons (pe_bltn (v := .ty "int") rfl T.n_int (by decide +kernel) rfl) pa_nil))) (by intro _; rfl))) (pw_or (pt_truF (pe_callB call_isF (by rfl) T.n_isinstance (by decide +kernel) (pa_cons (pv 2) (pa_cons (pe_bltn (v := .ty "bool") rfl T.n_bool (by decide +kernel) rfl) pa_nil))) (by intro _; rfl)) (pw_or (pt_not (pt_chain op_leF op_ltF pe_int (pv 2) (pe_gint T.i_SLOTS))) (pw_or1 (pt_cmpR op_isN (pe_ix (ix_F hu) (pv 3) (pv 2) (fun _ _ => rfl)) pe_non (nomark _))))))) (pss_one (ps_raiseW rfl tkF T.g_NoHandle T.x_NoHandle T.xn_NoHandle)) pss_nil)
    (pss_one (ps_ret (pe_ix (ix_F hu) (pv 3) (pv 2) (fun _ _ => rfl)))))), ?_⟩
    obtain ⟨p, v, k⟩ := a
    obtain ⟨lk, A, ts, R, hp, hv, hk, he, hq⟩ := hb
    dsimp only at hp hv hq he hk
    subst hp
    simp only [tSeq, tIfS, tTest, tOp, tVar, L2.tC, tCB, tCons, tNil, tRet, tAsg, gName, gSub, tNot, tOr, tAnd, tFld, tB, tTru, tLM, tCallS, tMethW, tMakeW, tDrop, tNext, tUn, tTup, tLst, sFld, tChain, tAndV, tOrV, tNotV, tIf, tDNewK,
 qAddI, qAddS, qAddL, qMulI, qMulL, qSubI, qI, qUI, qEqS, qNeS, scNI, scIN, scNS, scSN, scNB, scBN, scNN, scII, scSS, scBB, scIS, scSI, scBS, scSB, qInL, qInT, qNiL, qNiT, qInDs, qNiDs, qInDi, qNiDi, qIxL, qIxT, qIxDs, qIxDi, qIxS, qSetL, qSetDs, qSetDi, qLenS, qLenL, qLenT, qLenD, qIs, okInt, okStr, okBool, okList, okTup, okDict, tyNon, tyBl, tyInt, tyStr, qTN, qTB, qTI, qTS, qTL, qLtI, qLeI, qGtI, qGeI, qApp, qCnt, qIdx, flN, flI, flS, flB, qIsL,
 isT_NoneType_int, isT_NoneType_str, isT_NoneType_bool, isT_NoneType_list, isT_NoneType_tuple, isT_NoneType_dict, isT_bool_int, isT_bool_str, isT_bool_bool, isT_bool_list, isT_bool_tuple, isT_bool_dict, isT_int_int, isT_int_str, isT_int_bool, isT_int_list, isT_int_tuple, isT_int_dict, isT_str_int, isT_str_str, isT_str_bool, isT_str_list, isT_str_tuple, isT_str_dict, isT_list_int, isT_list_str, isT_list_bool, isT_list_list, isT_list_tuple, isT_list_dict, isT_tuple_int, isT_tuple_str, isT_tuple_bool, isT_tuple_list, isT_tuple_tuple, isT_tuple_dict, isT_dict_int, isT_dict_str, isT_dict_bool, isT_dict_list, isT_dict_tuple, isT_dict_dict, cxB_K, WF, WE, List.getElem?_cons_zero, List.getElem?_cons_succ, Option.some.injEq, exists_eq_left', exists_eq_left, V.ref.injEq, V.int.injEq, V.str.injEq, V.bl.injEq, HO.ins.injEq, List.cons.injEq, and_true, true_and, exists_and_left, and_assoc, reduceCtorEq, false_and, and_false, exists_false, or_false, false_or, if_true, if_false, Bool.false_eq_true, Bool.not_true, Bool.not_false, ite_true, ite_false, List.mem_singleton, forall_eq, L2.start, List.map_cons, List.map_nil, List.length_cons, List.length_nil, List.replicate, List.cons_append, List.nil_append, Nat.sub_self, Nat.reduceAdd, Nat.reduceSub, List.set_cons_zero, List.set_cons_succ, L2.wipe, tYes, gCons, gNil, tCont, tAndF, tOrF, false_implies, L2.tSl, tNoPart, tPart, tBM, tyVs, Int.reduceLT, Int.reduceLE, CDiv, qSlS, tAug, qIpI, Int.zero_add, decide_true, decide_false, sz1, sz2, sz3, sz0, sz4, sz5, sz6, sz7, sz8, sz9, sz10, sz11, sz12, kV_s, kV_i, Nat.reduceLT, Nat.reduceLeDiff, true_implies, Option.isSome_some, Option.isSome_none, String.reduceBEq, Bool.or_false, Bool.or_true, Bool.false_or, Bool.true_or, Bool.and_true, Bool.and_false, Bool.true_and, Bool.false_and, R.tI, T.c_Tasks, T.na_Tasks_known, lk_known]
    refine ⟨rfl, (A .tI, v), rfl, lk, A, ts, R, rfl, hv, fun i hi => ?_, he⟩
    obtain ⟨t, et, _, _⟩ := runIx_get hi
    have hc := R.aR et
    obtain ⟨hq1, hq2⟩ := hq i t hi et
    have h16 := R.wf.rows t (List.mem_of_getElem? et)
    obtain ⟨m, hm⟩ := Option.isSome_iff_exists.mp hk
    cases k with
    | int k =>
      by_cases h0 : 0 ≤ k ∧ k < 16
      · have ix : atI (t.rows.map optV) k = (t.rows[k.toNat]?).map optV := by
          unfold atI ixN
          simp [h0.1, h16, h0.2]
        have hlt : k.toNat < t.rows.length := by omega
        have e1 : t.rows[k.toNat]? = some t.rows[k.toNat] := List.getElem?_eq_getElem hlt
        cases r : t.rows[k.toNat] with
        | none =>
          simp only [tSeq, tIfS, tTest, tOp, tVar, L2.tC, tCB, tCons, tNil, tRet, tAsg, gName, gSub, tNot, tOr, tAnd, tFld, tB, tTru, tLM, tCallS, tMethW, tMakeW, tDrop, tNext, tUn, tTup, tLst, sFld, tChain, tAndV, tOrV, tNotV, tIf, tDNewK,
 qAddI, qAddS, qAddL, qMulI, qMulL, qSubI, qI, qUI, qEqS, qNeS, scNI, scIN, scNS, scSN, scNB, scBN, scNN, scII, scSS, scBB, scIS, scSI, scBS, scSB, qInL, qInT, qNiL, qNiT, qInDs, qNiDs, qInDi, qNiDi, qIxL, qIxT, qIxDs, qIxDi, qIxS, qSetL, qSetDs, qSetDi, qLenS, qLenL, qLenT, qLenD, qIs, okInt, okStr, okBool, okList, okTup, okDict, tyNon, tyBl, tyInt, tyStr, qTN, qTB, qTI, qTS, qTL, qLtI, qLeI, qGtI, qGeI, qApp, qCnt, qIdx, flN, flI, flS, flB, qIsL,
 isT_NoneType_int, isT_NoneType_str, isT_NoneType_bool, isT_NoneType_list, isT_NoneType_tuple, isT_NoneType_dict, isT_bool_int, isT_bool_str, isT_bool_bool, isT_bool_list, isT_bool_tuple, isT_bool_dict, isT_int_int, isT_int_str, isT_int_bool, isT_int_list, isT_int_tuple, isT_int_dict, isT_str_int, isT_str_str, isT_str_bool, isT_str_list, isT_str_tuple, isT_str_dict, isT_list_int, isT_list_str, isT_list_bool, isT_list_list, isT_list_tuple, isT_list_dict, isT_tuple_int, isT_tuple_str, isT_tuple_bool, isT_tuple_list, isT_tuple_tuple, isT_tuple_dict, isT_dict_int, isT_dict_str, isT_dict_bool, isT_dict_list, isT_dict_tuple, isT_dict_dict, cxB_K, WF, WE, List.getElem?_cons_zero, List.getElem?_cons_succ, Option.some.injEq, exists_eq_left', exists_eq_left, V.ref.injEq, V.int.injEq, V.str.injEq, V.bl.injEq, HO.ins.injEq, List.cons.injEq, and_true, true_and, exists_and_left, and_assoc, reduceCtorEq, false_and, and_false, exists_false, or_false, false_or, if_true, if_false, Bool.false_eq_true, Bool.not_true, Bool.not_false, ite_true, ite_false, List.mem_singleton, forall_eq, L2.start, List.map_cons, List.map_nil, List.length_cons, List.length_nil, List.replicate, List.cons_append, List.nil_append, Nat.sub_self, Nat.reduceAdd, Nat.reduceSub, List.set_cons_zero, List.set_cons_succ, L2.wipe, tYes, gCons, gNil, tCont, tAndF, tOrF, false_implies, L2.tSl, tNoPart, tPart, tBM, tyVs, Int.reduceLT, Int.reduceLE, CDiv, qSlS, tAug, qIpI, Int.zero_add, decide_true, decide_false, sz1, sz2, sz3, sz0, sz4, sz5, sz6, sz7, sz8, sz9, sz10, sz11, sz12, kV_s, kV_i, Nat.reduceLT, Nat.reduceLeDiff, true_implies, Option.isSome_some, Option.isSome_none, String.reduceBEq, Bool.or_false, Bool.or_true, Bool.false_or, Bool.true_or, Bool.and_true, Bool.and_false, Bool.true_and, Bool.false_and, R.aI et, T.c_Task, T.na_Task_maker, T.na_Task_runs, T.na_Task_rows, lk_rows, qIxL hc, ix, e1, r, Option.map_some, h0.1, h0.2, decide_true, optV]
          exact hq1 (by simp [atT, h0, e1, r])
        | some n =>
          simp only [tSeq, tIfS, tTest, tOp, tVar, L2.tC, tCB, tCons, tNil, tRet, tAsg, gName, gSub, tNot, tOr, tAnd, tFld, tB, tTru, tLM, tCallS, tMethW, tMakeW, tDrop, tNext, tUn, tTup, tLst, sFld, tChain, tAndV, tOrV, tNotV, tIf, tDNewK,
 qAddI, qAddS, qAddL, qMulI, qMulL, qSubI, qI, qUI, qEqS, qNeS, scNI, scIN, scNS, scSN, scNB, scBN, scNN, scII, scSS, scBB, scIS, scSI, scBS, scSB, qInL, qInT, qNiL, qNiT, qInDs, qNiDs, qInDi, qNiDi, qIxL, qIxT, qIxDs, qIxDi, qIxS, qSetL, qSetDs, qSetDi, qLenS, qLenL, qLenT, qLenD, qIs, okInt, okStr, okBool, okList, okTup, okDict, tyNon, tyBl, tyInt, tyStr, qTN, qTB, qTI, qTS, qTL, qLtI, qLeI, qGtI, qGeI, qApp, qCnt, qIdx, flN, flI, flS, flB, qIsL,
 isT_NoneType_int, isT_NoneType_str, isT_NoneType_bool, isT_NoneType_list, isT_NoneType_tuple, isT_NoneType_dict, isT_bool_int, isT_bool_str, isT_bool_bool, isT_bool_list, isT_bool_tuple, isT_bool_dict, isT_int_int, isT_int_str, isT_int_bool, isT_int_list, isT_int_tuple, isT_int_dict, isT_str_int, isT_str_str, isT_str_bool, isT_str_list, isT_str_tuple, isT_str_dict, isT_list_int, isT_list_str, isT_list_bool, isT_list_list, isT_list_tuple, isT_list_dict, isT_tuple_int, isT_tuple_str, isT_tuple_bool, isT_tuple_list, isT_tuple_tuple, isT_tuple_dict, isT_dict_int, isT_dict_str, isT_dict_bool, isT_dict_list, isT_dict_tuple, isT_dict_dict, cxB_K, WF, WE, List.getElem?_cons_zero, List.getElem?_cons_succ, Option.some.injEq, exists_eq_left', exists_eq_left, V.ref.injEq, V.int.injEq, V.str.injEq, V.bl.injEq, HO.ins.injEq, List.cons.injEq, and_true, true_and, exists_and_left, and_assoc, reduceCtorEq, false_and, and_false, exists_false, or_false, false_or, if_true, if_false, Bool.false_eq_true, Bool.not_true, Bool.not_false, ite_true, ite_false, List.mem_singleton, forall_eq, L2.start, List.map_cons, List.map_nil, List.length_cons, List.length_nil, List.replicate, List.cons_append, List.nil_append, Nat.sub_self, Nat.reduceAdd, Nat.reduceSub, List.set_cons_zero, List.set_cons_succ, L2.wipe, tYes, gCons, gNil, tCont, tAndF, tOrF, false_implies, L2.tSl, tNoPart, tPart, tBM, tyVs, Int.reduceLT, Int.reduceLE, CDiv, qSlS, tAug, qIpI, Int.zero_add, decide_true, decide_false, sz1, sz2, sz3, sz0, sz4, sz5, sz6, sz7, sz8, sz9, sz10, sz11, sz12, kV_s, kV_i, Nat.reduceLT, Nat.reduceLeDiff, true_implies, Option.isSome_some, Option.isSome_none, String.reduceBEq, Bool.or_false, Bool.or_true, Bool.false_or, Bool.true_or, Bool.and_true, Bool.and_false, Bool.true_and, Bool.false_and, R.aI et, T.c_Task, T.na_Task_maker, T.na_Task_runs, T.na_Task_rows, lk_rows, qIxL hc, ix, e1, r, Option.map_some, h0.1, h0.2, decide_true, optV]
          exact hq2 n (by simp [atT, h0, e1, r])
      · by_cases h1 : 0 ≤ k
        · have h2 : ¬ k < 16 := fun z => h0 ⟨h1, z⟩
          simp only [tSeq, tIfS, tTest, tOp, tVar, L2.tC, tCB, tCons, tNil, tRet, tAsg, gName, gSub, tNot, tOr, tAnd, tFld, tB, tTru, tLM, tCallS, tMethW, tMakeW, tDrop, tNext, tUn, tTup, tLst, sFld, tChain, tAndV, tOrV, tNotV, tIf, tDNewK,
 qAddI, qAddS, qAddL, qMulI, qMulL, qSubI, qI, qUI, qEqS, qNeS, scNI, scIN, scNS, scSN, scNB, scBN, scNN, scII, scSS, scBB, scIS, scSI, scBS, scSB, qInL, qInT, qNiL, qNiT, qInDs, qNiDs, qInDi, qNiDi, qIxL, qIxT, qIxDs, qIxDi, qIxS, qSetL, qSetDs, qSetDi, qLenS, qLenL, qLenT, qLenD, qIs, okInt, okStr, okBool, okList, okTup, okDict, tyNon, tyBl, tyInt, tyStr, qTN, qTB, qTI, qTS, qTL, qLtI, qLeI, qGtI, qGeI, qApp, qCnt, qIdx, flN, flI, flS, flB, qIsL,
 isT_NoneType_int, isT_NoneType_str, isT_NoneType_bool, isT_NoneType_list, isT_NoneType_tuple, isT_NoneType_dict, isT_bool_int, isT_bool_str, isT_bool_bool, isT_bool_list, isT_bool_tuple, isT_bool_dict, isT_int_int, isT_int_str, isT_int_bool, isT_int_list, isT_int_tuple, isT_int_dict, isT_str_int, isT_str_str, isT_str_bool, isT_str_list, isT_str_tuple, isT_str_dict, isT_list_int, isT_list_str, isT_list_bool, isT_list_list, isT_list_tuple, isT_list_dict, isT_tuple_int, isT_tuple_str, isT_tuple_bool, isT_tuple_list, isT_tuple_tuple, isT_tuple_dict, isT_dict_int, isT_dict_str, isT_dict_bool, isT_dict_list, isT_dict_tuple, isT_dict_dict, cxB_K, WF, WE, List.getElem?_cons_zero, List.getElem?_cons_succ, Option.some.injEq, exists_eq_left', exists_eq_left, V.ref.injEq, V.int.injEq, V.str.injEq, V.bl.injEq, HO.ins.injEq, List.cons.injEq, and_true, true_and, exists_and_left, and_assoc, reduceCtorEq, false_and, and_false, exists_false, or_false, false_or, if_true, if_false, Bool.false_eq_true, Bool.not_true, Bool.not_false, ite_true, ite_false, List.mem_singleton, forall_eq, L2.start, List.map_cons, List.map_nil, List.length_cons, List.length_nil, List.replicate, List.cons_append, List.nil_append, Nat.sub_self, Nat.reduceAdd, Nat.reduceSub, List.set_cons_zero, List.set_cons_succ, L2.wipe, tYes, gCons, gNil, tCont, tAndF, tOrF, false_implies, L2.tSl, tNoPart, tPart, tBM, tyVs, Int.reduceLT, Int.reduceLE, CDiv, qSlS, tAug, qIpI, Int.zero_add, decide_true, decide_false, sz1, sz2, sz3, sz0, sz4, sz5, sz6, sz7, sz8, sz9, sz10, sz11, sz12, kV_s, kV_i, Nat.reduceLT, Nat.reduceLeDiff, true_implies, Option.isSome_some, Option.isSome_none, String.reduceBEq, Bool.or_false, Bool.or_true, Bool.false_or, Bool.true_or, Bool.and_true, Bool.and_false, Bool.true_and, Bool.false_and, R.aI et, T.c_Task, T.na_Task_maker, T.na_Task_runs, T.na_Task_rows, lk_rows, h1, h2, decide_true, decide_false]
          exact hq1 (by simp [atT, h2])
        · simp only [tSeq, tIfS, tTest, tOp, tVar, L2.tC, tCB, tCons, tNil, tRet, tAsg, gName, gSub, tNot, tOr, tAnd, tFld, tB, tTru, tLM, tCallS, tMethW, tMakeW, tDrop, tNext, tUn, tTup, tLst, sFld, tChain, tAndV, tOrV, tNotV, tIf, tDNewK,
 qAddI, qAddS, qAddL, qMulI, qMulL, qSubI, qI, qUI, qEqS, qNeS, scNI, scIN, scNS, scSN, scNB, scBN, scNN, scII, scSS, scBB, scIS, scSI, scBS, scSB, qInL, qInT, qNiL, qNiT, qInDs, qNiDs, qInDi, qNiDi, qIxL, qIxT, qIxDs, qIxDi, qIxS, qSetL, qSetDs, qSetDi, qLenS, qLenL, qLenT, qLenD, qIs, okInt, okStr, okBool, okList, okTup, okDict, tyNon, tyBl, tyInt, tyStr, qTN, qTB, qTI, qTS, qTL, qLtI, qLeI, qGtI, qGeI, qApp, qCnt, qIdx, flN, flI, flS, flB, qIsL,
 isT_NoneType_int, isT_NoneType_str, isT_NoneType_bool, isT_NoneType_list, isT_NoneType_tuple, isT_NoneType_dict, isT_bool_int, isT_bool_str, isT_bool_bool, isT_bool_list, isT_bool_tuple, isT_bool_dict, isT_int_int, isT_int_str, isT_int_bool, isT_int_list, isT_int_tuple, isT_int_dict, isT_str_int, isT_str_str, isT_str_bool, isT_str_list, isT_str_tuple, isT_str_dict, isT_list_int, isT_list_str, isT_list_bool, isT_list_list, isT_list_tuple, isT_list_dict, isT_tuple_int, isT_tuple_str, isT_tuple_bool, isT_tuple_list, isT_tuple_tuple, isT_tuple_dict, isT_dict_int, isT_dict_str, isT_dict_bool, isT_dict_list, isT_dict_tuple, isT_dict_dict, cxB_K, WF, WE, List.getElem?_cons_zero, List.getElem?_cons_succ, Option.some.injEq, exists_eq_left', exists_eq_left, V.ref.injEq, V.int.injEq, V.str.injEq, V.bl.injEq, HO.ins.injEq, List.cons.injEq, and_true, true_and, exists_and_left, and_assoc, reduceCtorEq, false_and, and_false, exists_false, or_false, false_or, if_true, if_false, Bool.false_eq_true, Bool.not_true, Bool.not_false, ite_true, ite_false, List.mem_singleton, forall_eq, L2.start, List.map_cons, List.map_nil, List.length_cons, List.length_nil, List.replicate, List.cons_append, List.nil_append, Nat.sub_self, Nat.reduceAdd, Nat.reduceSub, List.set_cons_zero, List.set_cons_succ, L2.wipe, tYes, gCons, gNil, tCont, tAndF, tOrF, false_implies, L2.tSl, tNoPart, tPart, tBM, tyVs, Int.reduceLT, Int.reduceLE, CDiv, qSlS, tAug, qIpI, Int.zero_add, decide_true, decide_false, sz1, sz2, sz3, sz0, sz4, sz5, sz6, sz7, sz8, sz9, sz10, sz11, sz12, kV_s, kV_i, Nat.reduceLT, Nat.reduceLeDiff, true_implies, Option.isSome_some, Option.isSome_none, String.reduceBEq, Bool.or_false, Bool.or_true, Bool.false_or, Bool.true_or, Bool.and_true, Bool.and_false, Bool.true_and, Bool.false_and, R.aI et, T.c_Task, T.na_Task_maker, T.na_Task_runs, T.na_Task_rows, lk_rows, h1, decide_true, decide_false]
          exact hq1 (by simp [atT, h1])
    | ref a =>
      have ne := tyName_ref_int hm
      have q := hq1 rfl
      simp only [tSeq, tIfS, tTest, tOp, tVar, L2.tC, tCB, tCons, tNil, tRet, tAsg, gName, gSub, tNot, tOr, tAnd, tFld, tB, tTru, tLM, tCallS, tMethW, tMakeW, tDrop, tNext, tUn, tTup, tLst, sFld, tChain, tAndV, tOrV, tNotV, tIf, tDNewK,
 qAddI, qAddS, qAddL, qMulI, qMulL, qSubI, qI, qUI, qEqS, qNeS, scNI, scIN, scNS, scSN, scNB, scBN, scNN, scII, scSS, scBB, scIS, scSI, scBS, scSB, qInL, qInT, qNiL, qNiT, qInDs, qNiDs, qInDi, qNiDi, qIxL, qIxT, qIxDs, qIxDi, qIxS, qSetL, qSetDs, qSetDi, qLenS, qLenL, qLenT, qLenD, qIs, okInt, okStr, okBool, okList, okTup, okDict, tyNon, tyBl, tyInt, tyStr, qTN, qTB, qTI, qTS, qTL, qLtI, qLeI, qGtI, qGeI, qApp, qCnt, qIdx, flN, flI, flS, flB, qIsL,
 isT_NoneType_int, isT_NoneType_str, isT_NoneType_bool, isT_NoneType_list, isT_NoneType_tuple, isT_NoneType_dict, isT_bool_int, isT_bool_str, isT_bool_bool, isT_bool_list, isT_bool_tuple, isT_bool_dict, isT_int_int, isT_int_str, isT_int_bool, isT_int_list, isT_int_tuple, isT_int_dict, isT_str_int, isT_str_str, isT_str_bool, isT_str_list, isT_str_tuple, isT_str_dict, isT_list_int, isT_list_str, isT_list_bool, isT_list_list, isT_list_tuple, isT_list_dict, isT_tuple_int, isT_tuple_str, isT_tuple_bool, isT_tuple_list, isT_tuple_tuple, isT_tuple_dict, isT_dict_int, isT_dict_str, isT_dict_bool, isT_dict_list, isT_dict_tuple, isT_dict_dict, cxB_K, WF, WE, List.getElem?_cons_zero, List.getElem?_cons_succ, Option.some.injEq, exists_eq_left', exists_eq_left, V.ref.injEq, V.int.injEq, V.str.injEq, V.bl.injEq, HO.ins.injEq, List.cons.injEq, and_true, true_and, exists_and_left, and_assoc, reduceCtorEq, false_and, and_false, exists_false, or_false, false_or, if_true, if_false, Bool.false_eq_true, Bool.not_true, Bool.not_false, ite_true, ite_false, List.mem_singleton, forall_eq, L2.start, List.map_cons, List.map_nil, List.length_cons, List.length_nil, List.replicate, List.cons_append, List.nil_append, Nat.sub_self, Nat.reduceAdd, Nat.reduceSub, List.set_cons_zero, List.set_cons_succ, L2.wipe, tYes, gCons, gNil, tCont, tAndF, tOrF, false_implies, L2.tSl, tNoPart, tPart, tBM, tyVs, Int.reduceLT, Int.reduceLE, CDiv, qSlS, tAug, qIpI, Int.zero_add, decide_true, decide_false, sz1, sz2, sz3, sz0, sz4, sz5, sz6, sz7, sz8, sz9, sz10, sz11, sz12, kV_s, kV_i, Nat.reduceLT, Nat.reduceLeDiff, true_implies, Option.isSome_some, Option.isSome_none, String.reduceBEq, Bool.or_false, Bool.or_true, Bool.false_or, Bool.true_or, Bool.and_true, Bool.and_false, Bool.true_and, Bool.false_and, R.aI et, T.c_Task, T.na_Task_maker, T.na_Task_runs, T.na_Task_rows, lk_rows, hm, ne]
      exact q
    | byt _ => cases hk
    | flt _ => cases hk
    | ty _ => cases hk
    | _ =>
      have q := hq1 rfl
      simp only [tSeq, tIfS, tTest, tOp, tVar, L2.tC, tCB, tCons, tNil, tRet, tAsg, gName, gSub, tNot, tOr, tAnd, tFld, tB, tTru, tLM, tCallS, tMethW, tMakeW, tDrop, tNext, tUn, tTup, tLst, sFld, tChain, tAndV, tOrV, tNotV, tIf, tDNewK,
 qAddI, qAddS, qAddL, qMulI, qMulL, qSubI, qI, qUI, qEqS, qNeS, scNI, scIN, scNS, scSN, scNB, scBN, scNN, scII, scSS, scBB, scIS, scSI, scBS, scSB, qInL, qInT, qNiL, qNiT, qInDs, qNiDs, qInDi, qNiDi, qIxL, qIxT, qIxDs, qIxDi, qIxS, qSetL, qSetDs, qSetDi, qLenS, qLenL, qLenT, qLenD, qIs, okInt, okStr, okBool, okList, okTup, okDict, tyNon, tyBl, tyInt, tyStr, qTN, qTB, qTI, qTS, qTL, qLtI, qLeI, qGtI, qGeI, qApp, qCnt, qIdx, flN, flI, flS, flB, qIsL,
 isT_NoneType_int, isT_NoneType_str, isT_NoneType_bool, isT_NoneType_list, isT_NoneType_tuple, isT_NoneType_dict, isT_bool_int, isT_bool_str, isT_bool_bool, isT_bool_list, isT_bool_tuple, isT_bool_dict, isT_int_int, isT_int_str, isT_int_bool, isT_int_list, isT_int_tuple, isT_int_dict, isT_str_int, isT_str_str, isT_str_bool, isT_str_list, isT_str_tuple, isT_str_dict, isT_list_int, isT_list_str, isT_list_bool, isT_list_list, isT_list_tuple, isT_list_dict, isT_tuple_int, isT_tuple_str, isT_tuple_bool, isT_tuple_list, isT_tuple_tuple, isT_tuple_dict, isT_dict_int, isT_dict_str, isT_dict_bool, isT_dict_list, isT_dict_tuple, isT_dict_dict, cxB_K, WF, WE, List.getElem?_cons_zero, List.getElem?_cons_succ, Option.some.injEq, exists_eq_left', exists_eq_left, V.ref.injEq, V.int.injEq, V.str.injEq, V.bl.injEq, HO.ins.injEq, List.cons.injEq, and_true, true_and, exists_and_left, and_assoc, reduceCtorEq, false_and, and_false, exists_false, or_false, false_or, if_true, if_false, Bool.false_eq_true, Bool.not_true, Bool.not_false, ite_true, ite_false, List.mem_singleton, forall_eq, L2.start, List.map_cons, List.map_nil, List.length_cons, List.length_nil, List.replicate, List.cons_append, List.nil_append, Nat.sub_self, Nat.reduceAdd, Nat.reduceSub, List.set_cons_zero, List.set_cons_succ, L2.wipe, tYes, gCons, gNil, tCont, tAndF, tOrF, false_implies, L2.tSl, tNoPart, tPart, tBM, tyVs, Int.reduceLT, Int.reduceLE, CDiv, qSlS, tAug, qIpI, Int.zero_add, decide_true, decide_false, sz1, sz2, sz3, sz0, sz4, sz5, sz6, sz7, sz8, sz9, sz10, sz11, sz12, kV_s, kV_i, Nat.reduceLT, Nat.reduceLeDiff, true_implies, Option.isSome_some, Option.isSome_none, String.reduceBEq, Bool.or_false, Bool.or_true, Bool.false_or, Bool.true_or, Bool.and_true, Bool.and_false, Bool.true_and, Bool.false_and, R.aI et, T.c_Task, T.na_Task_maker, T.na_Task_runs, T.na_Task_rows, lk_rows]
      exact q
theorem m_Tasks_at (T : Tx K mg) : ∀ D, D ∈ [ga K "Tasks"] → MethW P w K mg base 2 "at" D ((fun _ => sp_at K) D) := one_cls T.c_Tasks T.me_Tasks_at (ok_Tasks_at T)
end
end Pk

namespace Pk
open PySem PySem.Spec PyProof.Rows L2
section
variable {P : Program} {w : World} {K : PySem.W.Frag} {mg : Str → Option Value} {base : Heap}
def sp_Task_init (K : PySem.W.Frag) : Sp := Sp.of (fun a : Addr × Str => [.ref a.1, .str a.2]) fun a H Q E => ∃ dx, H a.1 = some (.ins (ga K "Task") dx []) ∧ ∀ p H', H p = none →
  H' p = some (.lst (List.replicate 16 .non)) → H' a.1 = some (.ins (ga K "Task") dx (fTask a.2 true p)) → (∀ b o, b ≠ a.1 → H b = some o → H' b = some o) → Q .non H'
theorem ok_Task___init__ (T : Tx K mg) : Fw P w K mg base 1 (ma K (ga K "Task") "__init__") (sp_Task_init K) :=
  Fw.mk_of (T.d_Task___init__) sc_Task___init__ (fun _ _ _ _ _ _ us hl => match us, hl with | [_, _], _ => rfl) (fun _ => rfl) fun cdv Ar outer s H a Q E hr hb => by
    have hu := hr.units
    refine ⟨_, (pss_cons (ps_fld (pv 0) (pv 1) rfl)
    (pss_cons (ps_fld (pv 0) pe_bl rfl)
    (pss_one (ps_fld (pv 0) (pe_op op_mulF (pe_lst (pa_cons pe_non pa_nil)) (pe_gint T.i_SLOTS)) rfl)))), ?_⟩
    obtain ⟨p, m⟩ := a
    obtain ⟨dx, hp, hq⟩ := hb
    dsimp only at hp hq
    simp only [tSeq, tIfS, tTest, tOp, tVar, L2.tC, tCB, tCons, tNil, tRet, tAsg, gName, gSub, tNot, tOr, tAnd, tFld, tB, tTru, tLM, tCallS, tMethW, tMakeW, tDrop, tNext, tUn, tTup, tLst, sFld, tChain, tAndV, tOrV, tNotV, tIf, tDNewK,
 qAddI, qAddS, qAddL, qMulI, qMulL, qSubI, qI, qUI, qEqS, qNeS, scNI, scIN, scNS, scSN, scNB, scBN, scNN, scII, scSS, scBB, scIS, scSI, scBS, scSB, qInL, qInT, qNiL, qNiT, qInDs, qNiDs, qInDi, qNiDi, qIxL, qIxT, qIxDs, qIxDi, qIxS, qSetL, qSetDs, qSetDi, qLenS, qLenL, qLenT, qLenD, qIs, okInt, okStr, okBool, okList, okTup, okDict, tyNon, tyBl, tyInt, tyStr, qTN, qTB, qTI, qTS, qTL, qLtI, qLeI, qGtI, qGeI, qApp, qCnt, qIdx, flN, flI, flS, flB, qIsL,
 isT_NoneType_int, isT_NoneType_str, isT_NoneType_bool, isT_NoneType_list, isT_NoneType_tuple, isT_NoneType_dict, isT_bool_int, isT_bool_str, isT_bool_bool, isT_bool_list, isT_bool_tuple, isT_bool_dict, isT_int_int, isT_int_str, isT_int_bool, isT_int_list, isT_int_tuple, isT_int_dict, isT_str_int, isT_str_str, isT_str_bool, isT_str_list, isT_str_tuple, isT_str_dict, isT_list_int, isT_list_str, isT_list_bool, isT_list_list, isT_list_tuple, isT_list_dict, isT_tuple_int, isT_tuple_str, isT_tuple_bool, isT_tuple_list, isT_tuple_tuple, isT_tuple_dict, isT_dict_int, isT_dict_str, isT_dict_bool, isT_dict_list, isT_dict_tuple, isT_dict_dict, cxB_K, WF, WE, List.getElem?_cons_zero, List.getElem?_cons_succ, Option.some.injEq, exists_eq_left', exists_eq_left, V.ref.injEq, V.int.injEq, V.str.injEq, V.bl.injEq, HO.ins.injEq, List.cons.injEq, and_true, true_and, exists_and_left, and_assoc, reduceCtorEq, false_and, and_false, exists_false, or_false, false_or, if_true, if_false, Bool.false_eq_true, Bool.not_true, Bool.not_false, ite_true, ite_false, List.mem_singleton, forall_eq, L2.start, List.map_cons, List.map_nil, List.length_cons, List.length_nil, List.replicate, List.cons_append, List.nil_append, Nat.sub_self, Nat.reduceAdd, Nat.reduceSub, List.set_cons_zero, List.set_cons_succ, L2.wipe, tYes, gCons, gNil, tCont, tAndF, tOrF, false_implies, L2.tSl, tNoPart, tPart, tBM, tyVs, Int.reduceLT, Int.reduceLE, CDiv, qSlS, tAug, qIpI, Int.zero_add, decide_true, decide_false, sz1, sz2, sz3, sz0, sz4, sz5, sz6, sz7, sz8, sz9, sz10, sz11, sz12, kV_s, kV_i, Nat.reduceLT, Nat.reduceLeDiff, true_implies, Option.isSome_some, Option.isSome_none, String.reduceBEq, Bool.or_false, Bool.or_true, Bool.false_or, Bool.true_or, Bool.and_true, Bool.and_false, Bool.true_and, Bool.false_and, hp, T.c_Task, T.na_Task_maker, T.na_Task_runs, T.na_Task_rows, upd_same, putF]
    intro q hq0
    have nq : q ≠ p := fun z => by rw [z, upd_same] at hq0; cases hq0
    rw [upd_ne nq, upd_ne nq] at hq0
    simp only [tSeq, tIfS, tTest, tOp, tVar, L2.tC, tCB, tCons, tNil, tRet, tAsg, gName, gSub, tNot, tOr, tAnd, tFld, tB, tTru, tLM, tCallS, tMethW, tMakeW, tDrop, tNext, tUn, tTup, tLst, sFld, tChain, tAndV, tOrV, tNotV, tIf, tDNewK,
 qAddI, qAddS, qAddL, qMulI, qMulL, qSubI, qI, qUI, qEqS, qNeS, scNI, scIN, scNS, scSN, scNB, scBN, scNN, scII, scSS, scBB, scIS, scSI, scBS, scSB, qInL, qInT, qNiL, qNiT, qInDs, qNiDs, qInDi, qNiDi, qIxL, qIxT, qIxDs, qIxDi, qIxS, qSetL, qSetDs, qSetDi, qLenS, qLenL, qLenT, qLenD, qIs, okInt, okStr, okBool, okList, okTup, okDict, tyNon, tyBl, tyInt, tyStr, qTN, qTB, qTI, qTS, qTL, qLtI, qLeI, qGtI, qGeI, qApp, qCnt, qIdx, flN, flI, flS, flB, qIsL,
 isT_NoneType_int, isT_NoneType_str, isT_NoneType_bool, isT_NoneType_list, isT_NoneType_tuple, isT_NoneType_dict, isT_bool_int, isT_bool_str, isT_bool_bool, isT_bool_list, isT_bool_tuple, isT_bool_dict, isT_int_int, isT_int_str, isT_int_bool, isT_int_list, isT_int_tuple, isT_int_dict, isT_str_int, isT_str_str, isT_str_bool, isT_str_list, isT_str_tuple, isT_str_dict, isT_list_int, isT_list_str, isT_list_bool, isT_list_list, isT_list_tuple, isT_list_dict, isT_tuple_int, isT_tuple_str, isT_tuple_bool, isT_tuple_list, isT_tuple_tuple, isT_tuple_dict, isT_dict_int, isT_dict_str, isT_dict_bool, isT_dict_list, isT_dict_tuple, isT_dict_dict, cxB_K, WF, WE, List.getElem?_cons_zero, List.getElem?_cons_succ, Option.some.injEq, exists_eq_left', exists_eq_left, V.ref.injEq, V.int.injEq, V.str.injEq, V.bl.injEq, HO.ins.injEq, List.cons.injEq, and_true, true_and, exists_and_left, and_assoc, reduceCtorEq, false_and, and_false, exists_false, or_false, false_or, if_true, if_false, Bool.false_eq_true, Bool.not_true, Bool.not_false, ite_true, ite_false, List.mem_singleton, forall_eq, L2.start, List.map_cons, List.map_nil, List.length_cons, List.length_nil, List.replicate, List.cons_append, List.nil_append, Nat.sub_self, Nat.reduceAdd, Nat.reduceSub, List.set_cons_zero, List.set_cons_succ, L2.wipe, tYes, gCons, gNil, tCont, tAndF, tOrF, false_implies, L2.tSl, tNoPart, tPart, tBM, tyVs, Int.reduceLT, Int.reduceLE, CDiv, qSlS, tAug, qIpI, Int.zero_add, decide_true, decide_false, sz1, sz2, sz3, sz0, sz4, sz5, sz6, sz7, sz8, sz9, sz10, sz11, sz12, kV_s, kV_i, Nat.reduceLT, Nat.reduceLeDiff, true_implies, Option.isSome_some, Option.isSome_none, String.reduceBEq, Bool.or_false, Bool.or_true, Bool.false_or, Bool.true_or, Bool.and_true, Bool.and_false, Bool.true_and, Bool.false_and, qMulL upd_same]
    refine ⟨by decide, by decide, by rw [sizeLine_eq]; decide, ?_⟩
    intro r hr0
    have nrq : r ≠ q := fun z => by rw [z, upd_same] at hr0; cases hr0
    rw [upd_ne nrq] at hr0
    have nrp : r ≠ p := fun z => by rw [z, upd_same] at hr0; cases hr0
    rw [upd_ne nrp, upd_ne nrp] at hr0
    refine ⟨_, _, _, by rw [upd_ne nrp.symm, upd_ne nq.symm, upd_same], T.c_Task, T.na_Task_rows, ?_, ?_⟩
    · split <;> simp
    · refine hq r _ hr0 ?_ upd_same ?_
      · rw [upd_ne nrp, upd_same]; rfl
      · intro b o hb e
        have e1 := ne_of_none e hr0
        have e2 := ne_of_none e hq0
        rw [upd_ne hb, upd_ne e1, upd_ne e2, upd_ne hb, upd_ne hb]; exact e
def sp_Tasks_init (K : PySem.W.Frag) : Sp := Sp.of (fun a : Addr => [.ref a]) fun a H Q E => ∃ dx, H a = some (.ins (ga K "Tasks") dx []) ∧ H dx = some (.own a) ∧ ∀ A H', RepT K none A [] H' → A .tI = a → (∀ b o, b ≠ a → H b = some o → H' b = some o) → (∀ b, FT A 0 b → b = a ∨ b = dx ∨ H b = none) → Q .non H'
theorem ok_Tasks___init__ (T : Tx K mg) : Fw P w K mg base 1 (ma K (ga K "Tasks") "__init__") (sp_Tasks_init K) :=
  Fw.mk_of (T.d_Tasks___init__) sc_Tasks___init__ (fun _ _ _ _ _ _ us hl => match us, hl with | [_], _ => rfl) (fun _ => rfl) fun cdv Ar outer s H a Q E hr hb => by
    have hu := hr.units
    refine ⟨_, (pss_one (ps_fld (pv 0) pe_dnewK rfl)), ?_⟩
    obtain ⟨dx, hp, hx, hq⟩ := hb
    simp only [tSeq, tIfS, tTest, tOp, tVar, L2.tC, tCB, tCons, tNil, tRet, tAsg, gName, gSub, tNot, tOr, tAnd, tFld, tB, tTru, tLM, tCallS, tMethW, tMakeW, tDrop, tNext, tUn, tTup, tLst, sFld, tChain, tAndV, tOrV, tNotV, tIf, tDNewK,
 qAddI, qAddS, qAddL, qMulI, qMulL, qSubI, qI, qUI, qEqS, qNeS, scNI, scIN, scNS, scSN, scNB, scBN, scNN, scII, scSS, scBB, scIS, scSI, scBS, scSB, qInL, qInT, qNiL, qNiT, qInDs, qNiDs, qInDi, qNiDi, qIxL, qIxT, qIxDs, qIxDi, qIxS, qSetL, qSetDs, qSetDi, qLenS, qLenL, qLenT, qLenD, qIs, okInt, okStr, okBool, okList, okTup, okDict, tyNon, tyBl, tyInt, tyStr, qTN, qTB, qTI, qTS, qTL, qLtI, qLeI, qGtI, qGeI, qApp, qCnt, qIdx, flN, flI, flS, flB, qIsL,
 isT_NoneType_int, isT_NoneType_str, isT_NoneType_bool, isT_NoneType_list, isT_NoneType_tuple, isT_NoneType_dict, isT_bool_int, isT_bool_str, isT_bool_bool, isT_bool_list, isT_bool_tuple, isT_bool_dict, isT_int_int, isT_int_str, isT_int_bool, isT_int_list, isT_int_tuple, isT_int_dict, isT_str_int, isT_str_str, isT_str_bool, isT_str_list, isT_str_tuple, isT_str_dict, isT_list_int, isT_list_str, isT_list_bool, isT_list_list, isT_list_tuple, isT_list_dict, isT_tuple_int, isT_tuple_str, isT_tuple_bool, isT_tuple_list, isT_tuple_tuple, isT_tuple_dict, isT_dict_int, isT_dict_str, isT_dict_bool, isT_dict_list, isT_dict_tuple, isT_dict_dict, cxB_K, WF, WE, List.getElem?_cons_zero, List.getElem?_cons_succ, Option.some.injEq, exists_eq_left', exists_eq_left, V.ref.injEq, V.int.injEq, V.str.injEq, V.bl.injEq, HO.ins.injEq, List.cons.injEq, and_true, true_and, exists_and_left, and_assoc, reduceCtorEq, false_and, and_false, exists_false, or_false, false_or, if_true, if_false, Bool.false_eq_true, Bool.not_true, Bool.not_false, ite_true, ite_false, List.mem_singleton, forall_eq, L2.start, List.map_cons, List.map_nil, List.length_cons, List.length_nil, List.replicate, List.cons_append, List.nil_append, Nat.sub_self, Nat.reduceAdd, Nat.reduceSub, List.set_cons_zero, List.set_cons_succ, L2.wipe, tYes, gCons, gNil, tCont, tAndF, tOrF, false_implies, L2.tSl, tNoPart, tPart, tBM, tyVs, Int.reduceLT, Int.reduceLE, CDiv, qSlS, tAug, qIpI, Int.zero_add, decide_true, decide_false, sz1, sz2, sz3, sz0, sz4, sz5, sz6, sz7, sz8, sz9, sz10, sz11, sz12, kV_s, kV_i, Nat.reduceLT, Nat.reduceLeDiff, true_implies, Option.isSome_some, Option.isSome_none, String.reduceBEq, Bool.or_false, Bool.or_true, Bool.false_or, Bool.true_or, Bool.and_true, Bool.and_false, Bool.true_and, Bool.false_and, hp, T.c_Tasks, T.na_Tasks_known, upd_same, putF]
    intro q hq0
    have nq : q ≠ a := fun z => by rw [z, hp] at hq0; cases hq0
    have nd : dx ≠ a := fun z => by rw [z, hp] at hx; cases hx
    have nqd : q ≠ dx := fun z => by rw [z, hx] at hq0; cases hq0
    refine ⟨_, _, _, by rw [upd_ne nq.symm]; exact hp, T.c_Tasks, T.na_Tasks_known, by decide, ?_⟩
    refine hq (fun r => match r with | .tI => a | .tO => dx | _ => q) _ ⟨⟨?_, ?_⟩, ⟨List.nodup_nil, fun t h => (by cases h), by decide⟩⟩ rfl ?_ ?_
    · intro r o e
      cases r with
      | tI => cases e; exact upd_same
      | tO => cases e; dsimp only; rw [upd_ne nd, upd_ne nqd.symm]; exact hx
      | tK => cases e; dsimp only; rw [upd_ne nq]; exact upd_same
      | _ => cases e
    · intro r r' e e' z
      cases r <;> cases e <;> cases r' <;> cases e' <;> first | rfl | exact absurd z nd | exact absurd z.symm nd | exact absurd z nq | exact absurd z.symm nq | exact absurd z nqd | exact absurd z.symm nqd
    · intro b o hb e
      rw [upd_ne hb, upd_ne (ne_of_none e hq0)]; exact e
    · rintro b ⟨r, e, rfl⟩
      cases r with
      | tI => exact .inl rfl
      | tO => exact .inr (.inl rfl)
      | tK => exact .inr (.inr hq0)
      | _ => simp [liveT] at e
def sp_names (K : PySem.W.Frag) : Sp := Sp.of (fun a : Addr => [.ref a]) fun a H Q E => ∃ lk A ts, RepT K lk A ts H ∧ a = A .tI ∧ ∀ l, H l = none → Q (.ref l) (upd H l (.lst (ts.map fun t => .str t.name)))
theorem ok_Tasks_names (T : Tx K mg) : Fw P w K mg base 1 (ma K (ga K "Tasks") "names") (sp_names K) :=
  Fw.mk_of (T.d_Tasks_names) sc_Tasks_names (fun _ _ _ _ _ _ us hl => match us, hl with | [_], _ => rfl) (fun _ => rfl) fun cdv Ar outer s H a Q E hr hb => by
    have hu := hr.units
    refine ⟨_, (pss_one (ps_ret (pe_callTy (call_listU rfl) (by rfl) T.n_list (by decide +kernel) (pa_cons (pe_fld (pv 0) rfl) pa_nil)))), ?_⟩
    obtain ⟨lk, A, ts, R, hp, hq⟩ := hb
    subst hp
    simp only [tSeq, tIfS, tTest, tOp, tVar, L2.tC, tCB, tCons, tNil, tRet, tAsg, gName, gSub, tNot, tOr, tAnd, tFld, tB, tTru, tLM, tCallS, tMethW, tMakeW, tDrop, tNext, tUn, tTup, tLst, sFld, tChain, tAndV, tOrV, tNotV, tIf, tDNewK,
 qAddI, qAddS, qAddL, qMulI, qMulL, qSubI, qI, qUI, qEqS, qNeS, scNI, scIN, scNS, scSN, scNB, scBN, scNN, scII, scSS, scBB, scIS, scSI, scBS, scSB, qInL, qInT, qNiL, qNiT, qInDs, qNiDs, qInDi, qNiDi, qIxL, qIxT, qIxDs, qIxDi, qIxS, qSetL, qSetDs, qSetDi, qLenS, qLenL, qLenT, qLenD, qIs, okInt, okStr, okBool, okList, okTup, okDict, tyNon, tyBl, tyInt, tyStr, qTN, qTB, qTI, qTS, qTL, qLtI, qLeI, qGtI, qGeI, qApp, qCnt, qIdx, flN, flI, flS, flB, qIsL,
 isT_NoneType_int, isT_NoneType_str, isT_NoneType_bool, isT_NoneType_list, isT_NoneType_tuple, isT_NoneType_dict, isT_bool_int, isT_bool_str, isT_bool_bool, isT_bool_list, isT_bool_tuple, isT_bool_dict, isT_int_int, isT_int_str, isT_int_bool, isT_int_list, isT_int_tuple, isT_int_dict, isT_str_int, isT_str_str, isT_str_bool, isT_str_list, isT_str_tuple, isT_str_dict, isT_list_int, isT_list_str, isT_list_bool, isT_list_list, isT_list_tuple, isT_list_dict, isT_tuple_int, isT_tuple_str, isT_tuple_bool, isT_tuple_list, isT_tuple_tuple, isT_tuple_dict, isT_dict_int, isT_dict_str, isT_dict_bool, isT_dict_list, isT_dict_tuple, isT_dict_dict, cxB_K, WF, WE, List.getElem?_cons_zero, List.getElem?_cons_succ, Option.some.injEq, exists_eq_left', exists_eq_left, V.ref.injEq, V.int.injEq, V.str.injEq, V.bl.injEq, HO.ins.injEq, List.cons.injEq, and_true, true_and, exists_and_left, and_assoc, reduceCtorEq, false_and, and_false, exists_false, or_false, false_or, if_true, if_false, Bool.false_eq_true, Bool.not_true, Bool.not_false, ite_true, ite_false, List.mem_singleton, forall_eq, L2.start, List.map_cons, List.map_nil, List.length_cons, List.length_nil, List.replicate, List.cons_append, List.nil_append, Nat.sub_self, Nat.reduceAdd, Nat.reduceSub, List.set_cons_zero, List.set_cons_succ, L2.wipe, tYes, gCons, gNil, tCont, tAndF, tOrF, false_implies, L2.tSl, tNoPart, tPart, tBM, tyVs, Int.reduceLT, Int.reduceLE, CDiv, qSlS, tAug, qIpI, Int.zero_add, decide_true, decide_false, sz1, sz2, sz3, sz0, sz4, sz5, sz6, sz7, sz8, sz9, sz10, sz11, sz12, kV_s, kV_i, Nat.reduceLT, Nat.reduceLeDiff, true_implies, Option.isSome_some, Option.isSome_none, String.reduceBEq, Bool.or_false, Bool.or_true, Bool.false_or, Bool.true_or, Bool.and_true, Bool.and_false, Bool.true_and, Bool.false_and, R.tI, T.c_Tasks, T.na_Tasks_known, lk_known, qLiD R.tK]
    rw [keys_tKvs]
    exact hq
def sp_running (K : PySem.W.Frag) : Sp := Sp.of (fun a : Addr => [.ref a]) fun a H Q E => ∃ A ts, RepT K none A ts H ∧ a = A .tI ∧ ∀ l H', H l = none → Same H H' → H' l = some (.lst ((running ts).map fun t => .str t.name)) → Q (.ref l) H'
theorem ok_Tasks_running (T : Tx K mg) : Fw P w K mg base 1 (ma K (ga K "Tasks") "running") (sp_running K) :=
  Fw.mk_of (T.d_Tasks_running) sc_Tasks_running (fun _ _ _ _ _ _ us hl => match us, hl with | [_], _ => rfl) (fun _ => rfl) fun cdv Ar outer s H a Q E hr hb => by
    have hu := hr.units
    refine ⟨_, (pss_one (ps_ret (pe_lock (pe_lc (by rfl) sc_Tasks_running.nd (pi_items (pe_fld (pv 0) rfl)) (blkOk_by (own := [("name", 1), ("task", 2)]) (N := ["self", "name", "task"]) (sc := defScope s_Tasks_running) (by decide +kernel)) (fun _ _ _ _ _ => by exact (pg_tupB (K := K) (n := 2) rfl rfl (pgs_cons (pg_name (i := 1) sc_Tasks_running.nd rfl (by first | exact Or.inl rfl | exact Or.inr rfl)) (pgs_cons (pg_name (i := 2) sc_Tasks_running.nd rfl (by first | exact Or.inl rfl | exact Or.inr rfl)) pgs_nil)))) (fun _ _ _ _ _ => by exact (pts_one (pt_truF (pe_fldB (K := K) rfl (pv 2) rfl) (by intro _; rfl)))) (fun _ _ _ _ _ => by exact (pv 1)))))), ?_⟩
    obtain ⟨A, ts, R, hp, hq⟩ := hb
    subst hp
    simp only [tSeq, tIfS, tTest, tOp, tVar, L2.tC, tCB, tCons, tNil, tRet, tAsg, gName, gSub, tNot, tOr, tAnd, tFld, tB, tTru, tLM, tCallS, tMethW, tMakeW, tDrop, tNext, tUn, tTup, tLst, sFld, tChain, tAndV, tOrV, tNotV, tIf, tDNewK,
 qAddI, qAddS, qAddL, qMulI, qMulL, qSubI, qI, qUI, qEqS, qNeS, scNI, scIN, scNS, scSN, scNB, scBN, scNN, scII, scSS, scBB, scIS, scSI, scBS, scSB, qInL, qInT, qNiL, qNiT, qInDs, qNiDs, qInDi, qNiDi, qIxL, qIxT, qIxDs, qIxDi, qIxS, qSetL, qSetDs, qSetDi, qLenS, qLenL, qLenT, qLenD, qIs, okInt, okStr, okBool, okList, okTup, okDict, tyNon, tyBl, tyInt, tyStr, qTN, qTB, qTI, qTS, qTL, qLtI, qLeI, qGtI, qGeI, qApp, qCnt, qIdx, flN, flI, flS, flB, qIsL,
 isT_NoneType_int, isT_NoneType_str, isT_NoneType_bool, isT_NoneType_list, isT_NoneType_tuple, isT_NoneType_dict, isT_bool_int, isT_bool_str, isT_bool_bool, isT_bool_list, isT_bool_tuple, isT_bool_dict, isT_int_int, isT_int_str, isT_int_bool, isT_int_list, isT_int_tuple, isT_int_dict, isT_str_int, isT_str_str, isT_str_bool, isT_str_list, isT_str_tuple, isT_str_dict, isT_list_int, isT_list_str, isT_list_bool, isT_list_list, isT_list_tuple, isT_list_dict, isT_tuple_int, isT_tuple_str, isT_tuple_bool, isT_tuple_list, isT_tuple_tuple, isT_tuple_dict, isT_dict_int, isT_dict_str, isT_dict_bool, isT_dict_list, isT_dict_tuple, isT_dict_dict, cxB_K, WF, WE, List.getElem?_cons_zero, List.getElem?_cons_succ, Option.some.injEq, exists_eq_left', exists_eq_left, V.ref.injEq, V.int.injEq, V.str.injEq, V.bl.injEq, HO.ins.injEq, List.cons.injEq, and_true, true_and, exists_and_left, and_assoc, reduceCtorEq, false_and, and_false, exists_false, or_false, false_or, if_true, if_false, Bool.false_eq_true, Bool.not_true, Bool.not_false, ite_true, ite_false, List.mem_singleton, forall_eq, L2.start, List.map_cons, List.map_nil, List.length_cons, List.length_nil, List.replicate, List.cons_append, List.nil_append, Nat.sub_self, Nat.reduceAdd, Nat.reduceSub, List.set_cons_zero, List.set_cons_succ, L2.wipe, tYes, gCons, gNil, tCont, tAndF, tOrF, false_implies, L2.tSl, tNoPart, tPart, tBM, tyVs, Int.reduceLT, Int.reduceLE, CDiv, qSlS, tAug, qIpI, Int.zero_add, decide_true, decide_false, sz1, sz2, sz3, sz0, sz4, sz5, sz6, sz7, sz8, sz9, sz10, sz11, sz12, kV_s, kV_i, Nat.reduceLT, Nat.reduceLeDiff, true_implies, Option.isSome_some, Option.isSome_none, String.reduceBEq, Bool.or_false, Bool.or_true, Bool.false_or, Bool.true_or, Bool.and_true, Bool.and_false, Bool.true_and, Bool.false_and, R.tI, T.c_Tasks, T.na_Tasks_known, lk_known]
    refine ⟨A .tK, _, R.tKn, trivial, fun od => ?_⟩
    have RL := R.lock od
    refine ⟨_, rfl, A .tI, _, _, _, _, rfl, RL.tI, T.c_Tasks, T.na_Tasks_known, rfl, A .tK, od, _, rfl, RL.tKs, ?_⟩
    intro D hD
    refine lc_map walk_items (src := ts) (by simp [tKvs]) (·.runs) (fun t => .str t.name) (fun H2 s2 => s2 _ _ RL.tKs) hD (by simp [tKvs]; have := R.wf.few; omega) ?_ ?_
    · rintro i t x H2 H3 C N et s2 ⟨q, k, v, rfl, hq0, rfl, hk, hv⟩ hC hN
      have e1 : (tKvs A ts)[i]? = some (Sum.inr t.name, .ref (A (.aI i))) := by simp [tKvs, et]
      dsimp only at hk hv
      rw [e1] at hk hv
      cases hk
      cases hv
      refine ⟨q, _, rfl, .inl (.inl upd_same), rfl, ?_⟩
      have R2 := (RL.same s2).same (same_upd (o := .tup [.str t.name, .ref (A (.aI i))]) hq0)
      have s3 : Same H2 (upd H2 q (.tup [.str t.name, .ref (A (.aI i))])) := same_upd hq0
      refine ⟨_, _, rfl, _, _, rfl, rfl, rfl, ?_⟩
      have ea := R2.aI et
      simp only [tSeq, tIfS, tTest, tOp, tVar, L2.tC, tCB, tCons, tNil, tRet, tAsg, gName, gSub, tNot, tOr, tAnd, tFld, tB, tTru, tLM, tCallS, tMethW, tMakeW, tDrop, tNext, tUn, tTup, tLst, sFld, tChain, tAndV, tOrV, tNotV, tIf, tDNewK,
 qAddI, qAddS, qAddL, qMulI, qMulL, qSubI, qI, qUI, qEqS, qNeS, scNI, scIN, scNS, scSN, scNB, scBN, scNN, scII, scSS, scBB, scIS, scSI, scBS, scSB, qInL, qInT, qNiL, qNiT, qInDs, qNiDs, qInDi, qNiDi, qIxL, qIxT, qIxDs, qIxDi, qIxS, qSetL, qSetDs, qSetDi, qLenS, qLenL, qLenT, qLenD, qIs, okInt, okStr, okBool, okList, okTup, okDict, tyNon, tyBl, tyInt, tyStr, qTN, qTB, qTI, qTS, qTL, qLtI, qLeI, qGtI, qGeI, qApp, qCnt, qIdx, flN, flI, flS, flB, qIsL,
 isT_NoneType_int, isT_NoneType_str, isT_NoneType_bool, isT_NoneType_list, isT_NoneType_tuple, isT_NoneType_dict, isT_bool_int, isT_bool_str, isT_bool_bool, isT_bool_list, isT_bool_tuple, isT_bool_dict, isT_int_int, isT_int_str, isT_int_bool, isT_int_list, isT_int_tuple, isT_int_dict, isT_str_int, isT_str_str, isT_str_bool, isT_str_list, isT_str_tuple, isT_str_dict, isT_list_int, isT_list_str, isT_list_bool, isT_list_list, isT_list_tuple, isT_list_dict, isT_tuple_int, isT_tuple_str, isT_tuple_bool, isT_tuple_list, isT_tuple_tuple, isT_tuple_dict, isT_dict_int, isT_dict_str, isT_dict_bool, isT_dict_list, isT_dict_tuple, isT_dict_dict, cxB_K, WF, WE, List.getElem?_cons_zero, List.getElem?_cons_succ, Option.some.injEq, exists_eq_left', exists_eq_left, V.ref.injEq, V.int.injEq, V.str.injEq, V.bl.injEq, HO.ins.injEq, List.cons.injEq, and_true, true_and, exists_and_left, and_assoc, reduceCtorEq, false_and, and_false, exists_false, or_false, false_or, if_true, if_false, Bool.false_eq_true, Bool.not_true, Bool.not_false, ite_true, ite_false, List.mem_singleton, forall_eq, L2.start, List.map_cons, List.map_nil, List.length_cons, List.length_nil, List.replicate, List.cons_append, List.nil_append, Nat.sub_self, Nat.reduceAdd, Nat.reduceSub, List.set_cons_zero, List.set_cons_succ, L2.wipe, tYes, gCons, gNil, tCont, tAndF, tOrF, false_implies, L2.tSl, tNoPart, tPart, tBM, tyVs, Int.reduceLT, Int.reduceLE, CDiv, qSlS, tAug, qIpI, Int.zero_add, decide_true, decide_false, sz1, sz2, sz3, sz0, sz4, sz5, sz6, sz7, sz8, sz9, sz10, sz11, sz12, kV_s, kV_i, Nat.reduceLT, Nat.reduceLeDiff, true_implies, Option.isSome_some, Option.isSome_none, String.reduceBEq, Bool.or_false, Bool.or_true, Bool.false_or, Bool.true_or, Bool.and_true, Bool.and_false, Bool.true_and, Bool.false_and, R2.aI et, T.c_Task, T.na_Task_maker, T.na_Task_runs, T.na_Task_rows, lk_runs]
      cases hrn : t.runs with
      | true => exact hC hrn _ s3
      | false => exact hN hrn _ s3
    · intro H2 s2 hD2
      refine ⟨s2 _ _ RL.tKs, ?_⟩
      have nD : D ≠ A .tK := fun z => by rw [z, upd_same] at hD; cases hD
      rw [upd_ne nD] at hD
      refine hq D _ hD (same_unlock R.tKn s2) ?_
      rw [upd_ne nD]
      exact hD2
def sp_slots (K : PySem.W.Frag) : Sp := Sp.of (fun a : Addr × V => [.ref a.1, a.2]) fun a H Q E => ∃ lk A ts, RepT K lk A ts H ∧ a.1 = A .tI ∧ (tyName H a.2).isSome = true ∧
  (runIx ts a.2 = none → E (.ref (ga K "NoTask")) none H) ∧ ∀ i t, runIx ts a.2 = some i → ts[i]? = some t → ∀ l ps H', H l = none → Same H H' → H' l = some (.lst ps) →
    Paired (fun (x : Int × Int) y => ∃ q, y = .ref q ∧ H q = none ∧ H' q = some (.tup [.int x.1, .int x.2])) (slotsOf t.rows) ps → Q (.ref l) H'
theorem ok_Tasks_slots (T : Tx K mg) : Fw P w K mg base 2 (ma K (ga K "Tasks") "slots") (sp_slots K) :=
  Fw.mk_of (T.d_Tasks_slots) sc_Tasks_slots (fun _ _ _ _ _ _ us hl => match us, hl with | [_, _], _ => rfl) (fun _ => rfl) fun cdv Ar outer s H a Q E hr hb => by
    have hu := hr.units
    refine ⟨_, (pss_one (ps_ret (pe_lc (by rfl) sc_Tasks_slots.nd (pi_enum (by rfl) T.n_enumerate (pa_cons (pe_fld (pe_methW (pv 0) (m_Tasks_running_one T) (hr.mono (by decide)) (fun σ => L2N.passAt tkF σ) (pa_cons (pv 1) pa_nil)) rfl) pa_nil)) (blkOk_by (own := [("slot", 2), ("number", 3)]) (N := ["self", "name", "slot", "number"]) (sc := defScope s_Tasks_slots) (by decide +kernel)) (fun _ _ _ _ _ => by exact (pg_tupB (K := K) (n := 2) rfl rfl (pgs_cons (pg_name (i := 2) sc_Tasks_slots.nd rfl (by first | exact Or.inl rfl | exact Or.inr rfl)) (pgs_cons (pg_name (i := 3) sc_Tasks_slots.nd rfl (by first | exact Or.inl rfl | exact Or.inr rfl)) pgs_nil)))) (fun _ _ _ _ _ => by exact (pts_one (pt_cmpR op_notN (pv 3) pe_non (nomark _)))) (fun _ _ _ _ _ => by exact (pe_tup (pa_cons (pv 2) (pa_cons (pv 3) pa_nil))))))), ?_⟩
    obtain ⟨p, v⟩ := a
    obtain ⟨lk, A, ts, R, hp, hv, he, hq⟩ := hb
    dsimp only at hp hv hq he
    subst hp
    simp only [tSeq, tIfS, tTest, tOp, tVar, L2.tC, tCB, tCons, tNil, tRet, tAsg, gName, gSub, tNot, tOr, tAnd, tFld, tB, tTru, tLM, tCallS, tMethW, tMakeW, tDrop, tNext, tUn, tTup, tLst, sFld, tChain, tAndV, tOrV, tNotV, tIf, tDNewK,
 qAddI, qAddS, qAddL, qMulI, qMulL, qSubI, qI, qUI, qEqS, qNeS, scNI, scIN, scNS, scSN, scNB, scBN, scNN, scII, scSS, scBB, scIS, scSI, scBS, scSB, qInL, qInT, qNiL, qNiT, qInDs, qNiDs, qInDi, qNiDi, qIxL, qIxT, qIxDs, qIxDi, qIxS, qSetL, qSetDs, qSetDi, qLenS, qLenL, qLenT, qLenD, qIs, okInt, okStr, okBool, okList, okTup, okDict, tyNon, tyBl, tyInt, tyStr, qTN, qTB, qTI, qTS, qTL, qLtI, qLeI, qGtI, qGeI, qApp, qCnt, qIdx, flN, flI, flS, flB, qIsL,
 isT_NoneType_int, isT_NoneType_str, isT_NoneType_bool, isT_NoneType_list, isT_NoneType_tuple, isT_NoneType_dict, isT_bool_int, isT_bool_str, isT_bool_bool, isT_bool_list, isT_bool_tuple, isT_bool_dict, isT_int_int, isT_int_str, isT_int_bool, isT_int_list, isT_int_tuple, isT_int_dict, isT_str_int, isT_str_str, isT_str_bool, isT_str_list, isT_str_tuple, isT_str_dict, isT_list_int, isT_list_str, isT_list_bool, isT_list_list, isT_list_tuple, isT_list_dict, isT_tuple_int, isT_tuple_str, isT_tuple_bool, isT_tuple_list, isT_tuple_tuple, isT_tuple_dict, isT_dict_int, isT_dict_str, isT_dict_bool, isT_dict_list, isT_dict_tuple, isT_dict_dict, cxB_K, WF, WE, List.getElem?_cons_zero, List.getElem?_cons_succ, Option.some.injEq, exists_eq_left', exists_eq_left, V.ref.injEq, V.int.injEq, V.str.injEq, V.bl.injEq, HO.ins.injEq, List.cons.injEq, and_true, true_and, exists_and_left, and_assoc, reduceCtorEq, false_and, and_false, exists_false, or_false, false_or, if_true, if_false, Bool.false_eq_true, Bool.not_true, Bool.not_false, ite_true, ite_false, List.mem_singleton, forall_eq, L2.start, List.map_cons, List.map_nil, List.length_cons, List.length_nil, List.replicate, List.cons_append, List.nil_append, Nat.sub_self, Nat.reduceAdd, Nat.reduceSub, List.set_cons_zero, List.set_cons_succ, L2.wipe, tYes, gCons, gNil, tCont, tAndF, tOrF, false_implies, L2.tSl, tNoPart, tPart, tBM, tyVs, Int.reduceLT, Int.reduceLE, CDiv, qSlS, tAug, qIpI, Int.zero_add, decide_true, decide_false, sz1, sz2, sz3, sz0, sz4, sz5, sz6, sz7, sz8, sz9, sz10, sz11, sz12, kV_s, kV_i, Nat.reduceLT, Nat.reduceLeDiff, true_implies, Option.isSome_some, Option.isSome_none, String.reduceBEq, Bool.or_false, Bool.or_true, Bool.false_or, Bool.true_or, Bool.and_true, Bool.and_false, Bool.true_and, Bool.false_and, R.tI, T.c_Tasks, T.na_Tasks_known, lk_known]
    refine ⟨_, rfl, A .tI, _, _, _, rfl, R.tI, List.mem_singleton.mpr rfl, rfl, _, rfl, (A .tI, v), rfl, lk, A, ts, R, rfl, hv, fun i hi => ?_, he⟩
    obtain ⟨t, et, _, _⟩ := runIx_get hi
    have hc := R.aR et
    have hq1 := hq i t hi et
    refine ⟨_, _, _, _, _, rfl, R.aI et, T.c_Task, T.na_Task_rows, rfl, _, _, rfl, .inl (.inl hc), ?_⟩
    intro D hD
    refine lc_gen walk_enum (src := t.rows.zipIdx) (by simp) (·.1.isSome) (fun a y H2 => ∃ q, y = .ref q ∧ H q = none ∧ H2 q = some (.tup [.int a.2, .int (a.1.getD 0)])) ?_ (fun H2 s2 => .inl (.inl (s2 _ _ hc))) hD (by simp [R.wf.rows t (List.mem_of_getElem? et)]) ?_ ?_
    · rintro a y H2 H3 kp ⟨q, rfl, h0, h1⟩
      exact ⟨q, rfl, h0, kp _ _ (fun l z => by cases z) h1⟩
    · rintro j a x H2 H3 C N ea s2 ⟨q, k, u, rfl, hq0, rfl, hk, hv⟩ hC hN
      dsimp only at hk hv
      rw [List.getElem?_zipIdx] at ea
      cases eo : t.rows[j]? with
      | none => rw [eo] at ea; cases ea
      | some o =>
        rw [eo] at ea
        cases ea
        rw [List.getElem?_map, eo] at hv
        cases hk
        cases hv
        have hq1 : H q = none := none_of s2 hq0
        have s3 : Same H2 (upd H2 q (.tup [.int j, optV o])) := same_upd hq0
        refine ⟨q, _, rfl, .inl (.inl upd_same), rfl, _, _, rfl, _, _, rfl, rfl, rfl, ?_⟩
        cases o with
        | none =>
          simp only [tSeq, tIfS, tTest, tOp, tVar, L2.tC, tCB, tCons, tNil, tRet, tAsg, gName, gSub, tNot, tOr, tAnd, tFld, tB, tTru, tLM, tCallS, tMethW, tMakeW, tDrop, tNext, tUn, tTup, tLst, sFld, tChain, tAndV, tOrV, tNotV, tIf, tDNewK,
 qAddI, qAddS, qAddL, qMulI, qMulL, qSubI, qI, qUI, qEqS, qNeS, scNI, scIN, scNS, scSN, scNB, scBN, scNN, scII, scSS, scBB, scIS, scSI, scBS, scSB, qInL, qInT, qNiL, qNiT, qInDs, qNiDs, qInDi, qNiDi, qIxL, qIxT, qIxDs, qIxDi, qIxS, qSetL, qSetDs, qSetDi, qLenS, qLenL, qLenT, qLenD, qIs, okInt, okStr, okBool, okList, okTup, okDict, tyNon, tyBl, tyInt, tyStr, qTN, qTB, qTI, qTS, qTL, qLtI, qLeI, qGtI, qGeI, qApp, qCnt, qIdx, flN, flI, flS, flB, qIsL,
 isT_NoneType_int, isT_NoneType_str, isT_NoneType_bool, isT_NoneType_list, isT_NoneType_tuple, isT_NoneType_dict, isT_bool_int, isT_bool_str, isT_bool_bool, isT_bool_list, isT_bool_tuple, isT_bool_dict, isT_int_int, isT_int_str, isT_int_bool, isT_int_list, isT_int_tuple, isT_int_dict, isT_str_int, isT_str_str, isT_str_bool, isT_str_list, isT_str_tuple, isT_str_dict, isT_list_int, isT_list_str, isT_list_bool, isT_list_list, isT_list_tuple, isT_list_dict, isT_tuple_int, isT_tuple_str, isT_tuple_bool, isT_tuple_list, isT_tuple_tuple, isT_tuple_dict, isT_dict_int, isT_dict_str, isT_dict_bool, isT_dict_list, isT_dict_tuple, isT_dict_dict, cxB_K, WF, WE, List.getElem?_cons_zero, List.getElem?_cons_succ, Option.some.injEq, exists_eq_left', exists_eq_left, V.ref.injEq, V.int.injEq, V.str.injEq, V.bl.injEq, HO.ins.injEq, List.cons.injEq, and_true, true_and, exists_and_left, and_assoc, reduceCtorEq, false_and, and_false, exists_false, or_false, false_or, if_true, if_false, Bool.false_eq_true, Bool.not_true, Bool.not_false, ite_true, ite_false, List.mem_singleton, forall_eq, L2.start, List.map_cons, List.map_nil, List.length_cons, List.length_nil, List.replicate, List.cons_append, List.nil_append, Nat.sub_self, Nat.reduceAdd, Nat.reduceSub, List.set_cons_zero, List.set_cons_succ, L2.wipe, tYes, gCons, gNil, tCont, tAndF, tOrF, false_implies, L2.tSl, tNoPart, tPart, tBM, tyVs, Int.reduceLT, Int.reduceLE, CDiv, qSlS, tAug, qIpI, Int.zero_add, decide_true, decide_false, sz1, sz2, sz3, sz0, sz4, sz5, sz6, sz7, sz8, sz9, sz10, sz11, sz12, kV_s, kV_i, Nat.reduceLT, Nat.reduceLeDiff, true_implies, Option.isSome_some, Option.isSome_none, String.reduceBEq, Bool.or_false, Bool.or_true, Bool.false_or, Bool.true_or, Bool.and_true, Bool.and_false, Bool.true_and, Bool.false_and, optV]
          exact hN rfl _ s3
        | some n =>
          simp only [tSeq, tIfS, tTest, tOp, tVar, L2.tC, tCB, tCons, tNil, tRet, tAsg, gName, gSub, tNot, tOr, tAnd, tFld, tB, tTru, tLM, tCallS, tMethW, tMakeW, tDrop, tNext, tUn, tTup, tLst, sFld, tChain, tAndV, tOrV, tNotV, tIf, tDNewK,
 qAddI, qAddS, qAddL, qMulI, qMulL, qSubI, qI, qUI, qEqS, qNeS, scNI, scIN, scNS, scSN, scNB, scBN, scNN, scII, scSS, scBB, scIS, scSI, scBS, scSB, qInL, qInT, qNiL, qNiT, qInDs, qNiDs, qInDi, qNiDi, qIxL, qIxT, qIxDs, qIxDi, qIxS, qSetL, qSetDs, qSetDi, qLenS, qLenL, qLenT, qLenD, qIs, okInt, okStr, okBool, okList, okTup, okDict, tyNon, tyBl, tyInt, tyStr, qTN, qTB, qTI, qTS, qTL, qLtI, qLeI, qGtI, qGeI, qApp, qCnt, qIdx, flN, flI, flS, flB, qIsL,
 isT_NoneType_int, isT_NoneType_str, isT_NoneType_bool, isT_NoneType_list, isT_NoneType_tuple, isT_NoneType_dict, isT_bool_int, isT_bool_str, isT_bool_bool, isT_bool_list, isT_bool_tuple, isT_bool_dict, isT_int_int, isT_int_str, isT_int_bool, isT_int_list, isT_int_tuple, isT_int_dict, isT_str_int, isT_str_str, isT_str_bool, isT_str_list, isT_str_tuple, isT_str_dict, isT_list_int, isT_list_str, isT_list_bool, isT_list_list, isT_list_tuple, isT_list_dict, isT_tuple_int, isT_tuple_str, isT_tuple_bool, isT_tuple_list, isT_tuple_tuple, isT_tuple_dict, isT_dict_int, isT_dict_str, isT_dict_bool, isT_dict_list, isT_dict_tuple, isT_dict_dict, cxB_K, WF, WE, List.getElem?_cons_zero, List.getElem?_cons_succ, Option.some.injEq, exists_eq_left', exists_eq_left, V.ref.injEq, V.int.injEq, V.str.injEq, V.bl.injEq, HO.ins.injEq, List.cons.injEq, and_true, true_and, exists_and_left, and_assoc, reduceCtorEq, false_and, and_false, exists_false, or_false, false_or, if_true, if_false, Bool.false_eq_true, Bool.not_true, Bool.not_false, ite_true, ite_false, List.mem_singleton, forall_eq, L2.start, List.map_cons, List.map_nil, List.length_cons, List.length_nil, List.replicate, List.cons_append, List.nil_append, Nat.sub_self, Nat.reduceAdd, Nat.reduceSub, List.set_cons_zero, List.set_cons_succ, L2.wipe, tYes, gCons, gNil, tCont, tAndF, tOrF, false_implies, L2.tSl, tNoPart, tPart, tBM, tyVs, Int.reduceLT, Int.reduceLE, CDiv, qSlS, tAug, qIpI, Int.zero_add, decide_true, decide_false, sz1, sz2, sz3, sz0, sz4, sz5, sz6, sz7, sz8, sz9, sz10, sz11, sz12, kV_s, kV_i, Nat.reduceLT, Nat.reduceLeDiff, true_implies, Option.isSome_some, Option.isSome_none, String.reduceBEq, Bool.or_false, Bool.or_true, Bool.false_or, Bool.true_or, Bool.and_true, Bool.and_false, Bool.true_and, Bool.false_and, optV]
          intro q2 hq2
          refine hC rfl _ _ (s3.trans (same_upd hq2)) ⟨q2, rfl, ?_, ?_⟩
          · exact none_of (s2.trans s3) hq2
          · rw [upd_same]; simp
    · intro H2 ys s2 hD2 hp
      refine hq1 D ys H2 hD s2 hD2 ?_
      exact paired_map hp
end
end Pk

namespace Pk
open PySem PySem.Spec PyProof.Rows L2
def addedE (ts : List TaskS) (v : V) (mk : Str) : Except Str (List TaskS) :=
  if isName v = false then .error "NoName" else match v with
  | .str z => if (findT ts z).isSome then .error "Taken" else if mk ≠ "" ∧ runIx ts (.str mk) = none then .error "NoTask" else if 12 ≤ (running ts).length then .error "TooMany"
    else .ok (ts ++ [⟨z, mk, true, List.replicate 16 none⟩])
  | _ => .error "NoName"
section
variable {P : Program} {w : World} {K : PySem.W.Frag} {mg : Str → Option Value} {base : Heap}
theorem m_Tasks_running (T : Tx K mg) : ∀ D, D ∈ [ga K "Tasks"] → MethW P w K mg base 1 "running" D ((fun _ => sp_running K) D) := one_cls T.c_Tasks T.me_Tasks_running (ok_Tasks_running T)
theorem m_Tasks_names (T : Tx K mg) : ∀ D, D ∈ [ga K "Tasks"] → MethW P w K mg base 1 "names" D ((fun _ => sp_names K) D) := one_cls T.c_Tasks T.me_Tasks_names (ok_Tasks_names T)
theorem m_Tasks_slots (T : Tx K mg) : ∀ D, D ∈ [ga K "Tasks"] → MethW P w K mg base 2 "slots" D ((fun _ => sp_slots K) D) := one_cls T.c_Tasks T.me_Tasks_slots (ok_Tasks_slots T)
def sp_added (K : PySem.W.Frag) : Sp := Sp.of (fun a : Addr × V × Str => [.ref a.1, a.2.1, .str a.2.2]) fun a H Q E => ∃ A ts, RepT K none A ts H ∧ a.1 = A .tI ∧ (tyName H a.2.1).isSome = true ∧ (∀ z, a.2.1 = .str z → z.length ≤ 1000) ∧ ts.length < 1000 ∧
  (∀ c, addedE ts a.2.1 a.2.2 = .error c → ∀ H', Same H H' → E (.ref (ga K c)) none H') ∧
  ∀ ts', addedE ts a.2.1 a.2.2 = .ok ts' → ∀ A' H', RepT K none A' ts' H' → A' .tI = A .tI → Upd H (FT A ts.length) H' (FT A' ts'.length) → Q .non H'
theorem ok_Tasks_added (T : Tx K mg) : Fw P w K mg base 3 (ma K (ga K "Tasks") "added") (sp_added K) :=
  Fw.mk_of (T.d_Tasks_added) sc_Tasks_added (fun _ _ _ _ _ _ us hl => match us, hl with | [_, _, _], _ => rfl) (fun _ => rfl) fun cdv Ar outer s H a Q E hr hb => by
    have hu := hr.units
    refine ⟨_, (pss_cons (ps_if (pt_not (pt_truF (pe_callW (ok_is_name T) (hr.mono (by decide)) T.g_is_name (fun σ => L2N.passAt tkF σ) (pa_cons (pv 1) pa_nil)) (by intro _; rfl))) (pss_one (ps_raiseW rfl tkF T.g_NoName T.x_NoName T.xn_NoName)) pss_nil)
    (pss_cons (ps_if (pt_cmpR (op_inF hu) (pv 1) (pe_fld (pv 0) rfl) (by rfl)) (pss_one (ps_raiseW rfl tkF T.g_Taken T.x_Taken T.xn_Taken)) pss_nil)
    (pss_consC (ps_if (pt_cmpR (op_neF hu) (pv 2) pe_str (nomark _)) (pss_one (ps_expr (pe_methW (pv 0) (m_Tasks_need T) (hr.mono (by decide)) (fun σ => L2N.passAt tkF σ) (pa_cons (pv 2) pa_nil)))) pss_nil)
    (pss_cons (ps_if (pt_cmpR op_geF (pe_callB call_lenF (by rfl) T.n_len (by decide +kernel) (pa_cons (pe_methW0 (pv 0) (m_Tasks_running T) (hr.mono (by decide)) (fun σ => L2N.passAt tkF σ)) pa_nil)) (pe_gint T.i_MOST_TASKS) (nomark _)) (pss_one (ps_raiseW rfl tkF T.g_TooMany T.x_TooMany T.xn_TooMany)) pss_nil)
    (pss_one (ps_asg (pe_makeW T.mk_Task (ok_Task___init__ T) (hr.mono (by decide)) T.g_Task (passF tkF) (pa_cons (pv 2) pa_nil)) (pg_sub (pe_fld (pv 0) rfl) (pv 1) (set_F hu)))))))), ?_⟩
    obtain ⟨p, v, mk⟩ := a
    obtain ⟨A, ts, R, hp, hv, hl, few, he, hq⟩ := hb
    dsimp only at hp hv hq he hl
    subst hp
    simp only [tSeq, tIfS, tTest, tOp, tVar, L2.tC, tCB, tCons, tNil, tRet, tAsg, gName, gSub, tNot, tOr, tAnd, tFld, tB, tTru, tLM, tCallS, tMethW, tMakeW, tDrop, tNext, tUn, tTup, tLst, sFld, tChain, tAndV, tOrV, tNotV, tIf, tDNewK,
 qAddI, qAddS, qAddL, qMulI, qMulL, qSubI, qI, qUI, qEqS, qNeS, scNI, scIN, scNS, scSN, scNB, scBN, scNN, scII, scSS, scBB, scIS, scSI, scBS, scSB, qInL, qInT, qNiL, qNiT, qInDs, qNiDs, qInDi, qNiDi, qIxL, qIxT, qIxDs, qIxDi, qIxS, qSetL, qSetDs, qSetDi, qLenS, qLenL, qLenT, qLenD, qIs, okInt, okStr, okBool, okList, okTup, okDict, tyNon, tyBl, tyInt, tyStr, qTN, qTB, qTI, qTS, qTL, qLtI, qLeI, qGtI, qGeI, qApp, qCnt, qIdx, flN, flI, flS, flB, qIsL,
 isT_NoneType_int, isT_NoneType_str, isT_NoneType_bool, isT_NoneType_list, isT_NoneType_tuple, isT_NoneType_dict, isT_bool_int, isT_bool_str, isT_bool_bool, isT_bool_list, isT_bool_tuple, isT_bool_dict, isT_int_int, isT_int_str, isT_int_bool, isT_int_list, isT_int_tuple, isT_int_dict, isT_str_int, isT_str_str, isT_str_bool, isT_str_list, isT_str_tuple, isT_str_dict, isT_list_int, isT_list_str, isT_list_bool, isT_list_list, isT_list_tuple, isT_list_dict, isT_tuple_int, isT_tuple_str, isT_tuple_bool, isT_tuple_list, isT_tuple_tuple, isT_tuple_dict, isT_dict_int, isT_dict_str, isT_dict_bool, isT_dict_list, isT_dict_tuple, isT_dict_dict, cxB_K, WF, WE, List.getElem?_cons_zero, List.getElem?_cons_succ, Option.some.injEq, exists_eq_left', exists_eq_left, V.ref.injEq, V.int.injEq, V.str.injEq, V.bl.injEq, HO.ins.injEq, List.cons.injEq, and_true, true_and, exists_and_left, and_assoc, reduceCtorEq, false_and, and_false, exists_false, or_false, false_or, if_true, if_false, Bool.false_eq_true, Bool.not_true, Bool.not_false, ite_true, ite_false, List.mem_singleton, forall_eq, L2.start, List.map_cons, List.map_nil, List.length_cons, List.length_nil, List.replicate, List.cons_append, List.nil_append, Nat.sub_self, Nat.reduceAdd, Nat.reduceSub, List.set_cons_zero, List.set_cons_succ, L2.wipe, tYes, gCons, gNil, tCont, tAndF, tOrF, false_implies, L2.tSl, tNoPart, tPart, tBM, tyVs, Int.reduceLT, Int.reduceLE, CDiv, qSlS, tAug, qIpI, Int.zero_add, decide_true, decide_false, sz1, sz2, sz3, sz0, sz4, sz5, sz6, sz7, sz8, sz9, sz10, sz11, sz12, kV_s, kV_i, Nat.reduceLT, Nat.reduceLeDiff, true_implies, Option.isSome_some, Option.isSome_none, String.reduceBEq, Bool.or_false, Bool.or_true, Bool.false_or, Bool.true_or, Bool.and_true, Bool.and_false, Bool.true_and, Bool.false_and, R.tI, T.c_Tasks, T.na_Tasks_known, lk_known]
    refine ⟨v, rfl, hv, hl, fun H1 s1 => ?_⟩
    have R1 := R.same s1
    cases hn : isName v with
    | false =>
      simp only [tSeq, tIfS, tTest, tOp, tVar, L2.tC, tCB, tCons, tNil, tRet, tAsg, gName, gSub, tNot, tOr, tAnd, tFld, tB, tTru, tLM, tCallS, tMethW, tMakeW, tDrop, tNext, tUn, tTup, tLst, sFld, tChain, tAndV, tOrV, tNotV, tIf, tDNewK,
 qAddI, qAddS, qAddL, qMulI, qMulL, qSubI, qI, qUI, qEqS, qNeS, scNI, scIN, scNS, scSN, scNB, scBN, scNN, scII, scSS, scBB, scIS, scSI, scBS, scSB, qInL, qInT, qNiL, qNiT, qInDs, qNiDs, qInDi, qNiDi, qIxL, qIxT, qIxDs, qIxDi, qIxS, qSetL, qSetDs, qSetDi, qLenS, qLenL, qLenT, qLenD, qIs, okInt, okStr, okBool, okList, okTup, okDict, tyNon, tyBl, tyInt, tyStr, qTN, qTB, qTI, qTS, qTL, qLtI, qLeI, qGtI, qGeI, qApp, qCnt, qIdx, flN, flI, flS, flB, qIsL,
 isT_NoneType_int, isT_NoneType_str, isT_NoneType_bool, isT_NoneType_list, isT_NoneType_tuple, isT_NoneType_dict, isT_bool_int, isT_bool_str, isT_bool_bool, isT_bool_list, isT_bool_tuple, isT_bool_dict, isT_int_int, isT_int_str, isT_int_bool, isT_int_list, isT_int_tuple, isT_int_dict, isT_str_int, isT_str_str, isT_str_bool, isT_str_list, isT_str_tuple, isT_str_dict, isT_list_int, isT_list_str, isT_list_bool, isT_list_list, isT_list_tuple, isT_list_dict, isT_tuple_int, isT_tuple_str, isT_tuple_bool, isT_tuple_list, isT_tuple_tuple, isT_tuple_dict, isT_dict_int, isT_dict_str, isT_dict_bool, isT_dict_list, isT_dict_tuple, isT_dict_dict, cxB_K, WF, WE, List.getElem?_cons_zero, List.getElem?_cons_succ, Option.some.injEq, exists_eq_left', exists_eq_left, V.ref.injEq, V.int.injEq, V.str.injEq, V.bl.injEq, HO.ins.injEq, List.cons.injEq, and_true, true_and, exists_and_left, and_assoc, reduceCtorEq, false_and, and_false, exists_false, or_false, false_or, if_true, if_false, Bool.false_eq_true, Bool.not_true, Bool.not_false, ite_true, ite_false, List.mem_singleton, forall_eq, L2.start, List.map_cons, List.map_nil, List.length_cons, List.length_nil, List.replicate, List.cons_append, List.nil_append, Nat.sub_self, Nat.reduceAdd, Nat.reduceSub, List.set_cons_zero, List.set_cons_succ, L2.wipe, tYes, gCons, gNil, tCont, tAndF, tOrF, false_implies, L2.tSl, tNoPart, tPart, tBM, tyVs, Int.reduceLT, Int.reduceLE, CDiv, qSlS, tAug, qIpI, Int.zero_add, decide_true, decide_false, sz1, sz2, sz3, sz0, sz4, sz5, sz6, sz7, sz8, sz9, sz10, sz11, sz12, kV_s, kV_i, Nat.reduceLT, Nat.reduceLeDiff, true_implies, Option.isSome_some, Option.isSome_none, String.reduceBEq, Bool.or_false, Bool.or_true, Bool.false_or, Bool.true_or, Bool.and_true, Bool.and_false, Bool.true_and, Bool.false_and, R1.tI, T.c_Tasks, T.na_Tasks_known, lk_known]
      exact he _ (by simp [addedE, hn]) _ s1
    | true =>
      cases v with
      | str z =>
        cases f : findT ts z with
        | some i =>
          have vk := valV_tKvs A ts z
          rw [f] at vk
          simp only [tSeq, tIfS, tTest, tOp, tVar, L2.tC, tCB, tCons, tNil, tRet, tAsg, gName, gSub, tNot, tOr, tAnd, tFld, tB, tTru, tLM, tCallS, tMethW, tMakeW, tDrop, tNext, tUn, tTup, tLst, sFld, tChain, tAndV, tOrV, tNotV, tIf, tDNewK,
 qAddI, qAddS, qAddL, qMulI, qMulL, qSubI, qI, qUI, qEqS, qNeS, scNI, scIN, scNS, scSN, scNB, scBN, scNN, scII, scSS, scBB, scIS, scSI, scBS, scSB, qInL, qInT, qNiL, qNiT, qInDs, qNiDs, qInDi, qNiDi, qIxL, qIxT, qIxDs, qIxDi, qIxS, qSetL, qSetDs, qSetDi, qLenS, qLenL, qLenT, qLenD, qIs, okInt, okStr, okBool, okList, okTup, okDict, tyNon, tyBl, tyInt, tyStr, qTN, qTB, qTI, qTS, qTL, qLtI, qLeI, qGtI, qGeI, qApp, qCnt, qIdx, flN, flI, flS, flB, qIsL,
 isT_NoneType_int, isT_NoneType_str, isT_NoneType_bool, isT_NoneType_list, isT_NoneType_tuple, isT_NoneType_dict, isT_bool_int, isT_bool_str, isT_bool_bool, isT_bool_list, isT_bool_tuple, isT_bool_dict, isT_int_int, isT_int_str, isT_int_bool, isT_int_list, isT_int_tuple, isT_int_dict, isT_str_int, isT_str_str, isT_str_bool, isT_str_list, isT_str_tuple, isT_str_dict, isT_list_int, isT_list_str, isT_list_bool, isT_list_list, isT_list_tuple, isT_list_dict, isT_tuple_int, isT_tuple_str, isT_tuple_bool, isT_tuple_list, isT_tuple_tuple, isT_tuple_dict, isT_dict_int, isT_dict_str, isT_dict_bool, isT_dict_list, isT_dict_tuple, isT_dict_dict, cxB_K, WF, WE, List.getElem?_cons_zero, List.getElem?_cons_succ, Option.some.injEq, exists_eq_left', exists_eq_left, V.ref.injEq, V.int.injEq, V.str.injEq, V.bl.injEq, HO.ins.injEq, List.cons.injEq, and_true, true_and, exists_and_left, and_assoc, reduceCtorEq, false_and, and_false, exists_false, or_false, false_or, if_true, if_false, Bool.false_eq_true, Bool.not_true, Bool.not_false, ite_true, ite_false, List.mem_singleton, forall_eq, L2.start, List.map_cons, List.map_nil, List.length_cons, List.length_nil, List.replicate, List.cons_append, List.nil_append, Nat.sub_self, Nat.reduceAdd, Nat.reduceSub, List.set_cons_zero, List.set_cons_succ, L2.wipe, tYes, gCons, gNil, tCont, tAndF, tOrF, false_implies, L2.tSl, tNoPart, tPart, tBM, tyVs, Int.reduceLT, Int.reduceLE, CDiv, qSlS, tAug, qIpI, Int.zero_add, decide_true, decide_false, sz1, sz2, sz3, sz0, sz4, sz5, sz6, sz7, sz8, sz9, sz10, sz11, sz12, kV_s, kV_i, Nat.reduceLT, Nat.reduceLeDiff, true_implies, Option.isSome_some, Option.isSome_none, String.reduceBEq, Bool.or_false, Bool.or_true, Bool.false_or, Bool.true_or, Bool.and_true, Bool.and_false, Bool.true_and, Bool.false_and, R1.tI, T.c_Tasks, T.na_Tasks_known, lk_known, qInDs R1.tK, vk, Option.map_some]
          exact he _ (by simp [addedE, hn, f]) _ s1
        | none =>
          have vk := valV_tKvs A ts z
          rw [f] at vk
          simp only [tSeq, tIfS, tTest, tOp, tVar, L2.tC, tCB, tCons, tNil, tRet, tAsg, gName, gSub, tNot, tOr, tAnd, tFld, tB, tTru, tLM, tCallS, tMethW, tMakeW, tDrop, tNext, tUn, tTup, tLst, sFld, tChain, tAndV, tOrV, tNotV, tIf, tDNewK,
 qAddI, qAddS, qAddL, qMulI, qMulL, qSubI, qI, qUI, qEqS, qNeS, scNI, scIN, scNS, scSN, scNB, scBN, scNN, scII, scSS, scBB, scIS, scSI, scBS, scSB, qInL, qInT, qNiL, qNiT, qInDs, qNiDs, qInDi, qNiDi, qIxL, qIxT, qIxDs, qIxDi, qIxS, qSetL, qSetDs, qSetDi, qLenS, qLenL, qLenT, qLenD, qIs, okInt, okStr, okBool, okList, okTup, okDict, tyNon, tyBl, tyInt, tyStr, qTN, qTB, qTI, qTS, qTL, qLtI, qLeI, qGtI, qGeI, qApp, qCnt, qIdx, flN, flI, flS, flB, qIsL,
 isT_NoneType_int, isT_NoneType_str, isT_NoneType_bool, isT_NoneType_list, isT_NoneType_tuple, isT_NoneType_dict, isT_bool_int, isT_bool_str, isT_bool_bool, isT_bool_list, isT_bool_tuple, isT_bool_dict, isT_int_int, isT_int_str, isT_int_bool, isT_int_list, isT_int_tuple, isT_int_dict, isT_str_int, isT_str_str, isT_str_bool, isT_str_list, isT_str_tuple, isT_str_dict, isT_list_int, isT_list_str, isT_list_bool, isT_list_list, isT_list_tuple, isT_list_dict, isT_tuple_int, isT_tuple_str, isT_tuple_bool, isT_tuple_list, isT_tuple_tuple, isT_tuple_dict, isT_dict_int, isT_dict_str, isT_dict_bool, isT_dict_list, isT_dict_tuple, isT_dict_dict, cxB_K, WF, WE, List.getElem?_cons_zero, List.getElem?_cons_succ, Option.some.injEq, exists_eq_left', exists_eq_left, V.ref.injEq, V.int.injEq, V.str.injEq, V.bl.injEq, HO.ins.injEq, List.cons.injEq, and_true, true_and, exists_and_left, and_assoc, reduceCtorEq, false_and, and_false, exists_false, or_false, false_or, if_true, if_false, Bool.false_eq_true, Bool.not_true, Bool.not_false, ite_true, ite_false, List.mem_singleton, forall_eq, L2.start, List.map_cons, List.map_nil, List.length_cons, List.length_nil, List.replicate, List.cons_append, List.nil_append, Nat.sub_self, Nat.reduceAdd, Nat.reduceSub, List.set_cons_zero, List.set_cons_succ, L2.wipe, tYes, gCons, gNil, tCont, tAndF, tOrF, false_implies, L2.tSl, tNoPart, tPart, tBM, tyVs, Int.reduceLT, Int.reduceLE, CDiv, qSlS, tAug, qIpI, Int.zero_add, decide_true, decide_false, sz1, sz2, sz3, sz0, sz4, sz5, sz6, sz7, sz8, sz9, sz10, sz11, sz12, kV_s, kV_i, Nat.reduceLT, Nat.reduceLeDiff, true_implies, Option.isSome_some, Option.isSome_none, String.reduceBEq, Bool.or_false, Bool.or_true, Bool.false_or, Bool.true_or, Bool.and_true, Bool.and_false, Bool.true_and, Bool.false_and, R1.tI, T.c_Tasks, T.na_Tasks_known, lk_known, qInDs R1.tK, vk, Option.map_none]
          refine cut_at (fun σ' H' => σ' = [some (.ref (A .tI)), some (.str z), some (.str mk)] ∧ H' = H1 ∧ ¬ (mk ≠ "" ∧ runIx ts (.str mk) = none)) (fun N hN => ?_) ?_
          · by_cases em : mk = ""
            · subst em
              simp only [tSeq, tIfS, tTest, tOp, tVar, L2.tC, tCB, tCons, tNil, tRet, tAsg, gName, gSub, tNot, tOr, tAnd, tFld, tB, tTru, tLM, tCallS, tMethW, tMakeW, tDrop, tNext, tUn, tTup, tLst, sFld, tChain, tAndV, tOrV, tNotV, tIf, tDNewK,
 qAddI, qAddS, qAddL, qMulI, qMulL, qSubI, qI, qUI, qEqS, qNeS, scNI, scIN, scNS, scSN, scNB, scBN, scNN, scII, scSS, scBB, scIS, scSI, scBS, scSB, qInL, qInT, qNiL, qNiT, qInDs, qNiDs, qInDi, qNiDi, qIxL, qIxT, qIxDs, qIxDi, qIxS, qSetL, qSetDs, qSetDi, qLenS, qLenL, qLenT, qLenD, qIs, okInt, okStr, okBool, okList, okTup, okDict, tyNon, tyBl, tyInt, tyStr, qTN, qTB, qTI, qTS, qTL, qLtI, qLeI, qGtI, qGeI, qApp, qCnt, qIdx, flN, flI, flS, flB, qIsL,
 isT_NoneType_int, isT_NoneType_str, isT_NoneType_bool, isT_NoneType_list, isT_NoneType_tuple, isT_NoneType_dict, isT_bool_int, isT_bool_str, isT_bool_bool, isT_bool_list, isT_bool_tuple, isT_bool_dict, isT_int_int, isT_int_str, isT_int_bool, isT_int_list, isT_int_tuple, isT_int_dict, isT_str_int, isT_str_str, isT_str_bool, isT_str_list, isT_str_tuple, isT_str_dict, isT_list_int, isT_list_str, isT_list_bool, isT_list_list, isT_list_tuple, isT_list_dict, isT_tuple_int, isT_tuple_str, isT_tuple_bool, isT_tuple_list, isT_tuple_tuple, isT_tuple_dict, isT_dict_int, isT_dict_str, isT_dict_bool, isT_dict_list, isT_dict_tuple, isT_dict_dict, cxB_K, WF, WE, List.getElem?_cons_zero, List.getElem?_cons_succ, Option.some.injEq, exists_eq_left', exists_eq_left, V.ref.injEq, V.int.injEq, V.str.injEq, V.bl.injEq, HO.ins.injEq, List.cons.injEq, and_true, true_and, exists_and_left, and_assoc, reduceCtorEq, false_and, and_false, exists_false, or_false, false_or, if_true, if_false, Bool.false_eq_true, Bool.not_true, Bool.not_false, ite_true, ite_false, List.mem_singleton, forall_eq, L2.start, List.map_cons, List.map_nil, List.length_cons, List.length_nil, List.replicate, List.cons_append, List.nil_append, Nat.sub_self, Nat.reduceAdd, Nat.reduceSub, List.set_cons_zero, List.set_cons_succ, L2.wipe, tYes, gCons, gNil, tCont, tAndF, tOrF, false_implies, L2.tSl, tNoPart, tPart, tBM, tyVs, Int.reduceLT, Int.reduceLE, CDiv, qSlS, tAug, qIpI, Int.zero_add, decide_true, decide_false, sz1, sz2, sz3, sz0, sz4, sz5, sz6, sz7, sz8, sz9, sz10, sz11, sz12, kV_s, kV_i, Nat.reduceLT, Nat.reduceLeDiff, true_implies, Option.isSome_some, Option.isSome_none, String.reduceBEq, Bool.or_false, Bool.or_true, Bool.false_or, Bool.true_or, Bool.and_true, Bool.and_false, Bool.true_and, Bool.false_and]
              exact hN _ _ ⟨rfl, rfl, fun z => z.1 rfl⟩
            · have e2 : (V.str mk = V.str "") = False := by simp [em]
              simp only [tSeq, tIfS, tTest, tOp, tVar, L2.tC, tCB, tCons, tNil, tRet, tAsg, gName, gSub, tNot, tOr, tAnd, tFld, tB, tTru, tLM, tCallS, tMethW, tMakeW, tDrop, tNext, tUn, tTup, tLst, sFld, tChain, tAndV, tOrV, tNotV, tIf, tDNewK,
 qAddI, qAddS, qAddL, qMulI, qMulL, qSubI, qI, qUI, qEqS, qNeS, scNI, scIN, scNS, scSN, scNB, scBN, scNN, scII, scSS, scBB, scIS, scSI, scBS, scSB, qInL, qInT, qNiL, qNiT, qInDs, qNiDs, qInDi, qNiDi, qIxL, qIxT, qIxDs, qIxDi, qIxS, qSetL, qSetDs, qSetDi, qLenS, qLenL, qLenT, qLenD, qIs, okInt, okStr, okBool, okList, okTup, okDict, tyNon, tyBl, tyInt, tyStr, qTN, qTB, qTI, qTS, qTL, qLtI, qLeI, qGtI, qGeI, qApp, qCnt, qIdx, flN, flI, flS, flB, qIsL,
 isT_NoneType_int, isT_NoneType_str, isT_NoneType_bool, isT_NoneType_list, isT_NoneType_tuple, isT_NoneType_dict, isT_bool_int, isT_bool_str, isT_bool_bool, isT_bool_list, isT_bool_tuple, isT_bool_dict, isT_int_int, isT_int_str, isT_int_bool, isT_int_list, isT_int_tuple, isT_int_dict, isT_str_int, isT_str_str, isT_str_bool, isT_str_list, isT_str_tuple, isT_str_dict, isT_list_int, isT_list_str, isT_list_bool, isT_list_list, isT_list_tuple, isT_list_dict, isT_tuple_int, isT_tuple_str, isT_tuple_bool, isT_tuple_list, isT_tuple_tuple, isT_tuple_dict, isT_dict_int, isT_dict_str, isT_dict_bool, isT_dict_list, isT_dict_tuple, isT_dict_dict, cxB_K, WF, WE, List.getElem?_cons_zero, List.getElem?_cons_succ, Option.some.injEq, exists_eq_left', exists_eq_left, V.ref.injEq, V.int.injEq, V.str.injEq, V.bl.injEq, HO.ins.injEq, List.cons.injEq, and_true, true_and, exists_and_left, and_assoc, reduceCtorEq, false_and, and_false, exists_false, or_false, false_or, if_true, if_false, Bool.false_eq_true, Bool.not_true, Bool.not_false, ite_true, ite_false, List.mem_singleton, forall_eq, L2.start, List.map_cons, List.map_nil, List.length_cons, List.length_nil, List.replicate, List.cons_append, List.nil_append, Nat.sub_self, Nat.reduceAdd, Nat.reduceSub, List.set_cons_zero, List.set_cons_succ, L2.wipe, tYes, gCons, gNil, tCont, tAndF, tOrF, false_implies, L2.tSl, tNoPart, tPart, tBM, tyVs, Int.reduceLT, Int.reduceLE, CDiv, qSlS, tAug, qIpI, Int.zero_add, decide_true, decide_false, sz1, sz2, sz3, sz0, sz4, sz5, sz6, sz7, sz8, sz9, sz10, sz11, sz12, kV_s, kV_i, Nat.reduceLT, Nat.reduceLeDiff, true_implies, Option.isSome_some, Option.isSome_none, String.reduceBEq, Bool.or_false, Bool.or_true, Bool.false_or, Bool.true_or, Bool.and_true, Bool.and_false, Bool.true_and, Bool.false_and, em, R1.tI]
              refine ⟨rfl, (A .tI, .str mk), rfl, none, A, ts, R1, rfl, rfl, fun hs => ?_, fun hs => ?_⟩
              · refine hN _ _ ⟨rfl, rfl, fun z => ?_⟩
                rw [z.2] at hs; cases hs
              · exact he _ (by simp [addedE, hn, f, em, hs]) _ s1
          · rintro σ' H' ⟨rfl, rfl, hm⟩
            simp only [tSeq, tIfS, tTest, tOp, tVar, L2.tC, tCB, tCons, tNil, tRet, tAsg, gName, gSub, tNot, tOr, tAnd, tFld, tB, tTru, tLM, tCallS, tMethW, tMakeW, tDrop, tNext, tUn, tTup, tLst, sFld, tChain, tAndV, tOrV, tNotV, tIf, tDNewK,
 qAddI, qAddS, qAddL, qMulI, qMulL, qSubI, qI, qUI, qEqS, qNeS, scNI, scIN, scNS, scSN, scNB, scBN, scNN, scII, scSS, scBB, scIS, scSI, scBS, scSB, qInL, qInT, qNiL, qNiT, qInDs, qNiDs, qInDi, qNiDi, qIxL, qIxT, qIxDs, qIxDi, qIxS, qSetL, qSetDs, qSetDi, qLenS, qLenL, qLenT, qLenD, qIs, okInt, okStr, okBool, okList, okTup, okDict, tyNon, tyBl, tyInt, tyStr, qTN, qTB, qTI, qTS, qTL, qLtI, qLeI, qGtI, qGeI, qApp, qCnt, qIdx, flN, flI, flS, flB, qIsL,
 isT_NoneType_int, isT_NoneType_str, isT_NoneType_bool, isT_NoneType_list, isT_NoneType_tuple, isT_NoneType_dict, isT_bool_int, isT_bool_str, isT_bool_bool, isT_bool_list, isT_bool_tuple, isT_bool_dict, isT_int_int, isT_int_str, isT_int_bool, isT_int_list, isT_int_tuple, isT_int_dict, isT_str_int, isT_str_str, isT_str_bool, isT_str_list, isT_str_tuple, isT_str_dict, isT_list_int, isT_list_str, isT_list_bool, isT_list_list, isT_list_tuple, isT_list_dict, isT_tuple_int, isT_tuple_str, isT_tuple_bool, isT_tuple_list, isT_tuple_tuple, isT_tuple_dict, isT_dict_int, isT_dict_str, isT_dict_bool, isT_dict_list, isT_dict_tuple, isT_dict_dict, cxB_K, WF, WE, List.getElem?_cons_zero, List.getElem?_cons_succ, Option.some.injEq, exists_eq_left', exists_eq_left, V.ref.injEq, V.int.injEq, V.str.injEq, V.bl.injEq, HO.ins.injEq, List.cons.injEq, and_true, true_and, exists_and_left, and_assoc, reduceCtorEq, false_and, and_false, exists_false, or_false, false_or, if_true, if_false, Bool.false_eq_true, Bool.not_true, Bool.not_false, ite_true, ite_false, List.mem_singleton, forall_eq, L2.start, List.map_cons, List.map_nil, List.length_cons, List.length_nil, List.replicate, List.cons_append, List.nil_append, Nat.sub_self, Nat.reduceAdd, Nat.reduceSub, List.set_cons_zero, List.set_cons_succ, L2.wipe, tYes, gCons, gNil, tCont, tAndF, tOrF, false_implies, L2.tSl, tNoPart, tPart, tBM, tyVs, Int.reduceLT, Int.reduceLE, CDiv, qSlS, tAug, qIpI, Int.zero_add, decide_true, decide_false, sz1, sz2, sz3, sz0, sz4, sz5, sz6, sz7, sz8, sz9, sz10, sz11, sz12, kV_s, kV_i, Nat.reduceLT, Nat.reduceLeDiff, true_implies, Option.isSome_some, Option.isSome_none, String.reduceBEq, Bool.or_false, Bool.or_true, Bool.false_or, Bool.true_or, Bool.and_true, Bool.and_false, Bool.true_and, Bool.false_and, R1.tI]
            refine ⟨rfl, A .tI, rfl, A, ts, R1, rfl, fun l H2 hl0 s2 hl2 => ?_⟩
            have R2 := R1.same s2
            by_cases h12 : (12 : Int) ≤ (running ts).length
            · simp only [tSeq, tIfS, tTest, tOp, tVar, L2.tC, tCB, tCons, tNil, tRet, tAsg, gName, gSub, tNot, tOr, tAnd, tFld, tB, tTru, tLM, tCallS, tMethW, tMakeW, tDrop, tNext, tUn, tTup, tLst, sFld, tChain, tAndV, tOrV, tNotV, tIf, tDNewK,
 qAddI, qAddS, qAddL, qMulI, qMulL, qSubI, qI, qUI, qEqS, qNeS, scNI, scIN, scNS, scSN, scNB, scBN, scNN, scII, scSS, scBB, scIS, scSI, scBS, scSB, qInL, qInT, qNiL, qNiT, qInDs, qNiDs, qInDi, qNiDi, qIxL, qIxT, qIxDs, qIxDi, qIxS, qSetL, qSetDs, qSetDi, qLenS, qLenL, qLenT, qLenD, qIs, okInt, okStr, okBool, okList, okTup, okDict, tyNon, tyBl, tyInt, tyStr, qTN, qTB, qTI, qTS, qTL, qLtI, qLeI, qGtI, qGeI, qApp, qCnt, qIdx, flN, flI, flS, flB, qIsL,
 isT_NoneType_int, isT_NoneType_str, isT_NoneType_bool, isT_NoneType_list, isT_NoneType_tuple, isT_NoneType_dict, isT_bool_int, isT_bool_str, isT_bool_bool, isT_bool_list, isT_bool_tuple, isT_bool_dict, isT_int_int, isT_int_str, isT_int_bool, isT_int_list, isT_int_tuple, isT_int_dict, isT_str_int, isT_str_str, isT_str_bool, isT_str_list, isT_str_tuple, isT_str_dict, isT_list_int, isT_list_str, isT_list_bool, isT_list_list, isT_list_tuple, isT_list_dict, isT_tuple_int, isT_tuple_str, isT_tuple_bool, isT_tuple_list, isT_tuple_tuple, isT_tuple_dict, isT_dict_int, isT_dict_str, isT_dict_bool, isT_dict_list, isT_dict_tuple, isT_dict_dict, cxB_K, WF, WE, List.getElem?_cons_zero, List.getElem?_cons_succ, Option.some.injEq, exists_eq_left', exists_eq_left, V.ref.injEq, V.int.injEq, V.str.injEq, V.bl.injEq, HO.ins.injEq, List.cons.injEq, and_true, true_and, exists_and_left, and_assoc, reduceCtorEq, false_and, and_false, exists_false, or_false, false_or, if_true, if_false, Bool.false_eq_true, Bool.not_true, Bool.not_false, ite_true, ite_false, List.mem_singleton, forall_eq, L2.start, List.map_cons, List.map_nil, List.length_cons, List.length_nil, List.replicate, List.cons_append, List.nil_append, Nat.sub_self, Nat.reduceAdd, Nat.reduceSub, List.set_cons_zero, List.set_cons_succ, L2.wipe, tYes, gCons, gNil, tCont, tAndF, tOrF, false_implies, L2.tSl, tNoPart, tPart, tBM, tyVs, Int.reduceLT, Int.reduceLE, CDiv, qSlS, tAug, qIpI, Int.zero_add, decide_true, decide_false, sz1, sz2, sz3, sz0, sz4, sz5, sz6, sz7, sz8, sz9, sz10, sz11, sz12, kV_s, kV_i, Nat.reduceLT, Nat.reduceLeDiff, true_implies, Option.isSome_some, Option.isSome_none, String.reduceBEq, Bool.or_false, Bool.or_true, Bool.false_or, Bool.true_or, Bool.and_true, Bool.and_false, Bool.true_and, Bool.false_and, qLenL hl2, List.length_map, h12]
              exact he _ (by have : 12 ≤ (running ts).length := by omega
                             simp [addedE, hn, f, hm, this]) _ (s1.trans s2)
            · simp only [tSeq, tIfS, tTest, tOp, tVar, L2.tC, tCB, tCons, tNil, tRet, tAsg, gName, gSub, tNot, tOr, tAnd, tFld, tB, tTru, tLM, tCallS, tMethW, tMakeW, tDrop, tNext, tUn, tTup, tLst, sFld, tChain, tAndV, tOrV, tNotV, tIf, tDNewK,
 qAddI, qAddS, qAddL, qMulI, qMulL, qSubI, qI, qUI, qEqS, qNeS, scNI, scIN, scNS, scSN, scNB, scBN, scNN, scII, scSS, scBB, scIS, scSI, scBS, scSB, qInL, qInT, qNiL, qNiT, qInDs, qNiDs, qInDi, qNiDi, qIxL, qIxT, qIxDs, qIxDi, qIxS, qSetL, qSetDs, qSetDi, qLenS, qLenL, qLenT, qLenD, qIs, okInt, okStr, okBool, okList, okTup, okDict, tyNon, tyBl, tyInt, tyStr, qTN, qTB, qTI, qTS, qTL, qLtI, qLeI, qGtI, qGeI, qApp, qCnt, qIdx, flN, flI, flS, flB, qIsL,
 isT_NoneType_int, isT_NoneType_str, isT_NoneType_bool, isT_NoneType_list, isT_NoneType_tuple, isT_NoneType_dict, isT_bool_int, isT_bool_str, isT_bool_bool, isT_bool_list, isT_bool_tuple, isT_bool_dict, isT_int_int, isT_int_str, isT_int_bool, isT_int_list, isT_int_tuple, isT_int_dict, isT_str_int, isT_str_str, isT_str_bool, isT_str_list, isT_str_tuple, isT_str_dict, isT_list_int, isT_list_str, isT_list_bool, isT_list_list, isT_list_tuple, isT_list_dict, isT_tuple_int, isT_tuple_str, isT_tuple_bool, isT_tuple_list, isT_tuple_tuple, isT_tuple_dict, isT_dict_int, isT_dict_str, isT_dict_bool, isT_dict_list, isT_dict_tuple, isT_dict_dict, cxB_K, WF, WE, List.getElem?_cons_zero, List.getElem?_cons_succ, Option.some.injEq, exists_eq_left', exists_eq_left, V.ref.injEq, V.int.injEq, V.str.injEq, V.bl.injEq, HO.ins.injEq, List.cons.injEq, and_true, true_and, exists_and_left, and_assoc, reduceCtorEq, false_and, and_false, exists_false, or_false, false_or, if_true, if_false, Bool.false_eq_true, Bool.not_true, Bool.not_false, ite_true, ite_false, List.mem_singleton, forall_eq, L2.start, List.map_cons, List.map_nil, List.length_cons, List.length_nil, List.replicate, List.cons_append, List.nil_append, Nat.sub_self, Nat.reduceAdd, Nat.reduceSub, List.set_cons_zero, List.set_cons_succ, L2.wipe, tYes, gCons, gNil, tCont, tAndF, tOrF, false_implies, L2.tSl, tNoPart, tPart, tBM, tyVs, Int.reduceLT, Int.reduceLE, CDiv, qSlS, tAug, qIpI, Int.zero_add, decide_true, decide_false, sz1, sz2, sz3, sz0, sz4, sz5, sz6, sz7, sz8, sz9, sz10, sz11, sz12, kV_s, kV_i, Nat.reduceLT, Nat.reduceLeDiff, true_implies, Option.isSome_some, Option.isSome_none, String.reduceBEq, Bool.or_false, Bool.or_true, Bool.false_or, Bool.true_or, Bool.and_true, Bool.and_false, Bool.true_and, Bool.false_and, qLenL hl2, List.length_map, h12]
              intro x dx hx hd nd
              refine ⟨(x, mk), rfl, dx, upd_same, fun q H3 hq0 e1 e2 e3 => ⟨rfl, ?_⟩⟩
              have nqx : q ≠ x := fun z => by rw [z, upd_same] at hq0; cases hq0
              rw [upd_ne nqx] at hq0
              have nqd : q ≠ dx := fun z => by rw [z, upd_same] at hq0; cases hq0
              rw [upd_ne nqd] at hq0
              have k2 : ∀ b o, H2 b = some o → H3 b = some o := fun b o e => by
                have n1 := ne_of_none e hx
                have n2 := ne_of_none e hd
                exact e3 b o n1 (by rw [upd_ne n1, upd_ne n2]; exact e)
              have R3 : RepT K none A ts H3 := R2.same k2
              have eput : putK (tKvs A ts) (Sum.inr z) (.ref x) = tKvs A ts ++ [(Sum.inr z, .ref x)] := putK_new _ (by rw [vk]; rfl)
              have nkx : A .tK ≠ x := ne_of_none R2.tKn hx
              have nkd : A .tK ≠ dx := ne_of_none R2.tKn hd
              have nkq : A .tK ≠ q := ne_of_none R2.tKn hq0
              have hlen : (tKvs A ts).length < sizeLine := by
                rw [sizeLine_eq]; simp [tKvs]; omega
              simp only [tSeq, tIfS, tTest, tOp, tVar, L2.tC, tCB, tCons, tNil, tRet, tAsg, gName, gSub, tNot, tOr, tAnd, tFld, tB, tTru, tLM, tCallS, tMethW, tMakeW, tDrop, tNext, tUn, tTup, tLst, sFld, tChain, tAndV, tOrV, tNotV, tIf, tDNewK,
 qAddI, qAddS, qAddL, qMulI, qMulL, qSubI, qI, qUI, qEqS, qNeS, scNI, scIN, scNS, scSN, scNB, scBN, scNN, scII, scSS, scBB, scIS, scSI, scBS, scSB, qInL, qInT, qNiL, qNiT, qInDs, qNiDs, qInDi, qNiDi, qIxL, qIxT, qIxDs, qIxDi, qIxS, qSetL, qSetDs, qSetDi, qLenS, qLenL, qLenT, qLenD, qIs, okInt, okStr, okBool, okList, okTup, okDict, tyNon, tyBl, tyInt, tyStr, qTN, qTB, qTI, qTS, qTL, qLtI, qLeI, qGtI, qGeI, qApp, qCnt, qIdx, flN, flI, flS, flB, qIsL,
 isT_NoneType_int, isT_NoneType_str, isT_NoneType_bool, isT_NoneType_list, isT_NoneType_tuple, isT_NoneType_dict, isT_bool_int, isT_bool_str, isT_bool_bool, isT_bool_list, isT_bool_tuple, isT_bool_dict, isT_int_int, isT_int_str, isT_int_bool, isT_int_list, isT_int_tuple, isT_int_dict, isT_str_int, isT_str_str, isT_str_bool, isT_str_list, isT_str_tuple, isT_str_dict, isT_list_int, isT_list_str, isT_list_bool, isT_list_list, isT_list_tuple, isT_list_dict, isT_tuple_int, isT_tuple_str, isT_tuple_bool, isT_tuple_list, isT_tuple_tuple, isT_tuple_dict, isT_dict_int, isT_dict_str, isT_dict_bool, isT_dict_list, isT_dict_tuple, isT_dict_dict, cxB_K, WF, WE, List.getElem?_cons_zero, List.getElem?_cons_succ, Option.some.injEq, exists_eq_left', exists_eq_left, V.ref.injEq, V.int.injEq, V.str.injEq, V.bl.injEq, HO.ins.injEq, List.cons.injEq, and_true, true_and, exists_and_left, and_assoc, reduceCtorEq, false_and, and_false, exists_false, or_false, false_or, if_true, if_false, Bool.false_eq_true, Bool.not_true, Bool.not_false, ite_true, ite_false, List.mem_singleton, forall_eq, L2.start, List.map_cons, List.map_nil, List.length_cons, List.length_nil, List.replicate, List.cons_append, List.nil_append, Nat.sub_self, Nat.reduceAdd, Nat.reduceSub, List.set_cons_zero, List.set_cons_succ, L2.wipe, tYes, gCons, gNil, tCont, tAndF, tOrF, false_implies, L2.tSl, tNoPart, tPart, tBM, tyVs, Int.reduceLT, Int.reduceLE, CDiv, qSlS, tAug, qIpI, Int.zero_add, decide_true, decide_false, sz1, sz2, sz3, sz0, sz4, sz5, sz6, sz7, sz8, sz9, sz10, sz11, sz12, kV_s, kV_i, Nat.reduceLT, Nat.reduceLeDiff, true_implies, Option.isSome_some, Option.isSome_none, String.reduceBEq, Bool.or_false, Bool.or_true, Bool.false_or, Bool.true_or, Bool.and_true, Bool.and_false, Bool.true_and, Bool.false_and, R3.tI, T.c_Tasks, T.na_Tasks_known, lk_known, qSetDs R3.tKn, eput, hlen]
              have o1 : H dx = none := none_of (s1.trans s2) hd
              have o2 : H x = none := none_of (s1.trans s2) hx
              have o3 : H q = none := none_of (s1.trans s2) hq0
              refine hq (ts ++ [⟨z, mk, true, List.replicate 16 none⟩]) ?_ (addT A ts.length x dx q) _ ?_ rfl ?_
              · have : ¬ 12 ≤ (running ts).length := by omega
                simp [addedE, hn, f, hm, this]
              · refine R2.grow hx hd hq0 nd nqx nqd f few ?_ ?_ ?_ upd_same ?_
                · rw [upd_ne nkx.symm]; exact e2
                · rw [upd_ne nkd.symm]; exact e3 dx _ nd (by rw [upd_ne nd, upd_same])
                · rw [upd_ne nkq.symm]; exact e1
                · intro b o hb e
                  rw [upd_ne hb]; exact k2 b o e
              · refine ⟨fun b o e hS => ?_, fun b hb => ?_⟩
                · rw [upd_ne (fun z => hS (by rw [z]; exact ⟨.tK, rfl, rfl⟩))]
                  exact k2 b o (s2 _ _ (s1 _ _ e))
                · rw [List.length_append] at hb
                  exact FT.grow o2 o1 o3 b hb
      | _ => cases hn
def sp_taken_out (K : PySem.W.Frag) : Sp := Sp.of (fun a : Addr × Int => [.ref a.1, .int a.2]) fun a H Q E => ∃ A ts, RepT K none A ts H ∧ a.1 = A .tI ∧
  ∀ H', RepT K none A (ts.map (outT a.2)) H' → Upd H (FT A ts.length) H' (FT A ts.length) → Q (.int (outs a.2 ts : Nat)) H'
theorem ok_Tasks_taken_out (T : Tx K mg) : Fw P w K mg base 1 (ma K (ga K "Tasks") "taken_out") (sp_taken_out K) :=
  Fw.mk_of (T.d_Tasks_taken_out) sc_Tasks_taken_out (fun _ _ _ _ _ _ us hl => match us, hl with | [_, _], _ => rfl) (fun _ => rfl) fun cdv Ar outer s H a Q E hr hb => by
    have hu := hr.units
    refine ⟨_, (pss_cons (ps_set (i := 2) sc_Tasks_taken_out.nd rfl (by first | exact Or.inl rfl | exact Or.inr rfl) pe_int)
    (pss_cons (ps_lock (ps_for poF rfl (pi_values (pe_fld (pv 0) rfl)) (pg_name (i := 3) sc_Tasks_taken_out.nd rfl (by first | exact Or.inl rfl | exact Or.inr rfl)) (pss_one (ps_for poF rfl (pi_range1 (by rfl) T.n_range (pa_cons (pe_gint T.i_SLOTS) pa_nil)) (pg_name (i := 4) sc_Tasks_taken_out.nd rfl (by first | exact Or.inl rfl | exact Or.inr rfl)) (pss_one (ps_if (PW.pt (pw_and (pt_cmpR op_notN (pe_ix (ix_F hu) (pe_fld (pv 3) rfl) (pv 4) (fun _ _ => rfl)) pe_non (nomark _)) (pw_and1 (pt_cmpR (op_eqF hu) (pe_ix (ix_F hu) (pe_fld (pv 3) rfl) (pv 4) (fun _ _ => rfl)) (pv 1) (nomark _))))) (pss_cons (ps_asg pe_non (pg_sub (pe_fld (pv 3) rfl) (pv 4) (set_F hu)))
    (pss_one (ps_aug (i := 2) sc_Tasks_taken_out.nd rfl (by first | exact Or.inl rfl | exact Or.inr rfl) pe_int ip_addU))) pss_nil))))))
    (pss_one (ps_ret (pv 2))))), ?_⟩
    obtain ⟨p, n⟩ := a
    obtain ⟨A, ts, R, hp, hq⟩ := hb
    dsimp only at hp hq
    subst hp
    simp only [tSeq, tIfS, tTest, tOp, tVar, L2.tC, tCB, tCons, tNil, tRet, tAsg, gName, gSub, tNot, tOr, tAnd, tFld, tB, tTru, tLM, tCallS, tMethW, tMakeW, tDrop, tNext, tUn, tTup, tLst, sFld, tChain, tAndV, tOrV, tNotV, tIf, tDNewK,
 qAddI, qAddS, qAddL, qMulI, qMulL, qSubI, qI, qUI, qEqS, qNeS, scNI, scIN, scNS, scSN, scNB, scBN, scNN, scII, scSS, scBB, scIS, scSI, scBS, scSB, qInL, qInT, qNiL, qNiT, qInDs, qNiDs, qInDi, qNiDi, qIxL, qIxT, qIxDs, qIxDi, qIxS, qSetL, qSetDs, qSetDi, qLenS, qLenL, qLenT, qLenD, qIs, okInt, okStr, okBool, okList, okTup, okDict, tyNon, tyBl, tyInt, tyStr, qTN, qTB, qTI, qTS, qTL, qLtI, qLeI, qGtI, qGeI, qApp, qCnt, qIdx, flN, flI, flS, flB, qIsL,
 isT_NoneType_int, isT_NoneType_str, isT_NoneType_bool, isT_NoneType_list, isT_NoneType_tuple, isT_NoneType_dict, isT_bool_int, isT_bool_str, isT_bool_bool, isT_bool_list, isT_bool_tuple, isT_bool_dict, isT_int_int, isT_int_str, isT_int_bool, isT_int_list, isT_int_tuple, isT_int_dict, isT_str_int, isT_str_str, isT_str_bool, isT_str_list, isT_str_tuple, isT_str_dict, isT_list_int, isT_list_str, isT_list_bool, isT_list_list, isT_list_tuple, isT_list_dict, isT_tuple_int, isT_tuple_str, isT_tuple_bool, isT_tuple_list, isT_tuple_tuple, isT_tuple_dict, isT_dict_int, isT_dict_str, isT_dict_bool, isT_dict_list, isT_dict_tuple, isT_dict_dict, cxB_K, WF, WE, List.getElem?_cons_zero, List.getElem?_cons_succ, Option.some.injEq, exists_eq_left', exists_eq_left, V.ref.injEq, V.int.injEq, V.str.injEq, V.bl.injEq, HO.ins.injEq, List.cons.injEq, and_true, true_and, exists_and_left, and_assoc, reduceCtorEq, false_and, and_false, exists_false, or_false, false_or, if_true, if_false, Bool.false_eq_true, Bool.not_true, Bool.not_false, ite_true, ite_false, List.mem_singleton, forall_eq, L2.start, List.map_cons, List.map_nil, List.length_cons, List.length_nil, List.replicate, List.cons_append, List.nil_append, Nat.sub_self, Nat.reduceAdd, Nat.reduceSub, List.set_cons_zero, List.set_cons_succ, L2.wipe, tYes, gCons, gNil, tCont, tAndF, tOrF, false_implies, L2.tSl, tNoPart, tPart, tBM, tyVs, Int.reduceLT, Int.reduceLE, CDiv, qSlS, tAug, qIpI, Int.zero_add, decide_true, decide_false, sz1, sz2, sz3, sz0, sz4, sz5, sz6, sz7, sz8, sz9, sz10, sz11, sz12, kV_s, kV_i, Nat.reduceLT, Nat.reduceLeDiff, true_implies, Option.isSome_some, Option.isSome_none, String.reduceBEq, Bool.or_false, Bool.or_true, Bool.false_or, Bool.true_or, Bool.and_true, Bool.and_false, Bool.true_and, Bool.false_and, R.tI, T.c_Tasks, T.na_Tasks_known, lk_known]
    refine ⟨A .tK, _, R.tKn, trivial, fun od => ?_⟩
    have RL := R.lock od
    refine ⟨_, rfl, A .tI, _, _, _, _, rfl, RL.tI, T.c_Tasks, T.na_Tasks_known, rfl, A .tK, od, _, rfl, RL.tKs, ?_⟩
    have U0 : Upd H (FT A ts.length) (upd H (A .tK) (.frz od (.dK (tKvs A ts)))) (FT A ts.length) := upd_owned ⟨.tK, rfl, rfl⟩
    refine for_it walk_values (fun i σ' H' => ∃ x3 x4, σ' = [some (.ref (A .tI)), some (.int n), some (.int (outs n (ts.take i) : Nat)), x3, x4] ∧ RepT K (some od) A (mid (outT n) ts i) H' ∧ Upd H (FT A ts.length) H' (FT A ts.length)) ?_ ?_ ?_ ?_
    · exact ⟨none, none, rfl, by rw [mid_zero]; exact RL, U0⟩
    · rintro i σ' H' hi ⟨x3, x4, _, R', _⟩
      rw [← tKvs_mid n]; exact R'.tKs
    · rintro i x σ' H' H'' hi ⟨x3, x4, rfl, R', U'⟩ ⟨rfl, k, hk⟩
      have hi2 : i < ts.length := by simpa [tKvs] using hi
      have et : ts[i]? = some ts[i] := List.getElem?_eq_getElem hi2
      generalize ts[i] = t at et
      have ek : (tKvs A ts)[i]? = some (Sum.inr t.name, .ref (A (.aI i))) := by simp [tKvs, et]
      rw [ek] at hk
      cases hk
      have h16 := R.wf.rows t (List.mem_of_getElem? et)
      simp only [tSeq, tIfS, tTest, tOp, tVar, L2.tC, tCB, tCons, tNil, tRet, tAsg, gName, gSub, tNot, tOr, tAnd, tFld, tB, tTru, tLM, tCallS, tMethW, tMakeW, tDrop, tNext, tUn, tTup, tLst, sFld, tChain, tAndV, tOrV, tNotV, tIf, tDNewK,
 qAddI, qAddS, qAddL, qMulI, qMulL, qSubI, qI, qUI, qEqS, qNeS, scNI, scIN, scNS, scSN, scNB, scBN, scNN, scII, scSS, scBB, scIS, scSI, scBS, scSB, qInL, qInT, qNiL, qNiT, qInDs, qNiDs, qInDi, qNiDi, qIxL, qIxT, qIxDs, qIxDi, qIxS, qSetL, qSetDs, qSetDi, qLenS, qLenL, qLenT, qLenD, qIs, okInt, okStr, okBool, okList, okTup, okDict, tyNon, tyBl, tyInt, tyStr, qTN, qTB, qTI, qTS, qTL, qLtI, qLeI, qGtI, qGeI, qApp, qCnt, qIdx, flN, flI, flS, flB, qIsL,
 isT_NoneType_int, isT_NoneType_str, isT_NoneType_bool, isT_NoneType_list, isT_NoneType_tuple, isT_NoneType_dict, isT_bool_int, isT_bool_str, isT_bool_bool, isT_bool_list, isT_bool_tuple, isT_bool_dict, isT_int_int, isT_int_str, isT_int_bool, isT_int_list, isT_int_tuple, isT_int_dict, isT_str_int, isT_str_str, isT_str_bool, isT_str_list, isT_str_tuple, isT_str_dict, isT_list_int, isT_list_str, isT_list_bool, isT_list_list, isT_list_tuple, isT_list_dict, isT_tuple_int, isT_tuple_str, isT_tuple_bool, isT_tuple_list, isT_tuple_tuple, isT_tuple_dict, isT_dict_int, isT_dict_str, isT_dict_bool, isT_dict_list, isT_dict_tuple, isT_dict_dict, cxB_K, WF, WE, List.getElem?_cons_zero, List.getElem?_cons_succ, Option.some.injEq, exists_eq_left', exists_eq_left, V.ref.injEq, V.int.injEq, V.str.injEq, V.bl.injEq, HO.ins.injEq, List.cons.injEq, and_true, true_and, exists_and_left, and_assoc, reduceCtorEq, false_and, and_false, exists_false, or_false, false_or, if_true, if_false, Bool.false_eq_true, Bool.not_true, Bool.not_false, ite_true, ite_false, List.mem_singleton, forall_eq, L2.start, List.map_cons, List.map_nil, List.length_cons, List.length_nil, List.replicate, List.cons_append, List.nil_append, Nat.sub_self, Nat.reduceAdd, Nat.reduceSub, List.set_cons_zero, List.set_cons_succ, L2.wipe, tYes, gCons, gNil, tCont, tAndF, tOrF, false_implies, L2.tSl, tNoPart, tPart, tBM, tyVs, Int.reduceLT, Int.reduceLE, CDiv, qSlS, tAug, qIpI, Int.zero_add, decide_true, decide_false, sz1, sz2, sz3, sz0, sz4, sz5, sz6, sz7, sz8, sz9, sz10, sz11, sz12, kV_s, kV_i, Nat.reduceLT, Nat.reduceLeDiff, true_implies, Option.isSome_some, Option.isSome_none, String.reduceBEq, Bool.or_false, Bool.or_true, Bool.false_or, Bool.true_or, Bool.and_true, Bool.and_false, Bool.true_and, Bool.false_and]
      refine ⟨_, rfl, by decide, by decide, ?_⟩
      refine for_it walk_range (fun j σ' H' => ∃ x4, σ' = [some (.ref (A .tI)), some (.int n), some (.int ((outs n (ts.take i) + (t.rows.take j).count (some n) : Nat))), some (.ref (A (.aI i))), x4] ∧
        RepT K (some od) A ((mid (outT n) ts i).set i { t with rows := mid (outO n) t.rows j }) H' ∧ Upd H (FT A ts.length) H' (FT A ts.length)) ?_ (fun _ _ _ _ _ => trivial) ?_ ?_
      · refine ⟨x4, by simp, ?_, U'⟩
        rw [mid_zero]
        have := mid_get (outT n) ts i
        rw [et] at this
        rw [set_same this]
        exact R'
      · rintro j x σ' H3 H4 hj ⟨x4, rfl, R3, U3⟩ ⟨rfl, rfl⟩
        have hj2 : j < t.rows.length := by rw [h16]; exact hj
        have er : t.rows[j]? = some t.rows[j] := List.getElem?_eq_getElem hj2
        generalize t.rows[j] = o at er
        have em : (mid (outO n) t.rows j)[j]? = some o := by rw [mid_get, er]
        have hlm : (mid (outT n) ts i).length = ts.length := mid_len _ _ _
        have eT : ((mid (outT n) ts i).set i { t with rows := mid (outO n) t.rows j })[i]? = some { t with rows := mid (outO n) t.rows j } := by
          rw [List.getElem?_set]; simp [hlm, hi2]
        have hR := R3.aR eT
        have hA := R3.aI eT
        have ix : atI ((mid (outO n) t.rows j).map optV) (j : Int) = some (optV o) := by
          unfold atI
          rw [ixN_lt (by rw [List.length_map, mid_len]; exact hj2)]
          simp [em]
        have cnt : (t.rows.take (j + 1)).count (some n) = (t.rows.take j).count (some n) + (if o = some n then 1 else 0) := by
          rw [take_snoc er, List.count_append]
          congr 1
          rw [List.count_cons, List.count_nil]
          by_cases z : o = some n <;> simp [z]
        dsimp only at hR hA
        have skip : o ≠ some n → (↑(outs n (ts.take i) + (t.rows.take j).count (some n)) : Int) = ↑(outs n (ts.take i) + (t.rows.take (j + 1)).count (some n)) ∧
            RepT K (some od) A ((mid (outT n) ts i).set i { t with rows := mid (outO n) t.rows (j + 1) }) H4 ∧ Upd H (FT A ts.length) H4 (FT A ts.length) := fun ho => by
          refine ⟨by rw [cnt, if_neg ho]; rfl, ?_, U3⟩
          rw [mid_skip er (by simp [outO, ho])]
          exact R3
        cases o with
        | none =>
          simp only [tSeq, tIfS, tTest, tOp, tVar, L2.tC, tCB, tCons, tNil, tRet, tAsg, gName, gSub, tNot, tOr, tAnd, tFld, tB, tTru, tLM, tCallS, tMethW, tMakeW, tDrop, tNext, tUn, tTup, tLst, sFld, tChain, tAndV, tOrV, tNotV, tIf, tDNewK,
 qAddI, qAddS, qAddL, qMulI, qMulL, qSubI, qI, qUI, qEqS, qNeS, scNI, scIN, scNS, scSN, scNB, scBN, scNN, scII, scSS, scBB, scIS, scSI, scBS, scSB, qInL, qInT, qNiL, qNiT, qInDs, qNiDs, qInDi, qNiDi, qIxL, qIxT, qIxDs, qIxDi, qIxS, qSetL, qSetDs, qSetDi, qLenS, qLenL, qLenT, qLenD, qIs, okInt, okStr, okBool, okList, okTup, okDict, tyNon, tyBl, tyInt, tyStr, qTN, qTB, qTI, qTS, qTL, qLtI, qLeI, qGtI, qGeI, qApp, qCnt, qIdx, flN, flI, flS, flB, qIsL,
 isT_NoneType_int, isT_NoneType_str, isT_NoneType_bool, isT_NoneType_list, isT_NoneType_tuple, isT_NoneType_dict, isT_bool_int, isT_bool_str, isT_bool_bool, isT_bool_list, isT_bool_tuple, isT_bool_dict, isT_int_int, isT_int_str, isT_int_bool, isT_int_list, isT_int_tuple, isT_int_dict, isT_str_int, isT_str_str, isT_str_bool, isT_str_list, isT_str_tuple, isT_str_dict, isT_list_int, isT_list_str, isT_list_bool, isT_list_list, isT_list_tuple, isT_list_dict, isT_tuple_int, isT_tuple_str, isT_tuple_bool, isT_tuple_list, isT_tuple_tuple, isT_tuple_dict, isT_dict_int, isT_dict_str, isT_dict_bool, isT_dict_list, isT_dict_tuple, isT_dict_dict, cxB_K, WF, WE, List.getElem?_cons_zero, List.getElem?_cons_succ, Option.some.injEq, exists_eq_left', exists_eq_left, V.ref.injEq, V.int.injEq, V.str.injEq, V.bl.injEq, HO.ins.injEq, List.cons.injEq, and_true, true_and, exists_and_left, and_assoc, reduceCtorEq, false_and, and_false, exists_false, or_false, false_or, if_true, if_false, Bool.false_eq_true, Bool.not_true, Bool.not_false, ite_true, ite_false, List.mem_singleton, forall_eq, L2.start, List.map_cons, List.map_nil, List.length_cons, List.length_nil, List.replicate, List.cons_append, List.nil_append, Nat.sub_self, Nat.reduceAdd, Nat.reduceSub, List.set_cons_zero, List.set_cons_succ, L2.wipe, tYes, gCons, gNil, tCont, tAndF, tOrF, false_implies, L2.tSl, tNoPart, tPart, tBM, tyVs, Int.reduceLT, Int.reduceLE, CDiv, qSlS, tAug, qIpI, Int.zero_add, decide_true, decide_false, sz1, sz2, sz3, sz0, sz4, sz5, sz6, sz7, sz8, sz9, sz10, sz11, sz12, kV_s, kV_i, Nat.reduceLT, Nat.reduceLeDiff, true_implies, Option.isSome_some, Option.isSome_none, String.reduceBEq, Bool.or_false, Bool.or_true, Bool.false_or, Bool.true_or, Bool.and_true, Bool.and_false, Bool.true_and, Bool.false_and, hA, T.c_Task, T.na_Task_maker, T.na_Task_runs, T.na_Task_rows, lk_rows, qIxL hR, ix, optV]
          exact skip (by simp)
        | some m =>
          by_cases hm : m = n
          · subst hm
            have hjm : ixN ((mid (outO m) t.rows j).map optV).length (j : Int) = some j := ixN_lt (by rw [List.length_map, mid_len]; exact hj2)
            simp only [tSeq, tIfS, tTest, tOp, tVar, L2.tC, tCB, tCons, tNil, tRet, tAsg, gName, gSub, tNot, tOr, tAnd, tFld, tB, tTru, tLM, tCallS, tMethW, tMakeW, tDrop, tNext, tUn, tTup, tLst, sFld, tChain, tAndV, tOrV, tNotV, tIf, tDNewK,
 qAddI, qAddS, qAddL, qMulI, qMulL, qSubI, qI, qUI, qEqS, qNeS, scNI, scIN, scNS, scSN, scNB, scBN, scNN, scII, scSS, scBB, scIS, scSI, scBS, scSB, qInL, qInT, qNiL, qNiT, qInDs, qNiDs, qInDi, qNiDi, qIxL, qIxT, qIxDs, qIxDi, qIxS, qSetL, qSetDs, qSetDi, qLenS, qLenL, qLenT, qLenD, qIs, okInt, okStr, okBool, okList, okTup, okDict, tyNon, tyBl, tyInt, tyStr, qTN, qTB, qTI, qTS, qTL, qLtI, qLeI, qGtI, qGeI, qApp, qCnt, qIdx, flN, flI, flS, flB, qIsL,
 isT_NoneType_int, isT_NoneType_str, isT_NoneType_bool, isT_NoneType_list, isT_NoneType_tuple, isT_NoneType_dict, isT_bool_int, isT_bool_str, isT_bool_bool, isT_bool_list, isT_bool_tuple, isT_bool_dict, isT_int_int, isT_int_str, isT_int_bool, isT_int_list, isT_int_tuple, isT_int_dict, isT_str_int, isT_str_str, isT_str_bool, isT_str_list, isT_str_tuple, isT_str_dict, isT_list_int, isT_list_str, isT_list_bool, isT_list_list, isT_list_tuple, isT_list_dict, isT_tuple_int, isT_tuple_str, isT_tuple_bool, isT_tuple_list, isT_tuple_tuple, isT_tuple_dict, isT_dict_int, isT_dict_str, isT_dict_bool, isT_dict_list, isT_dict_tuple, isT_dict_dict, cxB_K, WF, WE, List.getElem?_cons_zero, List.getElem?_cons_succ, Option.some.injEq, exists_eq_left', exists_eq_left, V.ref.injEq, V.int.injEq, V.str.injEq, V.bl.injEq, HO.ins.injEq, List.cons.injEq, and_true, true_and, exists_and_left, and_assoc, reduceCtorEq, false_and, and_false, exists_false, or_false, false_or, if_true, if_false, Bool.false_eq_true, Bool.not_true, Bool.not_false, ite_true, ite_false, List.mem_singleton, forall_eq, L2.start, List.map_cons, List.map_nil, List.length_cons, List.length_nil, List.replicate, List.cons_append, List.nil_append, Nat.sub_self, Nat.reduceAdd, Nat.reduceSub, List.set_cons_zero, List.set_cons_succ, L2.wipe, tYes, gCons, gNil, tCont, tAndF, tOrF, false_implies, L2.tSl, tNoPart, tPart, tBM, tyVs, Int.reduceLT, Int.reduceLE, CDiv, qSlS, tAug, qIpI, Int.zero_add, decide_true, decide_false, sz1, sz2, sz3, sz0, sz4, sz5, sz6, sz7, sz8, sz9, sz10, sz11, sz12, kV_s, kV_i, Nat.reduceLT, Nat.reduceLeDiff, true_implies, Option.isSome_some, Option.isSome_none, String.reduceBEq, Bool.or_false, Bool.or_true, Bool.false_or, Bool.true_or, Bool.and_true, Bool.and_false, Bool.true_and, Bool.false_and, hA, T.c_Task, T.na_Task_maker, T.na_Task_runs, T.na_Task_rows, lk_rows, qIxL hR, ix, optV, qSetL hR, hjm]
            refine ⟨by rw [cnt, if_pos rfl]; omega, ?_, U3.trans (upd_owned ⟨.aR i, by simp [liveT, hi2], rfl⟩)⟩
            have hl : (mid (outO m) t.rows (j + 1)).length = 16 := by rw [mid_len]; exact h16
            have R4 := R3.upRow eT hl
            have es := mid_set (f := outO m) er
            have e0 : outO m (some m) = none := by simp [outO]
            rw [e0] at es
            rw [List.set_set, ← es, List.map_set] at R4
            rw [← es]
            exact R4
          · have hm2 : ¬ (some m = some n) := fun z => hm (Option.some.inj z)
            simp only [tSeq, tIfS, tTest, tOp, tVar, L2.tC, tCB, tCons, tNil, tRet, tAsg, gName, gSub, tNot, tOr, tAnd, tFld, tB, tTru, tLM, tCallS, tMethW, tMakeW, tDrop, tNext, tUn, tTup, tLst, sFld, tChain, tAndV, tOrV, tNotV, tIf, tDNewK,
 qAddI, qAddS, qAddL, qMulI, qMulL, qSubI, qI, qUI, qEqS, qNeS, scNI, scIN, scNS, scSN, scNB, scBN, scNN, scII, scSS, scBB, scIS, scSI, scBS, scSB, qInL, qInT, qNiL, qNiT, qInDs, qNiDs, qInDi, qNiDi, qIxL, qIxT, qIxDs, qIxDi, qIxS, qSetL, qSetDs, qSetDi, qLenS, qLenL, qLenT, qLenD, qIs, okInt, okStr, okBool, okList, okTup, okDict, tyNon, tyBl, tyInt, tyStr, qTN, qTB, qTI, qTS, qTL, qLtI, qLeI, qGtI, qGeI, qApp, qCnt, qIdx, flN, flI, flS, flB, qIsL,
 isT_NoneType_int, isT_NoneType_str, isT_NoneType_bool, isT_NoneType_list, isT_NoneType_tuple, isT_NoneType_dict, isT_bool_int, isT_bool_str, isT_bool_bool, isT_bool_list, isT_bool_tuple, isT_bool_dict, isT_int_int, isT_int_str, isT_int_bool, isT_int_list, isT_int_tuple, isT_int_dict, isT_str_int, isT_str_str, isT_str_bool, isT_str_list, isT_str_tuple, isT_str_dict, isT_list_int, isT_list_str, isT_list_bool, isT_list_list, isT_list_tuple, isT_list_dict, isT_tuple_int, isT_tuple_str, isT_tuple_bool, isT_tuple_list, isT_tuple_tuple, isT_tuple_dict, isT_dict_int, isT_dict_str, isT_dict_bool, isT_dict_list, isT_dict_tuple, isT_dict_dict, cxB_K, WF, WE, List.getElem?_cons_zero, List.getElem?_cons_succ, Option.some.injEq, exists_eq_left', exists_eq_left, V.ref.injEq, V.int.injEq, V.str.injEq, V.bl.injEq, HO.ins.injEq, List.cons.injEq, and_true, true_and, exists_and_left, and_assoc, reduceCtorEq, false_and, and_false, exists_false, or_false, false_or, if_true, if_false, Bool.false_eq_true, Bool.not_true, Bool.not_false, ite_true, ite_false, List.mem_singleton, forall_eq, L2.start, List.map_cons, List.map_nil, List.length_cons, List.length_nil, List.replicate, List.cons_append, List.nil_append, Nat.sub_self, Nat.reduceAdd, Nat.reduceSub, List.set_cons_zero, List.set_cons_succ, L2.wipe, tYes, gCons, gNil, tCont, tAndF, tOrF, false_implies, L2.tSl, tNoPart, tPart, tBM, tyVs, Int.reduceLT, Int.reduceLE, CDiv, qSlS, tAug, qIpI, Int.zero_add, decide_true, decide_false, sz1, sz2, sz3, sz0, sz4, sz5, sz6, sz7, sz8, sz9, sz10, sz11, sz12, kV_s, kV_i, Nat.reduceLT, Nat.reduceLeDiff, true_implies, Option.isSome_some, Option.isSome_none, String.reduceBEq, Bool.or_false, Bool.or_true, Bool.false_or, Bool.true_or, Bool.and_true, Bool.and_false, Bool.true_and, Bool.false_and, hA, T.c_Task, T.na_Task_maker, T.na_Task_runs, T.na_Task_rows, lk_rows, qIxL hR, ix, optV, hm]
            exact skip hm2
      · rintro σ' H3 ⟨x4, rfl, R3, U3⟩
        have e16 : Int.toNat 16 = 16 := rfl
        rw [e16, mid_full _ _ (Nat.le_of_eq h16)] at R3
        refine ⟨some (.ref (A (.aI i))), x4, ?_, by rw [← mid_set et]; exact R3, U3⟩
        rw [e16, List.take_of_length_le (Nat.le_of_eq h16), take_snoc et]
        simp [outs]
    · rintro σ' H3 ⟨x3, x4, rfl, R3, U3⟩
      have el : (tKvs A ts).length = ts.length := by simp [tKvs]
      rw [el, mid_full _ _ (Nat.le_refl _)] at R3
      have R4 := R3.unlock
      have ek : tKvs A (ts.map (outT n)) = tKvs A ts := by rw [← mid_full (outT n) ts (Nat.le_refl _), tKvs_mid]
      rw [ek] at R4
      simp only [tSeq, tIfS, tTest, tOp, tVar, L2.tC, tCB, tCons, tNil, tRet, tAsg, gName, gSub, tNot, tOr, tAnd, tFld, tB, tTru, tLM, tCallS, tMethW, tMakeW, tDrop, tNext, tUn, tTup, tLst, sFld, tChain, tAndV, tOrV, tNotV, tIf, tDNewK,
 qAddI, qAddS, qAddL, qMulI, qMulL, qSubI, qI, qUI, qEqS, qNeS, scNI, scIN, scNS, scSN, scNB, scBN, scNN, scII, scSS, scBB, scIS, scSI, scBS, scSB, qInL, qInT, qNiL, qNiT, qInDs, qNiDs, qInDi, qNiDi, qIxL, qIxT, qIxDs, qIxDi, qIxS, qSetL, qSetDs, qSetDi, qLenS, qLenL, qLenT, qLenD, qIs, okInt, okStr, okBool, okList, okTup, okDict, tyNon, tyBl, tyInt, tyStr, qTN, qTB, qTI, qTS, qTL, qLtI, qLeI, qGtI, qGeI, qApp, qCnt, qIdx, flN, flI, flS, flB, qIsL,
 isT_NoneType_int, isT_NoneType_str, isT_NoneType_bool, isT_NoneType_list, isT_NoneType_tuple, isT_NoneType_dict, isT_bool_int, isT_bool_str, isT_bool_bool, isT_bool_list, isT_bool_tuple, isT_bool_dict, isT_int_int, isT_int_str, isT_int_bool, isT_int_list, isT_int_tuple, isT_int_dict, isT_str_int, isT_str_str, isT_str_bool, isT_str_list, isT_str_tuple, isT_str_dict, isT_list_int, isT_list_str, isT_list_bool, isT_list_list, isT_list_tuple, isT_list_dict, isT_tuple_int, isT_tuple_str, isT_tuple_bool, isT_tuple_list, isT_tuple_tuple, isT_tuple_dict, isT_dict_int, isT_dict_str, isT_dict_bool, isT_dict_list, isT_dict_tuple, isT_dict_dict, cxB_K, WF, WE, List.getElem?_cons_zero, List.getElem?_cons_succ, Option.some.injEq, exists_eq_left', exists_eq_left, V.ref.injEq, V.int.injEq, V.str.injEq, V.bl.injEq, HO.ins.injEq, List.cons.injEq, and_true, true_and, exists_and_left, and_assoc, reduceCtorEq, false_and, and_false, exists_false, or_false, false_or, if_true, if_false, Bool.false_eq_true, Bool.not_true, Bool.not_false, ite_true, ite_false, List.mem_singleton, forall_eq, L2.start, List.map_cons, List.map_nil, List.length_cons, List.length_nil, List.replicate, List.cons_append, List.nil_append, Nat.sub_self, Nat.reduceAdd, Nat.reduceSub, List.set_cons_zero, List.set_cons_succ, L2.wipe, tYes, gCons, gNil, tCont, tAndF, tOrF, false_implies, L2.tSl, tNoPart, tPart, tBM, tyVs, Int.reduceLT, Int.reduceLE, CDiv, qSlS, tAug, qIpI, Int.zero_add, decide_true, decide_false, sz1, sz2, sz3, sz0, sz4, sz5, sz6, sz7, sz8, sz9, sz10, sz11, sz12, kV_s, kV_i, Nat.reduceLT, Nat.reduceLeDiff, true_implies, Option.isSome_some, Option.isSome_none, String.reduceBEq, Bool.or_false, Bool.or_true, Bool.false_or, Bool.true_or, Bool.and_true, Bool.and_false, Bool.true_and, Bool.false_and]
      refine ⟨by rw [← ek]; exact R3.tKs, ?_⟩
      have := hq _ R4 (U3.trans (upd_owned ⟨.tK, rfl, rfl⟩))
      rw [el, List.take_length]
      exact this
end
end Pk

namespace Pk
open PySem PySem.Spec PyProof.Rows L2
def mixN (ns : List Int) (k : Int) : Int := ((if 0 < ns.length then (ns[(k % (ns.length : Int)).toNat]?).getD 0 + k / (ns.length : Int) else k) + 7919 * (k + 1)) * 48271 % 2147483647
def mixP (ns : List Int) (k : Int) : Int := mixN ns k * mixN ns k % 2147483629
theorem mixP_lo (ns : List Int) (k : Int) : 0 ≤ mixP ns k := Int.emod_nonneg _ (by decide)
theorem mixP_hi (ns : List Int) (k : Int) : mixP ns k < 2147483629 := Int.emod_lt_of_pos _ (by decide)
theorem mixN_lo (ns : List Int) (k : Int) : 0 ≤ mixN ns k := Int.emod_nonneg _ (by decide)
theorem mixN_hi (ns : List Int) (k : Int) : mixN ns k < 2147483647 := Int.emod_lt_of_pos _ (by decide)
section
variable {P : Program} {w : World} {K : PySem.W.Frag} {mg : Str → Option Value} {base : Heap}
def sp_mix (K : PySem.W.Frag) : Sp := Sp.of (fun a : Addr × Int => [.ref a.1, .int a.2]) fun a H Q E => ∃ ns : List Int, SqL K H a.1 (ns.map V.int) ∧ ns.length ≤ 63 ∧ Q (.int (mixP ns a.2)) H
theorem ok__law_mix (T : Tx K mg) : Fw P w K mg base 1 (ga K "_law_mix") (sp_mix K) :=
  Fw.mk_of (T.d__law_mix) sc__law_mix (fun _ _ _ _ _ _ us hl => match us, hl with | [_, _], _ => rfl) (fun _ => rfl) fun cdv Ar outer s H a Q E hr hb => by
    have hu := hr.units
    refine ⟨_, (pss_cons (ps_set (i := 2) sc__law_mix.nd rfl (by first | exact Or.inl rfl | exact Or.inr rfl) (pv 1))
    (pss_cons (ps_if (pt_cmpR op_gtF (pe_callB call_len_seq (by rfl) T.n_len (by decide +kernel) (pa_cons (pv 0) pa_nil)) pe_int (nomark _)) (pss_one (ps_set (i := 2) sc__law_mix.nd rfl (by first | exact Or.inl rfl | exact Or.inr rfl) (pe_op op_addF (pe_ix ix_list (pv 0) (pe_op op_mod (pv 1) (pe_callB call_len_seq (by rfl) T.n_len (by decide +kernel) (pa_cons (pv 0) pa_nil))) (fun _ _ => rfl)) (pe_op op_fdiv (pv 1) (pe_callB call_len_seq (by rfl) T.n_len (by decide +kernel) (pa_cons (pv 0) pa_nil)))))) pss_nil)
    (pss_cons (ps_set (i := 3) sc__law_mix.nd rfl (by first | exact Or.inl rfl | exact Or.inr rfl) (pe_op op_mod (pe_op op_mulF (pe_op op_addF (pv 2) (pe_op op_mulF pe_int (pe_op op_addF (pv 1) pe_int))) pe_int) pe_int))
    (pss_one (ps_ret (pe_op op_mod (pe_op op_mulF (pv 3) (pv 3)) pe_int)))))), ?_⟩
    obtain ⟨p, k⟩ := a
    obtain ⟨ns, hS, hl, hq⟩ := hb
    dsimp only at hS hq
    simp only [tSeq, tIfS, tTest, tOp, tVar, L2.tC, tCB, tCons, tNil, tRet, tAsg, gName, gSub, tNot, tOr, tAnd, tFld, tB, tTru, tLM, tCallS, tMethW, tMakeW, tDrop, tNext, tUn, tTup, tLst, sFld, tChain, tAndV, tOrV, tNotV, tIf, tDNewK,
 qAddI, qAddS, qAddL, qMulI, qMulL, qSubI, qI, qUI, qEqS, qNeS, scNI, scIN, scNS, scSN, scNB, scBN, scNN, scII, scSS, scBB, scIS, scSI, scBS, scSB, qInL, qInT, qNiL, qNiT, qInDs, qNiDs, qInDi, qNiDi, qIxL, qIxT, qIxDs, qIxDi, qIxS, qSetL, qSetDs, qSetDi, qLenS, qLenL, qLenT, qLenD, qIs, okInt, okStr, okBool, okList, okTup, okDict, tyNon, tyBl, tyInt, tyStr, qTN, qTB, qTI, qTS, qTL, qLtI, qLeI, qGtI, qGeI, qApp, qCnt, qIdx, flN, flI, flS, flB, qIsL,
 isT_NoneType_int, isT_NoneType_str, isT_NoneType_bool, isT_NoneType_list, isT_NoneType_tuple, isT_NoneType_dict, isT_bool_int, isT_bool_str, isT_bool_bool, isT_bool_list, isT_bool_tuple, isT_bool_dict, isT_int_int, isT_int_str, isT_int_bool, isT_int_list, isT_int_tuple, isT_int_dict, isT_str_int, isT_str_str, isT_str_bool, isT_str_list, isT_str_tuple, isT_str_dict, isT_list_int, isT_list_str, isT_list_bool, isT_list_list, isT_list_tuple, isT_list_dict, isT_tuple_int, isT_tuple_str, isT_tuple_bool, isT_tuple_list, isT_tuple_tuple, isT_tuple_dict, isT_dict_int, isT_dict_str, isT_dict_bool, isT_dict_list, isT_dict_tuple, isT_dict_dict, cxB_K, WF, WE, List.getElem?_cons_zero, List.getElem?_cons_succ, Option.some.injEq, exists_eq_left', exists_eq_left, V.ref.injEq, V.int.injEq, V.str.injEq, V.bl.injEq, HO.ins.injEq, List.cons.injEq, and_true, true_and, exists_and_left, and_assoc, reduceCtorEq, false_and, and_false, exists_false, or_false, false_or, if_true, if_false, Bool.false_eq_true, Bool.not_true, Bool.not_false, ite_true, ite_false, List.mem_singleton, forall_eq, L2.start, List.map_cons, List.map_nil, List.length_cons, List.length_nil, List.replicate, List.cons_append, List.nil_append, Nat.sub_self, Nat.reduceAdd, Nat.reduceSub, List.set_cons_zero, List.set_cons_succ, L2.wipe, tYes, gCons, gNil, tCont, tAndF, tOrF, false_implies, L2.tSl, tNoPart, tPart, tBM, tyVs, Int.reduceLT, Int.reduceLE, CDiv, qSlS, tAug, qIpI, Int.zero_add, decide_true, decide_false, sz1, sz2, sz3, sz0, sz4, sz5, sz6, sz7, sz8, sz9, sz10, sz11, sz12, kV_s, kV_i, Nat.reduceLT, Nat.reduceLeDiff, true_implies, Option.isSome_some, Option.isSome_none, String.reduceBEq, Bool.or_false, Bool.or_true, Bool.false_or, Bool.true_or, Bool.and_true, Bool.and_false, Bool.true_and, Bool.false_and]
    refine ⟨_, .inl hS, ?_⟩
    rw [List.length_map]
    have c1 : CMul 7919 (k + 1) := .inl ⟨by decide, by decide⟩
    have c2 : ∀ x : Int, CMul x 48271 := fun x => .inr ⟨by decide, by decide⟩
    have hlo := mixN_lo ns k
    have hhi := mixN_hi ns k
    have c3 : CMul (mixN ns k) (mixN ns k) := .inl ⟨by omega, by omega⟩
    by_cases h0 : 0 < ns.length
    · have h1 : (0 : Int) < ns.length := by omega
      have cd : (ns.length : Int) < 1073741824 := by omega
      have l0 := Int.emod_nonneg k (Int.ne_of_gt h1)
      have l1 := Int.emod_lt_of_pos k h1
      have hlt : (k % (ns.length : Int)).toNat < ns.length := by omega
      have ix : atI (ns.map V.int) (k % (ns.length : Int)) = some (.int (ns[(k % (ns.length : Int)).toNat]?.getD 0)) := by
        unfold atI ixN
        simp [l0, l1, hlt]
      simp only [tSeq, tIfS, tTest, tOp, tVar, L2.tC, tCB, tCons, tNil, tRet, tAsg, gName, gSub, tNot, tOr, tAnd, tFld, tB, tTru, tLM, tCallS, tMethW, tMakeW, tDrop, tNext, tUn, tTup, tLst, sFld, tChain, tAndV, tOrV, tNotV, tIf, tDNewK,
 qAddI, qAddS, qAddL, qMulI, qMulL, qSubI, qI, qUI, qEqS, qNeS, scNI, scIN, scNS, scSN, scNB, scBN, scNN, scII, scSS, scBB, scIS, scSI, scBS, scSB, qInL, qInT, qNiL, qNiT, qInDs, qNiDs, qInDi, qNiDi, qIxL, qIxT, qIxDs, qIxDi, qIxS, qSetL, qSetDs, qSetDi, qLenS, qLenL, qLenT, qLenD, qIs, okInt, okStr, okBool, okList, okTup, okDict, tyNon, tyBl, tyInt, tyStr, qTN, qTB, qTI, qTS, qTL, qLtI, qLeI, qGtI, qGeI, qApp, qCnt, qIdx, flN, flI, flS, flB, qIsL,
 isT_NoneType_int, isT_NoneType_str, isT_NoneType_bool, isT_NoneType_list, isT_NoneType_tuple, isT_NoneType_dict, isT_bool_int, isT_bool_str, isT_bool_bool, isT_bool_list, isT_bool_tuple, isT_bool_dict, isT_int_int, isT_int_str, isT_int_bool, isT_int_list, isT_int_tuple, isT_int_dict, isT_str_int, isT_str_str, isT_str_bool, isT_str_list, isT_str_tuple, isT_str_dict, isT_list_int, isT_list_str, isT_list_bool, isT_list_list, isT_list_tuple, isT_list_dict, isT_tuple_int, isT_tuple_str, isT_tuple_bool, isT_tuple_list, isT_tuple_tuple, isT_tuple_dict, isT_dict_int, isT_dict_str, isT_dict_bool, isT_dict_list, isT_dict_tuple, isT_dict_dict, cxB_K, WF, WE, List.getElem?_cons_zero, List.getElem?_cons_succ, Option.some.injEq, exists_eq_left', exists_eq_left, V.ref.injEq, V.int.injEq, V.str.injEq, V.bl.injEq, HO.ins.injEq, List.cons.injEq, and_true, true_and, exists_and_left, and_assoc, reduceCtorEq, false_and, and_false, exists_false, or_false, false_or, if_true, if_false, Bool.false_eq_true, Bool.not_true, Bool.not_false, ite_true, ite_false, List.mem_singleton, forall_eq, L2.start, List.map_cons, List.map_nil, List.length_cons, List.length_nil, List.replicate, List.cons_append, List.nil_append, Nat.sub_self, Nat.reduceAdd, Nat.reduceSub, List.set_cons_zero, List.set_cons_succ, L2.wipe, tYes, gCons, gNil, tCont, tAndF, tOrF, false_implies, L2.tSl, tNoPart, tPart, tBM, tyVs, Int.reduceLT, Int.reduceLE, CDiv, qSlS, tAug, qIpI, Int.zero_add, decide_true, decide_false, sz1, sz2, sz3, sz0, sz4, sz5, sz6, sz7, sz8, sz9, sz10, sz11, sz12, kV_s, kV_i, Nat.reduceLT, Nat.reduceLeDiff, true_implies, Option.isSome_some, Option.isSome_none, String.reduceBEq, Bool.or_false, Bool.or_true, Bool.false_or, Bool.true_or, Bool.and_true, Bool.and_false, Bool.true_and, Bool.false_and, h1]
      refine ⟨_, .inl hS, ?_, p, ns.map V.int, _, _, rfl, rfl, hS, by rw [List.length_map]; exact ix, _, .inl hS, ?_⟩
      · rw [List.length_map]; exact h1
      rw [List.length_map]
      simp only [tSeq, tIfS, tTest, tOp, tVar, L2.tC, tCB, tCons, tNil, tRet, tAsg, gName, gSub, tNot, tOr, tAnd, tFld, tB, tTru, tLM, tCallS, tMethW, tMakeW, tDrop, tNext, tUn, tTup, tLst, sFld, tChain, tAndV, tOrV, tNotV, tIf, tDNewK,
 qAddI, qAddS, qAddL, qMulI, qMulL, qSubI, qI, qUI, qEqS, qNeS, scNI, scIN, scNS, scSN, scNB, scBN, scNN, scII, scSS, scBB, scIS, scSI, scBS, scSB, qInL, qInT, qNiL, qNiT, qInDs, qNiDs, qInDi, qNiDi, qIxL, qIxT, qIxDs, qIxDi, qIxS, qSetL, qSetDs, qSetDi, qLenS, qLenL, qLenT, qLenD, qIs, okInt, okStr, okBool, okList, okTup, okDict, tyNon, tyBl, tyInt, tyStr, qTN, qTB, qTI, qTS, qTL, qLtI, qLeI, qGtI, qGeI, qApp, qCnt, qIdx, flN, flI, flS, flB, qIsL,
 isT_NoneType_int, isT_NoneType_str, isT_NoneType_bool, isT_NoneType_list, isT_NoneType_tuple, isT_NoneType_dict, isT_bool_int, isT_bool_str, isT_bool_bool, isT_bool_list, isT_bool_tuple, isT_bool_dict, isT_int_int, isT_int_str, isT_int_bool, isT_int_list, isT_int_tuple, isT_int_dict, isT_str_int, isT_str_str, isT_str_bool, isT_str_list, isT_str_tuple, isT_str_dict, isT_list_int, isT_list_str, isT_list_bool, isT_list_list, isT_list_tuple, isT_list_dict, isT_tuple_int, isT_tuple_str, isT_tuple_bool, isT_tuple_list, isT_tuple_tuple, isT_tuple_dict, isT_dict_int, isT_dict_str, isT_dict_bool, isT_dict_list, isT_dict_tuple, isT_dict_dict, cxB_K, WF, WE, List.getElem?_cons_zero, List.getElem?_cons_succ, Option.some.injEq, exists_eq_left', exists_eq_left, V.ref.injEq, V.int.injEq, V.str.injEq, V.bl.injEq, HO.ins.injEq, List.cons.injEq, and_true, true_and, exists_and_left, and_assoc, reduceCtorEq, false_and, and_false, exists_false, or_false, false_or, if_true, if_false, Bool.false_eq_true, Bool.not_true, Bool.not_false, ite_true, ite_false, List.mem_singleton, forall_eq, L2.start, List.map_cons, List.map_nil, List.length_cons, List.length_nil, List.replicate, List.cons_append, List.nil_append, Nat.sub_self, Nat.reduceAdd, Nat.reduceSub, List.set_cons_zero, List.set_cons_succ, L2.wipe, tYes, gCons, gNil, tCont, tAndF, tOrF, false_implies, L2.tSl, tNoPart, tPart, tBM, tyVs, Int.reduceLT, Int.reduceLE, CDiv, qSlS, tAug, qIpI, Int.zero_add, decide_true, decide_false, sz1, sz2, sz3, sz0, sz4, sz5, sz6, sz7, sz8, sz9, sz10, sz11, sz12, kV_s, kV_i, Nat.reduceLT, Nat.reduceLeDiff, true_implies, Option.isSome_some, Option.isSome_none, String.reduceBEq, Bool.or_false, Bool.or_true, Bool.false_or, Bool.true_or, Bool.and_true, Bool.and_false, Bool.true_and, Bool.false_and, c1, c2, cd, h1]
      have e : (ns[(k % (ns.length : Int)).toNat]?.getD 0 + k / (ns.length : Int) + 7919 * (k + 1)) * 48271 % 2147483647 = mixN ns k := by
        unfold mixN; rw [if_pos h0]
      rw [e]
      exact ⟨c3, hq⟩
    · have h1 : ¬ (0 : Int) < ns.length := by omega
      simp only [tSeq, tIfS, tTest, tOp, tVar, L2.tC, tCB, tCons, tNil, tRet, tAsg, gName, gSub, tNot, tOr, tAnd, tFld, tB, tTru, tLM, tCallS, tMethW, tMakeW, tDrop, tNext, tUn, tTup, tLst, sFld, tChain, tAndV, tOrV, tNotV, tIf, tDNewK,
 qAddI, qAddS, qAddL, qMulI, qMulL, qSubI, qI, qUI, qEqS, qNeS, scNI, scIN, scNS, scSN, scNB, scBN, scNN, scII, scSS, scBB, scIS, scSI, scBS, scSB, qInL, qInT, qNiL, qNiT, qInDs, qNiDs, qInDi, qNiDi, qIxL, qIxT, qIxDs, qIxDi, qIxS, qSetL, qSetDs, qSetDi, qLenS, qLenL, qLenT, qLenD, qIs, okInt, okStr, okBool, okList, okTup, okDict, tyNon, tyBl, tyInt, tyStr, qTN, qTB, qTI, qTS, qTL, qLtI, qLeI, qGtI, qGeI, qApp, qCnt, qIdx, flN, flI, flS, flB, qIsL,
 isT_NoneType_int, isT_NoneType_str, isT_NoneType_bool, isT_NoneType_list, isT_NoneType_tuple, isT_NoneType_dict, isT_bool_int, isT_bool_str, isT_bool_bool, isT_bool_list, isT_bool_tuple, isT_bool_dict, isT_int_int, isT_int_str, isT_int_bool, isT_int_list, isT_int_tuple, isT_int_dict, isT_str_int, isT_str_str, isT_str_bool, isT_str_list, isT_str_tuple, isT_str_dict, isT_list_int, isT_list_str, isT_list_bool, isT_list_list, isT_list_tuple, isT_list_dict, isT_tuple_int, isT_tuple_str, isT_tuple_bool, isT_tuple_list, isT_tuple_tuple, isT_tuple_dict, isT_dict_int, isT_dict_str, isT_dict_bool, isT_dict_list, isT_dict_tuple, isT_dict_dict, cxB_K, WF, WE, List.getElem?_cons_zero, List.getElem?_cons_succ, Option.some.injEq, exists_eq_left', exists_eq_left, V.ref.injEq, V.int.injEq, V.str.injEq, V.bl.injEq, HO.ins.injEq, List.cons.injEq, and_true, true_and, exists_and_left, and_assoc, reduceCtorEq, false_and, and_false, exists_false, or_false, false_or, if_true, if_false, Bool.false_eq_true, Bool.not_true, Bool.not_false, ite_true, ite_false, List.mem_singleton, forall_eq, L2.start, List.map_cons, List.map_nil, List.length_cons, List.length_nil, List.replicate, List.cons_append, List.nil_append, Nat.sub_self, Nat.reduceAdd, Nat.reduceSub, List.set_cons_zero, List.set_cons_succ, L2.wipe, tYes, gCons, gNil, tCont, tAndF, tOrF, false_implies, L2.tSl, tNoPart, tPart, tBM, tyVs, Int.reduceLT, Int.reduceLE, CDiv, qSlS, tAug, qIpI, Int.zero_add, decide_true, decide_false, sz1, sz2, sz3, sz0, sz4, sz5, sz6, sz7, sz8, sz9, sz10, sz11, sz12, kV_s, kV_i, Nat.reduceLT, Nat.reduceLeDiff, true_implies, Option.isSome_some, Option.isSome_none, String.reduceBEq, Bool.or_false, Bool.or_true, Bool.false_or, Bool.true_or, Bool.and_true, Bool.and_false, Bool.true_and, Bool.false_and, h1, c1, c2]
      have e : (k + 7919 * (k + 1)) * 48271 % 2147483647 = mixN ns k := by
        unfold mixN; rw [if_neg h0]
      rw [e]
      exact ⟨c3, hq⟩
theorem mix_use {H : Hp} {p : Addr} {ns : List Int} {k : Int} {Q : VK} {E : XK} (hS : SqL K H p (ns.map V.int)) (hl : ns.length ≤ 63) (q : Q (.int (mixP ns k)) H) : sp_mix K [.ref p, .int k] H Q E := ⟨(p, k), rfl, ns, hS, hl, q⟩
def baseL (ns : List Int) : List Nat := (List.range 8).map fun (j : Nat) => letN (mixP ns (2 + (j : Nat)) / 7 % 26)
def sizeN (ns : List Int) : Int := 1 + mixP ns 1 / 26 % 8
def atN (ns : List Int) : Int := mixP ns 1 / 624 % sizeN ns
def nameL (ns : List Int) (k : Int) : List Nat :=
  if 0 < mixP ns 1 / 208 % 3 then (baseL ns).take (atN ns).toNat ++ [letN ((mixP ns 1 + k) % 26)] ++ ((baseL ns).drop (atN ns + 1).toNat).take ((sizeN ns).toNat - (atN ns + 1).toNat)
  else [letN ((mixP ns 1 + k) % 26)] ++ (baseL ns).take ((k + sizeN ns) % 8).toNat
def sp_name (K : PySem.W.Frag) : Sp := Sp.of (fun a : Addr × Int => [.ref a.1, .int a.2]) fun a H Q E => ∃ ns : List Int, SqL K H a.1 (ns.map V.int) ∧ ns.length ≤ 63 ∧ 0 ≤ a.2 ∧ ∀ H', Same H H' → Q (.str (strL (nameL ns a.2))) H'
theorem sizeN_lo (ns : List Int) : 1 ≤ sizeN ns := by
  have := Int.emod_nonneg (mixP ns 1 / 26) (show (8 : Int) ≠ 0 by decide)
  unfold sizeN; omega
theorem sizeN_hi (ns : List Int) : sizeN ns ≤ 8 := by
  have := Int.emod_lt_of_pos (mixP ns 1 / 26) (show (0 : Int) < 8 by decide)
  unfold sizeN; omega
theorem atN_lo (ns : List Int) : 0 ≤ atN ns := Int.emod_nonneg _ (by have := sizeN_lo ns; omega)
theorem atN_hi (ns : List Int) : atN ns < sizeN ns := Int.emod_lt_of_pos _ (by have := sizeN_lo ns; omega)
theorem baseL_len (ns : List Int) : (baseL ns).length = 8 := by simp [baseL]
theorem ok__law_name (T : Tx K mg) : Fw P w K mg base 2 (ga K "_law_name") (sp_name K) :=
  Fw.mk_of (T.d__law_name) sc__law_name (fun _ _ _ _ _ _ us hl => match us, hl with | [_, _], _ => rfl) (fun _ => rfl) fun cdv Ar outer s H a Q E hr hb => by
    have hu := hr.units
    refine ⟨_, (pss_cons (ps_set (i := 2) sc__law_name.nd rfl (by first | exact Or.inl rfl | exact Or.inr rfl) (pe_ix (ix_F hu) pe_str (pe_op op_mod (pe_op op_addF (pe_callW (ok__law_mix T) (hr.mono (by decide)) T.g__law_mix (fun σ => L2N.passAt tkF σ) (pa_cons (pv 0) (pa_cons pe_int pa_nil))) (pv 1)) pe_int) (fun _ _ => rfl)))
    (pss_cons (ps_set (i := 3) sc__law_name.nd rfl (by first | exact Or.inl rfl | exact Or.inr rfl) (pe_bm PySem.F.plainAttrs_str PySem.F.slot_str_join PySem.F.type_str_join mt_join pe_str (pa_cons (pe_lc (by rfl) sc__law_name.nd (pi_range1 (by rfl) T.n_range (pa_cons pe_int pa_nil)) (blkOk_by (own := [("_law_at_here", 5)]) (N := ["_law_script", "_law_k", "_law_sign", "_law_base", "_law_size", "_law_at_here"]) (sc := defScope s__law_name) (by decide +kernel)) (fun _ _ _ _ _ => by exact (pg_name (i := 5) sc__law_name.nd rfl (by first | exact Or.inl rfl | exact Or.inr rfl))) (fun _ _ _ _ _ => by exact pts_nil) (fun _ _ _ _ _ => by exact (pe_ix (ix_F hu) pe_str (pe_op op_mod (pe_op op_fdiv (pe_callW (ok__law_mix T) (hr.mono (by decide)) T.g__law_mix (fun σ => passNo σ) (pa_cons (pv 0) (pa_cons (pe_op op_addF pe_int (pv 5)) pa_nil))) pe_int) pe_int) (fun _ _ => rfl)))) pa_nil)))
    (pss_cons (ps_set (i := 4) sc__law_name.nd rfl (by first | exact Or.inl rfl | exact Or.inr rfl) (pe_op op_addF pe_int (pe_op op_mod (pe_op op_fdiv (pe_callW (ok__law_mix T) (hr.mono (by decide)) T.g__law_mix (fun σ => L2N.passAt tkF σ) (pa_cons (pv 0) (pa_cons pe_int pa_nil))) pe_int) pe_int)))
    (pss_cons (ps_if (pt_cmpR op_gtF (pe_op op_mod (pe_op op_fdiv (pe_callW (ok__law_mix T) (hr.mono (by decide)) T.g__law_mix (fun σ => L2N.passAt tkF σ) (pa_cons (pv 0) (pa_cons pe_int pa_nil))) pe_int) pe_int) pe_int (nomark _)) (pss_cons (ps_set (i := 5) sc__law_name.nd rfl (by first | exact Or.inl rfl | exact Or.inr rfl) (pe_op op_mod (pe_op op_fdiv (pe_callW (ok__law_mix T) (hr.mono (by decide)) T.g__law_mix (fun σ => L2N.passAt tkF σ) (pa_cons (pv 0) (pa_cons pe_int pa_nil))) pe_int) (pv 4)))
    (pss_one (ps_ret (pe_op op_addF (pe_op op_addF (pe_slice sl_U (pv 3) po_none (po_some (pv 5))) (pv 2)) (pe_slice sl_U (pv 3) (po_some (pe_op op_addF (pv 5) pe_int)) (po_some (pv 4))))))) pss_nil)
    (pss_one (ps_ret (pe_op op_addF (pv 2) (pe_slice sl_U (pv 3) po_none (po_some (pe_op op_mod (pe_op op_addF (pv 1) (pv 4)) pe_int)))))))))), ?_⟩
    obtain ⟨p, k⟩ := a
    obtain ⟨ns, hS, hl, hk, hq⟩ := hb
    dsimp only at hS hq hk
    simp only [tSeq, tIfS, tTest, tOp, tVar, L2.tC, tCB, tCons, tNil, tRet, tAsg, gName, gSub, tNot, tOr, tAnd, tFld, tB, tTru, tLM, tCallS, tMethW, tMakeW, tDrop, tNext, tUn, tTup, tLst, sFld, tChain, tAndV, tOrV, tNotV, tIf, tDNewK,
 qAddI, qAddS, qAddL, qMulI, qMulL, qSubI, qI, qUI, qEqS, qNeS, scNI, scIN, scNS, scSN, scNB, scBN, scNN, scII, scSS, scBB, scIS, scSI, scBS, scSB, qInL, qInT, qNiL, qNiT, qInDs, qNiDs, qInDi, qNiDi, qIxL, qIxT, qIxDs, qIxDi, qIxS, qSetL, qSetDs, qSetDi, qLenS, qLenL, qLenT, qLenD, qIs, okInt, okStr, okBool, okList, okTup, okDict, tyNon, tyBl, tyInt, tyStr, qTN, qTB, qTI, qTS, qTL, qLtI, qLeI, qGtI, qGeI, qApp, qCnt, qIdx, flN, flI, flS, flB, qIsL,
 isT_NoneType_int, isT_NoneType_str, isT_NoneType_bool, isT_NoneType_list, isT_NoneType_tuple, isT_NoneType_dict, isT_bool_int, isT_bool_str, isT_bool_bool, isT_bool_list, isT_bool_tuple, isT_bool_dict, isT_int_int, isT_int_str, isT_int_bool, isT_int_list, isT_int_tuple, isT_int_dict, isT_str_int, isT_str_str, isT_str_bool, isT_str_list, isT_str_tuple, isT_str_dict, isT_list_int, isT_list_str, isT_list_bool, isT_list_list, isT_list_tuple, isT_list_dict, isT_tuple_int, isT_tuple_str, isT_tuple_bool, isT_tuple_list, isT_tuple_tuple, isT_tuple_dict, isT_dict_int, isT_dict_str, isT_dict_bool, isT_dict_list, isT_dict_tuple, isT_dict_dict, cxB_K, WF, WE, List.getElem?_cons_zero, List.getElem?_cons_succ, Option.some.injEq, exists_eq_left', exists_eq_left, V.ref.injEq, V.int.injEq, V.str.injEq, V.bl.injEq, HO.ins.injEq, List.cons.injEq, and_true, true_and, exists_and_left, and_assoc, reduceCtorEq, false_and, and_false, exists_false, or_false, false_or, if_true, if_false, Bool.false_eq_true, Bool.not_true, Bool.not_false, ite_true, ite_false, List.mem_singleton, forall_eq, L2.start, List.map_cons, List.map_nil, List.length_cons, List.length_nil, List.replicate, List.cons_append, List.nil_append, Nat.sub_self, Nat.reduceAdd, Nat.reduceSub, List.set_cons_zero, List.set_cons_succ, L2.wipe, tYes, gCons, gNil, tCont, tAndF, tOrF, false_implies, L2.tSl, tNoPart, tPart, tBM, tyVs, Int.reduceLT, Int.reduceLE, CDiv, qSlS, tAug, qIpI, Int.zero_add, decide_true, decide_false, sz1, sz2, sz3, sz0, sz4, sz5, sz6, sz7, sz8, sz9, sz10, sz11, sz12, kV_s, kV_i, Nat.reduceLT, Nat.reduceLeDiff, true_implies, Option.isSome_some, Option.isSome_none, String.reduceBEq, Bool.or_false, Bool.or_true, Bool.false_or, Bool.true_or, Bool.and_true, Bool.and_false, Bool.true_and, Bool.false_and]
    refine mix_use hS hl ?_
    simp only [tSeq, tIfS, tTest, tOp, tVar, L2.tC, tCB, tCons, tNil, tRet, tAsg, gName, gSub, tNot, tOr, tAnd, tFld, tB, tTru, tLM, tCallS, tMethW, tMakeW, tDrop, tNext, tUn, tTup, tLst, sFld, tChain, tAndV, tOrV, tNotV, tIf, tDNewK,
 qAddI, qAddS, qAddL, qMulI, qMulL, qSubI, qI, qUI, qEqS, qNeS, scNI, scIN, scNS, scSN, scNB, scBN, scNN, scII, scSS, scBB, scIS, scSI, scBS, scSB, qInL, qInT, qNiL, qNiT, qInDs, qNiDs, qInDi, qNiDi, qIxL, qIxT, qIxDs, qIxDi, qIxS, qSetL, qSetDs, qSetDi, qLenS, qLenL, qLenT, qLenD, qIs, okInt, okStr, okBool, okList, okTup, okDict, tyNon, tyBl, tyInt, tyStr, qTN, qTB, qTI, qTS, qTL, qLtI, qLeI, qGtI, qGeI, qApp, qCnt, qIdx, flN, flI, flS, flB, qIsL,
 isT_NoneType_int, isT_NoneType_str, isT_NoneType_bool, isT_NoneType_list, isT_NoneType_tuple, isT_NoneType_dict, isT_bool_int, isT_bool_str, isT_bool_bool, isT_bool_list, isT_bool_tuple, isT_bool_dict, isT_int_int, isT_int_str, isT_int_bool, isT_int_list, isT_int_tuple, isT_int_dict, isT_str_int, isT_str_str, isT_str_bool, isT_str_list, isT_str_tuple, isT_str_dict, isT_list_int, isT_list_str, isT_list_bool, isT_list_list, isT_list_tuple, isT_list_dict, isT_tuple_int, isT_tuple_str, isT_tuple_bool, isT_tuple_list, isT_tuple_tuple, isT_tuple_dict, isT_dict_int, isT_dict_str, isT_dict_bool, isT_dict_list, isT_dict_tuple, isT_dict_dict, cxB_K, WF, WE, List.getElem?_cons_zero, List.getElem?_cons_succ, Option.some.injEq, exists_eq_left', exists_eq_left, V.ref.injEq, V.int.injEq, V.str.injEq, V.bl.injEq, HO.ins.injEq, List.cons.injEq, and_true, true_and, exists_and_left, and_assoc, reduceCtorEq, false_and, and_false, exists_false, or_false, false_or, if_true, if_false, Bool.false_eq_true, Bool.not_true, Bool.not_false, ite_true, ite_false, List.mem_singleton, forall_eq, L2.start, List.map_cons, List.map_nil, List.length_cons, List.length_nil, List.replicate, List.cons_append, List.nil_append, Nat.sub_self, Nat.reduceAdd, Nat.reduceSub, List.set_cons_zero, List.set_cons_succ, L2.wipe, tYes, gCons, gNil, tCont, tAndF, tOrF, false_implies, L2.tSl, tNoPart, tPart, tBM, tyVs, Int.reduceLT, Int.reduceLE, CDiv, qSlS, tAug, qIpI, Int.zero_add, decide_true, decide_false, sz1, sz2, sz3, sz0, sz4, sz5, sz6, sz7, sz8, sz9, sz10, sz11, sz12, kV_s, kV_i, Nat.reduceLT, Nat.reduceLeDiff, true_implies, Option.isSome_some, Option.isSome_none, String.reduceBEq, Bool.or_false, Bool.or_true, Bool.false_or, Bool.true_or, Bool.and_true, Bool.and_false, Bool.true_and, Bool.false_and, qIxS, abc_le, ix_abc]
    refine ⟨_, rfl, by decide, by decide, ?_⟩
    intro D hD
    refine lc_map walk_range (src := List.range 8) rfl (fun _ => true) (fun j => .str (strL [letN (mixP ns (2 + (j : Nat)) / 7 % 26)])) (fun _ _ => trivial) hD (by decide) ?_ ?_
    · rintro i j x H1 H2 C N ec s1 ⟨rfl, rfl⟩ hC hN
      have : j = i := by
        obtain ⟨h, e⟩ := List.getElem?_eq_some_iff.mp ec
        rw [← e, List.getElem_range]
      subst this
      refine ⟨rfl, ?_⟩
      simp only [tSeq, tIfS, tTest, tOp, tVar, L2.tC, tCB, tCons, tNil, tRet, tAsg, gName, gSub, tNot, tOr, tAnd, tFld, tB, tTru, tLM, tCallS, tMethW, tMakeW, tDrop, tNext, tUn, tTup, tLst, sFld, tChain, tAndV, tOrV, tNotV, tIf, tDNewK,
 qAddI, qAddS, qAddL, qMulI, qMulL, qSubI, qI, qUI, qEqS, qNeS, scNI, scIN, scNS, scSN, scNB, scBN, scNN, scII, scSS, scBB, scIS, scSI, scBS, scSB, qInL, qInT, qNiL, qNiT, qInDs, qNiDs, qInDi, qNiDi, qIxL, qIxT, qIxDs, qIxDi, qIxS, qSetL, qSetDs, qSetDi, qLenS, qLenL, qLenT, qLenD, qIs, okInt, okStr, okBool, okList, okTup, okDict, tyNon, tyBl, tyInt, tyStr, qTN, qTB, qTI, qTS, qTL, qLtI, qLeI, qGtI, qGeI, qApp, qCnt, qIdx, flN, flI, flS, flB, qIsL,
 isT_NoneType_int, isT_NoneType_str, isT_NoneType_bool, isT_NoneType_list, isT_NoneType_tuple, isT_NoneType_dict, isT_bool_int, isT_bool_str, isT_bool_bool, isT_bool_list, isT_bool_tuple, isT_bool_dict, isT_int_int, isT_int_str, isT_int_bool, isT_int_list, isT_int_tuple, isT_int_dict, isT_str_int, isT_str_str, isT_str_bool, isT_str_list, isT_str_tuple, isT_str_dict, isT_list_int, isT_list_str, isT_list_bool, isT_list_list, isT_list_tuple, isT_list_dict, isT_tuple_int, isT_tuple_str, isT_tuple_bool, isT_tuple_list, isT_tuple_tuple, isT_tuple_dict, isT_dict_int, isT_dict_str, isT_dict_bool, isT_dict_list, isT_dict_tuple, isT_dict_dict, cxB_K, WF, WE, List.getElem?_cons_zero, List.getElem?_cons_succ, Option.some.injEq, exists_eq_left', exists_eq_left, V.ref.injEq, V.int.injEq, V.str.injEq, V.bl.injEq, HO.ins.injEq, List.cons.injEq, and_true, true_and, exists_and_left, and_assoc, reduceCtorEq, false_and, and_false, exists_false, or_false, false_or, if_true, if_false, Bool.false_eq_true, Bool.not_true, Bool.not_false, ite_true, ite_false, List.mem_singleton, forall_eq, L2.start, List.map_cons, List.map_nil, List.length_cons, List.length_nil, List.replicate, List.cons_append, List.nil_append, Nat.sub_self, Nat.reduceAdd, Nat.reduceSub, List.set_cons_zero, List.set_cons_succ, L2.wipe, tYes, gCons, gNil, tCont, tAndF, tOrF, false_implies, L2.tSl, tNoPart, tPart, tBM, tyVs, Int.reduceLT, Int.reduceLE, CDiv, qSlS, tAug, qIpI, Int.zero_add, decide_true, decide_false, sz1, sz2, sz3, sz0, sz4, sz5, sz6, sz7, sz8, sz9, sz10, sz11, sz12, kV_s, kV_i, Nat.reduceLT, Nat.reduceLeDiff, true_implies, Option.isSome_some, Option.isSome_none, String.reduceBEq, Bool.or_false, Bool.or_true, Bool.false_or, Bool.true_or, Bool.and_true, Bool.and_false, Bool.true_and, Bool.false_and, tCallS]
      refine mix_use (s1.seq hS) hl ?_
      simp only [tSeq, tIfS, tTest, tOp, tVar, L2.tC, tCB, tCons, tNil, tRet, tAsg, gName, gSub, tNot, tOr, tAnd, tFld, tB, tTru, tLM, tCallS, tMethW, tMakeW, tDrop, tNext, tUn, tTup, tLst, sFld, tChain, tAndV, tOrV, tNotV, tIf, tDNewK,
 qAddI, qAddS, qAddL, qMulI, qMulL, qSubI, qI, qUI, qEqS, qNeS, scNI, scIN, scNS, scSN, scNB, scBN, scNN, scII, scSS, scBB, scIS, scSI, scBS, scSB, qInL, qInT, qNiL, qNiT, qInDs, qNiDs, qInDi, qNiDi, qIxL, qIxT, qIxDs, qIxDi, qIxS, qSetL, qSetDs, qSetDi, qLenS, qLenL, qLenT, qLenD, qIs, okInt, okStr, okBool, okList, okTup, okDict, tyNon, tyBl, tyInt, tyStr, qTN, qTB, qTI, qTS, qTL, qLtI, qLeI, qGtI, qGeI, qApp, qCnt, qIdx, flN, flI, flS, flB, qIsL,
 isT_NoneType_int, isT_NoneType_str, isT_NoneType_bool, isT_NoneType_list, isT_NoneType_tuple, isT_NoneType_dict, isT_bool_int, isT_bool_str, isT_bool_bool, isT_bool_list, isT_bool_tuple, isT_bool_dict, isT_int_int, isT_int_str, isT_int_bool, isT_int_list, isT_int_tuple, isT_int_dict, isT_str_int, isT_str_str, isT_str_bool, isT_str_list, isT_str_tuple, isT_str_dict, isT_list_int, isT_list_str, isT_list_bool, isT_list_list, isT_list_tuple, isT_list_dict, isT_tuple_int, isT_tuple_str, isT_tuple_bool, isT_tuple_list, isT_tuple_tuple, isT_tuple_dict, isT_dict_int, isT_dict_str, isT_dict_bool, isT_dict_list, isT_dict_tuple, isT_dict_dict, cxB_K, WF, WE, List.getElem?_cons_zero, List.getElem?_cons_succ, Option.some.injEq, exists_eq_left', exists_eq_left, V.ref.injEq, V.int.injEq, V.str.injEq, V.bl.injEq, HO.ins.injEq, List.cons.injEq, and_true, true_and, exists_and_left, and_assoc, reduceCtorEq, false_and, and_false, exists_false, or_false, false_or, if_true, if_false, Bool.false_eq_true, Bool.not_true, Bool.not_false, ite_true, ite_false, List.mem_singleton, forall_eq, L2.start, List.map_cons, List.map_nil, List.length_cons, List.length_nil, List.replicate, List.cons_append, List.nil_append, Nat.sub_self, Nat.reduceAdd, Nat.reduceSub, List.set_cons_zero, List.set_cons_succ, L2.wipe, tYes, gCons, gNil, tCont, tAndF, tOrF, false_implies, L2.tSl, tNoPart, tPart, tBM, tyVs, Int.reduceLT, Int.reduceLE, CDiv, qSlS, tAug, qIpI, Int.zero_add, decide_true, decide_false, sz1, sz2, sz3, sz0, sz4, sz5, sz6, sz7, sz8, sz9, sz10, sz11, sz12, kV_s, kV_i, Nat.reduceLT, Nat.reduceLeDiff, true_implies, Option.isSome_some, Option.isSome_none, String.reduceBEq, Bool.or_false, Bool.or_true, Bool.false_or, Bool.true_or, Bool.and_true, Bool.and_false, Bool.true_and, Bool.false_and, qIxS, abc_le, ix_abc]
      exact hC rfl _ (Same.refl _)
    · intro H1 s1 hD1
      rw [filter_all] at hD1
      have e : ((List.range 8).map fun j => V.str (strL [letN (mixP ns (2 + (j : Nat)) / 7 % 26)])) = ((baseL ns).map fun c => strL [c]).map V.str := by
        unfold baseL
        rw [List.map_map, List.map_map]
        rfl
      rw [e] at hD1
      refine ⟨_, rfl, (baseL ns).map fun c => strL [c], .inl (.inl (.inl hD1)), ?_, ?_⟩
      · have : ((baseL ns).map fun c => strL [c]).map (fun x => x.length) = (baseL ns).map fun _ => 1 := by
          rw [List.map_map]; congr 1
        rw [this, List.length_map]
        have e0 : (PySem.Str.ofString "").length = 0 := rfl
        rw [e0, baseL_len, List.map_const', baseL_len]
        decide
      rw [show (PySem.Str.ofString "") = strL [] from rfl, join_L]
      refine mix_use (s1.seq hS) hl ?_
      simp only [tSeq, tIfS, tTest, tOp, tVar, L2.tC, tCB, tCons, tNil, tRet, tAsg, gName, gSub, tNot, tOr, tAnd, tFld, tB, tTru, tLM, tCallS, tMethW, tMakeW, tDrop, tNext, tUn, tTup, tLst, sFld, tChain, tAndV, tOrV, tNotV, tIf, tDNewK,
 qAddI, qAddS, qAddL, qMulI, qMulL, qSubI, qI, qUI, qEqS, qNeS, scNI, scIN, scNS, scSN, scNB, scBN, scNN, scII, scSS, scBB, scIS, scSI, scBS, scSB, qInL, qInT, qNiL, qNiT, qInDs, qNiDs, qInDi, qNiDi, qIxL, qIxT, qIxDs, qIxDi, qIxS, qSetL, qSetDs, qSetDi, qLenS, qLenL, qLenT, qLenD, qIs, okInt, okStr, okBool, okList, okTup, okDict, tyNon, tyBl, tyInt, tyStr, qTN, qTB, qTI, qTS, qTL, qLtI, qLeI, qGtI, qGeI, qApp, qCnt, qIdx, flN, flI, flS, flB, qIsL,
 isT_NoneType_int, isT_NoneType_str, isT_NoneType_bool, isT_NoneType_list, isT_NoneType_tuple, isT_NoneType_dict, isT_bool_int, isT_bool_str, isT_bool_bool, isT_bool_list, isT_bool_tuple, isT_bool_dict, isT_int_int, isT_int_str, isT_int_bool, isT_int_list, isT_int_tuple, isT_int_dict, isT_str_int, isT_str_str, isT_str_bool, isT_str_list, isT_str_tuple, isT_str_dict, isT_list_int, isT_list_str, isT_list_bool, isT_list_list, isT_list_tuple, isT_list_dict, isT_tuple_int, isT_tuple_str, isT_tuple_bool, isT_tuple_list, isT_tuple_tuple, isT_tuple_dict, isT_dict_int, isT_dict_str, isT_dict_bool, isT_dict_list, isT_dict_tuple, isT_dict_dict, cxB_K, WF, WE, List.getElem?_cons_zero, List.getElem?_cons_succ, Option.some.injEq, exists_eq_left', exists_eq_left, V.ref.injEq, V.int.injEq, V.str.injEq, V.bl.injEq, HO.ins.injEq, List.cons.injEq, and_true, true_and, exists_and_left, and_assoc, reduceCtorEq, false_and, and_false, exists_false, or_false, false_or, if_true, if_false, Bool.false_eq_true, Bool.not_true, Bool.not_false, ite_true, ite_false, List.mem_singleton, forall_eq, L2.start, List.map_cons, List.map_nil, List.length_cons, List.length_nil, List.replicate, List.cons_append, List.nil_append, Nat.sub_self, Nat.reduceAdd, Nat.reduceSub, List.set_cons_zero, List.set_cons_succ, L2.wipe, tYes, gCons, gNil, tCont, tAndF, tOrF, false_implies, L2.tSl, tNoPart, tPart, tBM, tyVs, Int.reduceLT, Int.reduceLE, CDiv, qSlS, tAug, qIpI, Int.zero_add, decide_true, decide_false, sz1, sz2, sz3, sz0, sz4, sz5, sz6, sz7, sz8, sz9, sz10, sz11, sz12, kV_s, kV_i, Nat.reduceLT, Nat.reduceLeDiff, true_implies, Option.isSome_some, Option.isSome_none, String.reduceBEq, Bool.or_false, Bool.or_true, Bool.false_or, Bool.true_or, Bool.and_true, Bool.and_false, Bool.true_and, Bool.false_and]
      refine mix_use (s1.seq hS) hl ?_
      simp only [tSeq, tIfS, tTest, tOp, tVar, L2.tC, tCB, tCons, tNil, tRet, tAsg, gName, gSub, tNot, tOr, tAnd, tFld, tB, tTru, tLM, tCallS, tMethW, tMakeW, tDrop, tNext, tUn, tTup, tLst, sFld, tChain, tAndV, tOrV, tNotV, tIf, tDNewK,
 qAddI, qAddS, qAddL, qMulI, qMulL, qSubI, qI, qUI, qEqS, qNeS, scNI, scIN, scNS, scSN, scNB, scBN, scNN, scII, scSS, scBB, scIS, scSI, scBS, scSB, qInL, qInT, qNiL, qNiT, qInDs, qNiDs, qInDi, qNiDi, qIxL, qIxT, qIxDs, qIxDi, qIxS, qSetL, qSetDs, qSetDi, qLenS, qLenL, qLenT, qLenD, qIs, okInt, okStr, okBool, okList, okTup, okDict, tyNon, tyBl, tyInt, tyStr, qTN, qTB, qTI, qTS, qTL, qLtI, qLeI, qGtI, qGeI, qApp, qCnt, qIdx, flN, flI, flS, flB, qIsL,
 isT_NoneType_int, isT_NoneType_str, isT_NoneType_bool, isT_NoneType_list, isT_NoneType_tuple, isT_NoneType_dict, isT_bool_int, isT_bool_str, isT_bool_bool, isT_bool_list, isT_bool_tuple, isT_bool_dict, isT_int_int, isT_int_str, isT_int_bool, isT_int_list, isT_int_tuple, isT_int_dict, isT_str_int, isT_str_str, isT_str_bool, isT_str_list, isT_str_tuple, isT_str_dict, isT_list_int, isT_list_str, isT_list_bool, isT_list_list, isT_list_tuple, isT_list_dict, isT_tuple_int, isT_tuple_str, isT_tuple_bool, isT_tuple_list, isT_tuple_tuple, isT_tuple_dict, isT_dict_int, isT_dict_str, isT_dict_bool, isT_dict_list, isT_dict_tuple, isT_dict_dict, cxB_K, WF, WE, List.getElem?_cons_zero, List.getElem?_cons_succ, Option.some.injEq, exists_eq_left', exists_eq_left, V.ref.injEq, V.int.injEq, V.str.injEq, V.bl.injEq, HO.ins.injEq, List.cons.injEq, and_true, true_and, exists_and_left, and_assoc, reduceCtorEq, false_and, and_false, exists_false, or_false, false_or, if_true, if_false, Bool.false_eq_true, Bool.not_true, Bool.not_false, ite_true, ite_false, List.mem_singleton, forall_eq, L2.start, List.map_cons, List.map_nil, List.length_cons, List.length_nil, List.replicate, List.cons_append, List.nil_append, Nat.sub_self, Nat.reduceAdd, Nat.reduceSub, List.set_cons_zero, List.set_cons_succ, L2.wipe, tYes, gCons, gNil, tCont, tAndF, tOrF, false_implies, L2.tSl, tNoPart, tPart, tBM, tyVs, Int.reduceLT, Int.reduceLE, CDiv, qSlS, tAug, qIpI, Int.zero_add, decide_true, decide_false, sz1, sz2, sz3, sz0, sz4, sz5, sz6, sz7, sz8, sz9, sz10, sz11, sz12, kV_s, kV_i, Nat.reduceLT, Nat.reduceLeDiff, true_implies, Option.isSome_some, Option.isSome_none, String.reduceBEq, Bool.or_false, Bool.or_true, Bool.false_or, Bool.true_or, Bool.and_true, Bool.and_false, Bool.true_and, Bool.false_and]
      have hs : 1 + mixP ns 1 / 26 % 8 = sizeN ns := rfl
      have h0 := sizeN_lo ns
      have h1 := atN_lo ns
      have hb := baseL_len ns
      have hlen : (strL (baseL ns)).length ≤ sizeLine := by rw [strL_len, hb, sizeLine_eq]; decide
      have hpos : 0 < sizeN ns := by omega
      simp only [hs, one_L]
      by_cases hc : 0 < mixP ns 1 / 208 % 3
      · rw [if_pos (decide_eq_true hc)]
        refine mix_use (s1.seq hS) hl ?_
        simp only [tSeq, tIfS, tTest, tOp, tVar, L2.tC, tCB, tCons, tNil, tRet, tAsg, gName, gSub, tNot, tOr, tAnd, tFld, tB, tTru, tLM, tCallS, tMethW, tMakeW, tDrop, tNext, tUn, tTup, tLst, sFld, tChain, tAndV, tOrV, tNotV, tIf, tDNewK,
 qAddI, qAddS, qAddL, qMulI, qMulL, qSubI, qI, qUI, qEqS, qNeS, scNI, scIN, scNS, scSN, scNB, scBN, scNN, scII, scSS, scBB, scIS, scSI, scBS, scSB, qInL, qInT, qNiL, qNiT, qInDs, qNiDs, qInDi, qNiDi, qIxL, qIxT, qIxDs, qIxDi, qIxS, qSetL, qSetDs, qSetDi, qLenS, qLenL, qLenT, qLenD, qIs, okInt, okStr, okBool, okList, okTup, okDict, tyNon, tyBl, tyInt, tyStr, qTN, qTB, qTI, qTS, qTL, qLtI, qLeI, qGtI, qGeI, qApp, qCnt, qIdx, flN, flI, flS, flB, qIsL,
 isT_NoneType_int, isT_NoneType_str, isT_NoneType_bool, isT_NoneType_list, isT_NoneType_tuple, isT_NoneType_dict, isT_bool_int, isT_bool_str, isT_bool_bool, isT_bool_list, isT_bool_tuple, isT_bool_dict, isT_int_int, isT_int_str, isT_int_bool, isT_int_list, isT_int_tuple, isT_int_dict, isT_str_int, isT_str_str, isT_str_bool, isT_str_list, isT_str_tuple, isT_str_dict, isT_list_int, isT_list_str, isT_list_bool, isT_list_list, isT_list_tuple, isT_list_dict, isT_tuple_int, isT_tuple_str, isT_tuple_bool, isT_tuple_list, isT_tuple_tuple, isT_tuple_dict, isT_dict_int, isT_dict_str, isT_dict_bool, isT_dict_list, isT_dict_tuple, isT_dict_dict, cxB_K, WF, WE, List.getElem?_cons_zero, List.getElem?_cons_succ, Option.some.injEq, exists_eq_left', exists_eq_left, V.ref.injEq, V.int.injEq, V.str.injEq, V.bl.injEq, HO.ins.injEq, List.cons.injEq, and_true, true_and, exists_and_left, and_assoc, reduceCtorEq, false_and, and_false, exists_false, or_false, false_or, if_true, if_false, Bool.false_eq_true, Bool.not_true, Bool.not_false, ite_true, ite_false, List.mem_singleton, forall_eq, L2.start, List.map_cons, List.map_nil, List.length_cons, List.length_nil, List.replicate, List.cons_append, List.nil_append, Nat.sub_self, Nat.reduceAdd, Nat.reduceSub, List.set_cons_zero, List.set_cons_succ, L2.wipe, tYes, gCons, gNil, tCont, tAndF, tOrF, false_implies, L2.tSl, tNoPart, tPart, tBM, tyVs, Int.reduceLT, Int.reduceLE, CDiv, qSlS, tAug, qIpI, Int.zero_add, decide_true, decide_false, sz1, sz2, sz3, sz0, sz4, sz5, sz6, sz7, sz8, sz9, sz10, sz11, sz12, kV_s, kV_i, Nat.reduceLT, Nat.reduceLeDiff, true_implies, Option.isSome_some, Option.isSome_none, String.reduceBEq, Bool.or_false, Bool.or_true, Bool.false_or, Bool.true_or, Bool.and_true, Bool.and_false, Bool.true_and, Bool.false_and, hpos, hlen, cut_to _ h1]
        have ha : mixP ns 1 / 624 % sizeN ns = atN ns := rfl
        rw [ha, cut_to _ h1, cut_mid _ (by omega) (by omega), strL_app, strL_app, strL_len, strL_len, strL_len, strL_len]
        refine ⟨?_, ?_, ?_⟩
        · simp [hb, sizeLine_eq]; omega
        · simp [hb, sizeLine_eq]; omega
        · have en : nameL ns k = (baseL ns).take (atN ns).toNat ++ [letN ((mixP ns 1 + k) % 26)] ++ ((baseL ns).drop (atN ns + 1).toNat).take ((sizeN ns).toNat - (atN ns + 1).toNat) := by
            unfold nameL; rw [if_pos hc]
          rw [← en]
          exact hq _ s1
      · rw [if_neg (by simp [hc])]
        have h2 := Int.emod_nonneg (k + sizeN ns) (show (8 : Int) ≠ 0 by decide)
        rw [cut_to _ h2, strL_app, strL_len, strL_len, strL_len]
        refine ⟨?_, ?_, ?_⟩
        · simp [hb, sizeLine_eq]
        · simp [hb, sizeLine_eq]; omega
        · have en : nameL ns k = [letN ((mixP ns 1 + k) % 26)] ++ (baseL ns).take ((k + sizeN ns) % 8).toNat := by
            unfold nameL; rw [if_neg hc]
          rw [← en]
          exact hq _ s1
end
end Pk

namespace Pk
open PySem PySem.Spec PyProof.Rows L2
section
variable {P : Program} {w : World} {K : PySem.W.Frag} {mg : Str → Option Value} {base : Heap}
def sp_word (K : PySem.W.Frag) : SpX := SpX.of (fun a : Addr => [.ref a]) fun a cls d y H Q E => y = a ∧ d = none ∧ ∃ x : Str, (x = "NoTask" ∨ x = "TooMany" ∨ x = "NoHandle") ∧ cls = .ref (ga K x) ∧ ∀ H', Same H H' → Q (.str x) H'
theorem ok__law_word (T : Tx K mg) : Fx P w K mg base 1 (ga K "_law_word") (sp_word K) :=
  Fx.mk_of (T.d__law_word) sc__law_word (fun _ _ _ _ _ _ us hl => match us, hl with | [_], _ => rfl) (fun _ => rfl) fun cdv Ar outer s H y Q E p cls d he hr hb => by
    have hu := unitsH hr
    obtain ⟨rfl, rfl, x, hx, rfl, hq⟩ := hb
    rcases hx with rfl | rfl | rfl
    · have hX := T.x_NoTask.isi
      refine ⟨_, (pss_cons (ps_set (i := 1) sc__law_word.nd rfl (by first | exact Or.inl rfl | exact Or.inr rfl) (pe_lst (pa_cons (pe_callB (call_isX he hX) (by rfl) T.n_isinstance (by decide +kernel) (pa_cons (pv 0) (pa_cons (pe_glob (v := .ref (ga K "NoName")) rfl T.g_NoName rfl) pa_nil))) (pa_cons (pe_callB (call_isX he hX) (by rfl) T.n_isinstance (by decide +kernel) (pa_cons (pv 0) (pa_cons (pe_glob (v := .ref (ga K "Taken")) rfl T.g_Taken rfl) pa_nil))) (pa_cons (pe_callB (call_isX he hX) (by rfl) T.n_isinstance (by decide +kernel) (pa_cons (pv 0) (pa_cons (pe_glob (v := .ref (ga K "NoTask")) rfl T.g_NoTask rfl) pa_nil))) (pa_cons (pe_callB (call_isX he hX) (by rfl) T.n_isinstance (by decide +kernel) (pa_cons (pv 0) (pa_cons (pe_glob (v := .ref (ga K "TooMany")) rfl T.g_TooMany rfl) pa_nil))) pa_nil))))))
    (pss_cons (ps_expr (pe_lm PySem.F.slot_list_append PySem.F.type_list_append mt_appF (pv 1) (pa_cons (pe_callB (call_isX he hX) (by rfl) T.n_isinstance (by decide +kernel) (pa_cons (pv 0) (pa_cons (pe_glob (v := .ref (ga K "NoHandle")) rfl T.g_NoHandle rfl) pa_nil))) pa_nil)))
    (pss_cons (ps_if (PW.pt (pw_or (pt_truF (pe_callB (call_isXt he hX) (by rfl) T.n_isinstance (by decide +kernel) (pa_cons (pv 0) (pa_cons (pe_tup (pa_cons (pe_glob (v := .ref (ga K "NoRights")) rfl T.g_NoRights rfl) (pa_cons (pe_glob (v := .ref (ga K "NoValue")) rfl T.g_NoValue rfl) (pa_cons (pe_glob (v := .ref (ga K "NoWords")) rfl T.g_NoWords rfl) (pa_cons (pe_glob (v := .ref (ga K "NoKind")) rfl T.g_NoKind rfl) (pa_cons (pe_glob (v := .ref (ga K "NoThing")) rfl T.g_NoThing rfl) (pa_cons (pe_glob (v := .ref (ga K "NoRow")) rfl T.g_NoRow rfl) pa_nil))))))) pa_nil))) (by intro _; rfl)) (pw_or1 (pt_not (pt_truF (pe_callB (call_isX he hX) (by rfl) T.n_isinstance (by decide +kernel) (pa_cons (pv 0) (pa_cons (pe_bltn (v := .ty "ValueError") rfl T.n_ValueError (by decide +kernel) rfl) pa_nil))) (by intro _; rfl)))))) (pss_one (ps_ret pe_str)) pss_nil)
    (pss_cons (ps_if (PW.pt (pw_or (pt_truF (pe_callB (call_isXt he hX) (by rfl) T.n_isinstance (by decide +kernel) (pa_cons (pv 0) (pa_cons (pe_tup (pa_cons (pe_glob (v := .ref (ga K "TooGreat")) rfl T.g_TooGreat rfl) (pa_cons (pe_glob (v := .ref (ga K "Empty")) rfl T.g_Empty rfl) (pa_cons (pe_glob (v := .ref (ga K "Full")) rfl T.g_Full rfl) (pa_cons (pe_glob (v := .ref (ga K "NoDeed")) rfl T.g_NoDeed rfl) (pa_cons (pe_glob (v := .ref (ga K "Lacks")) rfl T.g_Lacks rfl) pa_nil)))))) pa_nil))) (by intro _; rfl)) (pw_or1 (pt_cmpR (op_neFB (K := K) rfl hu) (pe_lm PySem.F.slot_list_count PySem.F.type_list_count mt_cntF (pv 1) (pa_cons pe_bl pa_nil)) pe_int (nomark _))))) (pss_one (ps_ret pe_str)) pss_nil)
    (pss_one (ps_ret (pe_ix (ix_F hu) (pe_lst (pa_cons pe_str (pa_cons pe_str (pa_cons pe_str (pa_cons pe_str (pa_cons pe_str pa_nil)))))) (pe_lm PySem.F.slot_list_index PySem.F.type_list_index mt_idxF (pv 1) (pa_cons pe_bl pa_nil)) (fun _ _ => rfl)))))))), ?_⟩
      simp only [tSeq, tIfS, tTest, tOp, tVar, L2.tC, tCB, tCons, tNil, tRet, tAsg, gName, gSub, tNot, tOr, tAnd, tFld, tB, tTru, tLM, tCallS, tMethW, tMakeW, tDrop, tNext, tUn, tTup, tLst, sFld, tChain, tAndV, tOrV, tNotV, tIf, tDNewK,
 qAddI, qAddS, qAddL, qMulI, qMulL, qSubI, qI, qUI, qEqS, qNeS, scNI, scIN, scNS, scSN, scNB, scBN, scNN, scII, scSS, scBB, scIS, scSI, scBS, scSB, qInL, qInT, qNiL, qNiT, qInDs, qNiDs, qInDi, qNiDi, qIxL, qIxT, qIxDs, qIxDi, qIxS, qSetL, qSetDs, qSetDi, qLenS, qLenL, qLenT, qLenD, qIs, okInt, okStr, okBool, okList, okTup, okDict, tyNon, tyBl, tyInt, tyStr, qTN, qTB, qTI, qTS, qTL, qLtI, qLeI, qGtI, qGeI, qApp, qCnt, qIdx, flN, flI, flS, flB, qIsL,
 isT_NoneType_int, isT_NoneType_str, isT_NoneType_bool, isT_NoneType_list, isT_NoneType_tuple, isT_NoneType_dict, isT_bool_int, isT_bool_str, isT_bool_bool, isT_bool_list, isT_bool_tuple, isT_bool_dict, isT_int_int, isT_int_str, isT_int_bool, isT_int_list, isT_int_tuple, isT_int_dict, isT_str_int, isT_str_str, isT_str_bool, isT_str_list, isT_str_tuple, isT_str_dict, isT_list_int, isT_list_str, isT_list_bool, isT_list_list, isT_list_tuple, isT_list_dict, isT_tuple_int, isT_tuple_str, isT_tuple_bool, isT_tuple_list, isT_tuple_tuple, isT_tuple_dict, isT_dict_int, isT_dict_str, isT_dict_bool, isT_dict_list, isT_dict_tuple, isT_dict_dict, cxB_K, WF, WE, List.getElem?_cons_zero, List.getElem?_cons_succ, Option.some.injEq, exists_eq_left', exists_eq_left, V.ref.injEq, V.int.injEq, V.str.injEq, V.bl.injEq, HO.ins.injEq, List.cons.injEq, and_true, true_and, exists_and_left, and_assoc, reduceCtorEq, false_and, and_false, exists_false, or_false, false_or, if_true, if_false, Bool.false_eq_true, Bool.not_true, Bool.not_false, ite_true, ite_false, List.mem_singleton, forall_eq, L2.start, List.map_cons, List.map_nil, List.length_cons, List.length_nil, List.replicate, List.cons_append, List.nil_append, Nat.sub_self, Nat.reduceAdd, Nat.reduceSub, List.set_cons_zero, List.set_cons_succ, L2.wipe, tYes, gCons, gNil, tCont, tAndF, tOrF, false_implies, L2.tSl, tNoPart, tPart, tBM, tyVs, Int.reduceLT, Int.reduceLE, CDiv, qSlS, tAug, qIpI, Int.zero_add, decide_true, decide_false, sz1, sz2, sz3, sz0, sz4, sz5, sz6, sz7, sz8, sz9, sz10, sz11, sz12, kV_s, kV_i, Nat.reduceLT, Nat.reduceLeDiff, true_implies, Option.isSome_some, Option.isSome_none, String.reduceBEq, Bool.or_false, Bool.or_true, Bool.false_or, Bool.true_or, Bool.and_true, Bool.and_false, Bool.true_and, Bool.false_and, cxX_K, T.k_NoTask.val, T.k_NoTask.at 0 (y := "PassError") (b := true) rfl, T.k_NoTask.at 1 (y := "NoRights") (b := false) rfl, T.k_NoTask.at 2 (y := "NoName") (b := false) rfl, T.k_NoTask.at 3 (y := "NoValue") (b := false) rfl, T.k_NoTask.at 4 (y := "NoWords") (b := false) rfl, T.k_NoTask.at 5 (y := "NoKind") (b := false) rfl, T.k_NoTask.at 6 (y := "NoTask") (b := true) rfl, T.k_NoTask.at 7 (y := "NoHandle") (b := false) rfl, T.k_NoTask.at 8 (y := "NoThing") (b := false) rfl, T.k_NoTask.at 9 (y := "NoRow") (b := false) rfl, T.k_NoTask.at 10 (y := "NoDeed") (b := false) rfl, T.k_NoTask.at 11 (y := "Lacks") (b := false) rfl, T.k_NoTask.at 12 (y := "Taken") (b := false) rfl, T.k_NoTask.at 13 (y := "TooMany") (b := false) rfl, T.k_NoTask.at 14 (y := "TooGreat") (b := false) rfl, T.k_NoTask.at 15 (y := "Empty") (b := false) rfl, T.k_NoTask.at 16 (y := "Full") (b := false) rfl, qIsX]
      intro p1 hp1
      simp only [tSeq, tIfS, tTest, tOp, tVar, L2.tC, tCB, tCons, tNil, tRet, tAsg, gName, gSub, tNot, tOr, tAnd, tFld, tB, tTru, tLM, tCallS, tMethW, tMakeW, tDrop, tNext, tUn, tTup, tLst, sFld, tChain, tAndV, tOrV, tNotV, tIf, tDNewK,
 qAddI, qAddS, qAddL, qMulI, qMulL, qSubI, qI, qUI, qEqS, qNeS, scNI, scIN, scNS, scSN, scNB, scBN, scNN, scII, scSS, scBB, scIS, scSI, scBS, scSB, qInL, qInT, qNiL, qNiT, qInDs, qNiDs, qInDi, qNiDi, qIxL, qIxT, qIxDs, qIxDi, qIxS, qSetL, qSetDs, qSetDi, qLenS, qLenL, qLenT, qLenD, qIs, okInt, okStr, okBool, okList, okTup, okDict, tyNon, tyBl, tyInt, tyStr, qTN, qTB, qTI, qTS, qTL, qLtI, qLeI, qGtI, qGeI, qApp, qCnt, qIdx, flN, flI, flS, flB, qIsL,
 isT_NoneType_int, isT_NoneType_str, isT_NoneType_bool, isT_NoneType_list, isT_NoneType_tuple, isT_NoneType_dict, isT_bool_int, isT_bool_str, isT_bool_bool, isT_bool_list, isT_bool_tuple, isT_bool_dict, isT_int_int, isT_int_str, isT_int_bool, isT_int_list, isT_int_tuple, isT_int_dict, isT_str_int, isT_str_str, isT_str_bool, isT_str_list, isT_str_tuple, isT_str_dict, isT_list_int, isT_list_str, isT_list_bool, isT_list_list, isT_list_tuple, isT_list_dict, isT_tuple_int, isT_tuple_str, isT_tuple_bool, isT_tuple_list, isT_tuple_tuple, isT_tuple_dict, isT_dict_int, isT_dict_str, isT_dict_bool, isT_dict_list, isT_dict_tuple, isT_dict_dict, cxB_K, WF, WE, List.getElem?_cons_zero, List.getElem?_cons_succ, Option.some.injEq, exists_eq_left', exists_eq_left, V.ref.injEq, V.int.injEq, V.str.injEq, V.bl.injEq, HO.ins.injEq, List.cons.injEq, and_true, true_and, exists_and_left, and_assoc, reduceCtorEq, false_and, and_false, exists_false, or_false, false_or, if_true, if_false, Bool.false_eq_true, Bool.not_true, Bool.not_false, ite_true, ite_false, List.mem_singleton, forall_eq, L2.start, List.map_cons, List.map_nil, List.length_cons, List.length_nil, List.replicate, List.cons_append, List.nil_append, Nat.sub_self, Nat.reduceAdd, Nat.reduceSub, List.set_cons_zero, List.set_cons_succ, L2.wipe, tYes, gCons, gNil, tCont, tAndF, tOrF, false_implies, L2.tSl, tNoPart, tPart, tBM, tyVs, Int.reduceLT, Int.reduceLE, CDiv, qSlS, tAug, qIpI, Int.zero_add, decide_true, decide_false, sz1, sz2, sz3, sz0, sz4, sz5, sz6, sz7, sz8, sz9, sz10, sz11, sz12, kV_s, kV_i, Nat.reduceLT, Nat.reduceLeDiff, true_implies, Option.isSome_some, Option.isSome_none, String.reduceBEq, Bool.or_false, Bool.or_true, Bool.false_or, Bool.true_or, Bool.and_true, Bool.and_false, Bool.true_and, Bool.false_and, isLst, upd_same, qApp upd_same]
      refine ⟨by rw [sizeLine_eq]; decide, ?_⟩
      intro p2 hp2
      obtain ⟨n21, hp2'⟩ := fresh hp2
      simp only [tSeq, tIfS, tTest, tOp, tVar, L2.tC, tCB, tCons, tNil, tRet, tAsg, gName, gSub, tNot, tOr, tAnd, tFld, tB, tTru, tLM, tCallS, tMethW, tMakeW, tDrop, tNext, tUn, tTup, tLst, sFld, tChain, tAndV, tOrV, tNotV, tIf, tDNewK,
 qAddI, qAddS, qAddL, qMulI, qMulL, qSubI, qI, qUI, qEqS, qNeS, scNI, scIN, scNS, scSN, scNB, scBN, scNN, scII, scSS, scBB, scIS, scSI, scBS, scSB, qInL, qInT, qNiL, qNiT, qInDs, qNiDs, qInDi, qNiDi, qIxL, qIxT, qIxDs, qIxDi, qIxS, qSetL, qSetDs, qSetDi, qLenS, qLenL, qLenT, qLenD, qIs, okInt, okStr, okBool, okList, okTup, okDict, tyNon, tyBl, tyInt, tyStr, qTN, qTB, qTI, qTS, qTL, qLtI, qLeI, qGtI, qGeI, qApp, qCnt, qIdx, flN, flI, flS, flB, qIsL,
 isT_NoneType_int, isT_NoneType_str, isT_NoneType_bool, isT_NoneType_list, isT_NoneType_tuple, isT_NoneType_dict, isT_bool_int, isT_bool_str, isT_bool_bool, isT_bool_list, isT_bool_tuple, isT_bool_dict, isT_int_int, isT_int_str, isT_int_bool, isT_int_list, isT_int_tuple, isT_int_dict, isT_str_int, isT_str_str, isT_str_bool, isT_str_list, isT_str_tuple, isT_str_dict, isT_list_int, isT_list_str, isT_list_bool, isT_list_list, isT_list_tuple, isT_list_dict, isT_tuple_int, isT_tuple_str, isT_tuple_bool, isT_tuple_list, isT_tuple_tuple, isT_tuple_dict, isT_dict_int, isT_dict_str, isT_dict_bool, isT_dict_list, isT_dict_tuple, isT_dict_dict, cxB_K, WF, WE, List.getElem?_cons_zero, List.getElem?_cons_succ, Option.some.injEq, exists_eq_left', exists_eq_left, V.ref.injEq, V.int.injEq, V.str.injEq, V.bl.injEq, HO.ins.injEq, List.cons.injEq, and_true, true_and, exists_and_left, and_assoc, reduceCtorEq, false_and, and_false, exists_false, or_false, false_or, if_true, if_false, Bool.false_eq_true, Bool.not_true, Bool.not_false, ite_true, ite_false, List.mem_singleton, forall_eq, L2.start, List.map_cons, List.map_nil, List.length_cons, List.length_nil, List.replicate, List.cons_append, List.nil_append, Nat.sub_self, Nat.reduceAdd, Nat.reduceSub, List.set_cons_zero, List.set_cons_succ, L2.wipe, tYes, gCons, gNil, tCont, tAndF, tOrF, false_implies, L2.tSl, tNoPart, tPart, tBM, tyVs, Int.reduceLT, Int.reduceLE, CDiv, qSlS, tAug, qIpI, Int.zero_add, decide_true, decide_false, sz1, sz2, sz3, sz0, sz4, sz5, sz6, sz7, sz8, sz9, sz10, sz11, sz12, kV_s, kV_i, Nat.reduceLT, Nat.reduceLeDiff, true_implies, Option.isSome_some, Option.isSome_none, String.reduceBEq, Bool.or_false, Bool.or_true, Bool.false_or, Bool.true_or, Bool.and_true, Bool.and_false, Bool.true_and, Bool.false_and, qIsXt upd_same, kitVs_cons, kitVs_nil, T.k_NoTask.val, T.k_NoTask.at 0 (y := "PassError") (b := true) rfl, T.k_NoTask.at 1 (y := "NoRights") (b := false) rfl, T.k_NoTask.at 2 (y := "NoName") (b := false) rfl, T.k_NoTask.at 3 (y := "NoValue") (b := false) rfl, T.k_NoTask.at 4 (y := "NoWords") (b := false) rfl, T.k_NoTask.at 5 (y := "NoKind") (b := false) rfl, T.k_NoTask.at 6 (y := "NoTask") (b := true) rfl, T.k_NoTask.at 7 (y := "NoHandle") (b := false) rfl, T.k_NoTask.at 8 (y := "NoThing") (b := false) rfl, T.k_NoTask.at 9 (y := "NoRow") (b := false) rfl, T.k_NoTask.at 10 (y := "NoDeed") (b := false) rfl, T.k_NoTask.at 11 (y := "Lacks") (b := false) rfl, T.k_NoTask.at 12 (y := "Taken") (b := false) rfl, T.k_NoTask.at 13 (y := "TooMany") (b := false) rfl, T.k_NoTask.at 14 (y := "TooGreat") (b := false) rfl, T.k_NoTask.at 15 (y := "Empty") (b := false) rfl, T.k_NoTask.at 16 (y := "Full") (b := false) rfl]
      intro p3 hp3
      obtain ⟨n32, hp3'⟩ := fresh hp3
      obtain ⟨n31, hp3''⟩ := fresh hp3'
      simp only [tSeq, tIfS, tTest, tOp, tVar, L2.tC, tCB, tCons, tNil, tRet, tAsg, gName, gSub, tNot, tOr, tAnd, tFld, tB, tTru, tLM, tCallS, tMethW, tMakeW, tDrop, tNext, tUn, tTup, tLst, sFld, tChain, tAndV, tOrV, tNotV, tIf, tDNewK,
 qAddI, qAddS, qAddL, qMulI, qMulL, qSubI, qI, qUI, qEqS, qNeS, scNI, scIN, scNS, scSN, scNB, scBN, scNN, scII, scSS, scBB, scIS, scSI, scBS, scSB, qInL, qInT, qNiL, qNiT, qInDs, qNiDs, qInDi, qNiDi, qIxL, qIxT, qIxDs, qIxDi, qIxS, qSetL, qSetDs, qSetDi, qLenS, qLenL, qLenT, qLenD, qIs, okInt, okStr, okBool, okList, okTup, okDict, tyNon, tyBl, tyInt, tyStr, qTN, qTB, qTI, qTS, qTL, qLtI, qLeI, qGtI, qGeI, qApp, qCnt, qIdx, flN, flI, flS, flB, qIsL,
 isT_NoneType_int, isT_NoneType_str, isT_NoneType_bool, isT_NoneType_list, isT_NoneType_tuple, isT_NoneType_dict, isT_bool_int, isT_bool_str, isT_bool_bool, isT_bool_list, isT_bool_tuple, isT_bool_dict, isT_int_int, isT_int_str, isT_int_bool, isT_int_list, isT_int_tuple, isT_int_dict, isT_str_int, isT_str_str, isT_str_bool, isT_str_list, isT_str_tuple, isT_str_dict, isT_list_int, isT_list_str, isT_list_bool, isT_list_list, isT_list_tuple, isT_list_dict, isT_tuple_int, isT_tuple_str, isT_tuple_bool, isT_tuple_list, isT_tuple_tuple, isT_tuple_dict, isT_dict_int, isT_dict_str, isT_dict_bool, isT_dict_list, isT_dict_tuple, isT_dict_dict, cxB_K, WF, WE, List.getElem?_cons_zero, List.getElem?_cons_succ, Option.some.injEq, exists_eq_left', exists_eq_left, V.ref.injEq, V.int.injEq, V.str.injEq, V.bl.injEq, HO.ins.injEq, List.cons.injEq, and_true, true_and, exists_and_left, and_assoc, reduceCtorEq, false_and, and_false, exists_false, or_false, false_or, if_true, if_false, Bool.false_eq_true, Bool.not_true, Bool.not_false, ite_true, ite_false, List.mem_singleton, forall_eq, L2.start, List.map_cons, List.map_nil, List.length_cons, List.length_nil, List.replicate, List.cons_append, List.nil_append, Nat.sub_self, Nat.reduceAdd, Nat.reduceSub, List.set_cons_zero, List.set_cons_succ, L2.wipe, tYes, gCons, gNil, tCont, tAndF, tOrF, false_implies, L2.tSl, tNoPart, tPart, tBM, tyVs, Int.reduceLT, Int.reduceLE, CDiv, qSlS, tAug, qIpI, Int.zero_add, decide_true, decide_false, sz1, sz2, sz3, sz0, sz4, sz5, sz6, sz7, sz8, sz9, sz10, sz11, sz12, kV_s, kV_i, Nat.reduceLT, Nat.reduceLeDiff, true_implies, Option.isSome_some, Option.isSome_none, String.reduceBEq, Bool.or_false, Bool.or_true, Bool.false_or, Bool.true_or, Bool.and_true, Bool.and_false, Bool.true_and, Bool.false_and, qIsXt upd_same, kitVs_cons, kitVs_nil, T.k_NoTask.val, T.k_NoTask.at 0 (y := "PassError") (b := true) rfl, T.k_NoTask.at 1 (y := "NoRights") (b := false) rfl, T.k_NoTask.at 2 (y := "NoName") (b := false) rfl, T.k_NoTask.at 3 (y := "NoValue") (b := false) rfl, T.k_NoTask.at 4 (y := "NoWords") (b := false) rfl, T.k_NoTask.at 5 (y := "NoKind") (b := false) rfl, T.k_NoTask.at 6 (y := "NoTask") (b := true) rfl, T.k_NoTask.at 7 (y := "NoHandle") (b := false) rfl, T.k_NoTask.at 8 (y := "NoThing") (b := false) rfl, T.k_NoTask.at 9 (y := "NoRow") (b := false) rfl, T.k_NoTask.at 10 (y := "NoDeed") (b := false) rfl, T.k_NoTask.at 11 (y := "Lacks") (b := false) rfl, T.k_NoTask.at 12 (y := "Taken") (b := false) rfl, T.k_NoTask.at 13 (y := "TooMany") (b := false) rfl, T.k_NoTask.at 14 (y := "TooGreat") (b := false) rfl, T.k_NoTask.at 15 (y := "Empty") (b := false) rfl, T.k_NoTask.at 16 (y := "Full") (b := false) rfl, upd_ne n31.symm, upd_ne n21.symm, upd_same]
      generalize hH : upd (upd (upd (upd H p1 _) p1 _) p2 _) p3 _ = H3
      have e1 : H3 p1 = some (.lst [.bl false, .bl false, .bl true, .bl false, .bl false]) := by rw [← hH, upd_ne n31.symm, upd_ne n21.symm, upd_same]
      have sm : Same H H3 := by
        intro b o e
        have m1 := ne_of_none e hp1
        have m2 : b ≠ p2 := ne_of_none e (fresh (fresh hp2).2).2
        have m3 : b ≠ p3 := ne_of_none e (fresh (fresh (fresh hp3).2).2).2
        rw [← hH, upd_ne m3, upd_ne m2, upd_ne m1, upd_ne m1]; exact e
      have ea : ([.bl false, .bl false, .bl true, .bl false, .bl false] : List V).all flatV = true := rfl
      have ec : ([.bl false, .bl false, .bl true, .bl false, .bl false] : List V).countP (fun z => eqV z (.bl true)) = 1 := rfl
      have ei : ([.bl false, .bl false, .bl true, .bl false, .bl false] : List V).findIdx? (fun z => eqV z (.bl true)) = some 2 := rfl
      simp only [tSeq, tIfS, tTest, tOp, tVar, L2.tC, tCB, tCons, tNil, tRet, tAsg, gName, gSub, tNot, tOr, tAnd, tFld, tB, tTru, tLM, tCallS, tMethW, tMakeW, tDrop, tNext, tUn, tTup, tLst, sFld, tChain, tAndV, tOrV, tNotV, tIf, tDNewK,
 qAddI, qAddS, qAddL, qMulI, qMulL, qSubI, qI, qUI, qEqS, qNeS, scNI, scIN, scNS, scSN, scNB, scBN, scNN, scII, scSS, scBB, scIS, scSI, scBS, scSB, qInL, qInT, qNiL, qNiT, qInDs, qNiDs, qInDi, qNiDi, qIxL, qIxT, qIxDs, qIxDi, qIxS, qSetL, qSetDs, qSetDi, qLenS, qLenL, qLenT, qLenD, qIs, okInt, okStr, okBool, okList, okTup, okDict, tyNon, tyBl, tyInt, tyStr, qTN, qTB, qTI, qTS, qTL, qLtI, qLeI, qGtI, qGeI, qApp, qCnt, qIdx, flN, flI, flS, flB, qIsL,
 isT_NoneType_int, isT_NoneType_str, isT_NoneType_bool, isT_NoneType_list, isT_NoneType_tuple, isT_NoneType_dict, isT_bool_int, isT_bool_str, isT_bool_bool, isT_bool_list, isT_bool_tuple, isT_bool_dict, isT_int_int, isT_int_str, isT_int_bool, isT_int_list, isT_int_tuple, isT_int_dict, isT_str_int, isT_str_str, isT_str_bool, isT_str_list, isT_str_tuple, isT_str_dict, isT_list_int, isT_list_str, isT_list_bool, isT_list_list, isT_list_tuple, isT_list_dict, isT_tuple_int, isT_tuple_str, isT_tuple_bool, isT_tuple_list, isT_tuple_tuple, isT_tuple_dict, isT_dict_int, isT_dict_str, isT_dict_bool, isT_dict_list, isT_dict_tuple, isT_dict_dict, cxB_K, WF, WE, List.getElem?_cons_zero, List.getElem?_cons_succ, Option.some.injEq, exists_eq_left', exists_eq_left, V.ref.injEq, V.int.injEq, V.str.injEq, V.bl.injEq, HO.ins.injEq, List.cons.injEq, and_true, true_and, exists_and_left, and_assoc, reduceCtorEq, false_and, and_false, exists_false, or_false, false_or, if_true, if_false, Bool.false_eq_true, Bool.not_true, Bool.not_false, ite_true, ite_false, List.mem_singleton, forall_eq, L2.start, List.map_cons, List.map_nil, List.length_cons, List.length_nil, List.replicate, List.cons_append, List.nil_append, Nat.sub_self, Nat.reduceAdd, Nat.reduceSub, List.set_cons_zero, List.set_cons_succ, L2.wipe, tYes, gCons, gNil, tCont, tAndF, tOrF, false_implies, L2.tSl, tNoPart, tPart, tBM, tyVs, Int.reduceLT, Int.reduceLE, CDiv, qSlS, tAug, qIpI, Int.zero_add, decide_true, decide_false, sz1, sz2, sz3, sz0, sz4, sz5, sz6, sz7, sz8, sz9, sz10, sz11, sz12, kV_s, kV_i, Nat.reduceLT, Nat.reduceLeDiff, true_implies, Option.isSome_some, Option.isSome_none, String.reduceBEq, Bool.or_false, Bool.or_true, Bool.false_or, Bool.true_or, Bool.and_true, Bool.and_false, Bool.true_and, Bool.false_and, qCnt e1 flB ea, ec]
      intro p4 hp4
      have n41 : p1 ≠ p4 := ne_of_none e1 hp4
      have e2 : (upd H3 p4 (.lst [.str "NoName", .str "Taken", .str "NoTask", .str "TooMany", .str "NoHandle"])) p1 = some (.lst [.bl false, .bl false, .bl true, .bl false, .bl false]) := by rw [upd_ne n41]; exact e1
      simp only [tSeq, tIfS, tTest, tOp, tVar, L2.tC, tCB, tCons, tNil, tRet, tAsg, gName, gSub, tNot, tOr, tAnd, tFld, tB, tTru, tLM, tCallS, tMethW, tMakeW, tDrop, tNext, tUn, tTup, tLst, sFld, tChain, tAndV, tOrV, tNotV, tIf, tDNewK,
 qAddI, qAddS, qAddL, qMulI, qMulL, qSubI, qI, qUI, qEqS, qNeS, scNI, scIN, scNS, scSN, scNB, scBN, scNN, scII, scSS, scBB, scIS, scSI, scBS, scSB, qInL, qInT, qNiL, qNiT, qInDs, qNiDs, qInDi, qNiDi, qIxL, qIxT, qIxDs, qIxDi, qIxS, qSetL, qSetDs, qSetDi, qLenS, qLenL, qLenT, qLenD, qIs, okInt, okStr, okBool, okList, okTup, okDict, tyNon, tyBl, tyInt, tyStr, qTN, qTB, qTI, qTS, qTL, qLtI, qLeI, qGtI, qGeI, qApp, qCnt, qIdx, flN, flI, flS, flB, qIsL,
 isT_NoneType_int, isT_NoneType_str, isT_NoneType_bool, isT_NoneType_list, isT_NoneType_tuple, isT_NoneType_dict, isT_bool_int, isT_bool_str, isT_bool_bool, isT_bool_list, isT_bool_tuple, isT_bool_dict, isT_int_int, isT_int_str, isT_int_bool, isT_int_list, isT_int_tuple, isT_int_dict, isT_str_int, isT_str_str, isT_str_bool, isT_str_list, isT_str_tuple, isT_str_dict, isT_list_int, isT_list_str, isT_list_bool, isT_list_list, isT_list_tuple, isT_list_dict, isT_tuple_int, isT_tuple_str, isT_tuple_bool, isT_tuple_list, isT_tuple_tuple, isT_tuple_dict, isT_dict_int, isT_dict_str, isT_dict_bool, isT_dict_list, isT_dict_tuple, isT_dict_dict, cxB_K, WF, WE, List.getElem?_cons_zero, List.getElem?_cons_succ, Option.some.injEq, exists_eq_left', exists_eq_left, V.ref.injEq, V.int.injEq, V.str.injEq, V.bl.injEq, HO.ins.injEq, List.cons.injEq, and_true, true_and, exists_and_left, and_assoc, reduceCtorEq, false_and, and_false, exists_false, or_false, false_or, if_true, if_false, Bool.false_eq_true, Bool.not_true, Bool.not_false, ite_true, ite_false, List.mem_singleton, forall_eq, L2.start, List.map_cons, List.map_nil, List.length_cons, List.length_nil, List.replicate, List.cons_append, List.nil_append, Nat.sub_self, Nat.reduceAdd, Nat.reduceSub, List.set_cons_zero, List.set_cons_succ, L2.wipe, tYes, gCons, gNil, tCont, tAndF, tOrF, false_implies, L2.tSl, tNoPart, tPart, tBM, tyVs, Int.reduceLT, Int.reduceLE, CDiv, qSlS, tAug, qIpI, Int.zero_add, decide_true, decide_false, sz1, sz2, sz3, sz0, sz4, sz5, sz6, sz7, sz8, sz9, sz10, sz11, sz12, kV_s, kV_i, Nat.reduceLT, Nat.reduceLeDiff, true_implies, Option.isSome_some, Option.isSome_none, String.reduceBEq, Bool.or_false, Bool.or_true, Bool.false_or, Bool.true_or, Bool.and_true, Bool.and_false, Bool.true_and, Bool.false_and, isLst, e2, rIdxF, flB, ea, ei, qIxL upd_same]
      exact ⟨_, rfl, hq _ (sm.trans (same_upd hp4))⟩
    · have hX := T.x_TooMany.isi
      refine ⟨_, (pss_cons (ps_set (i := 1) sc__law_word.nd rfl (by first | exact Or.inl rfl | exact Or.inr rfl) (pe_lst (pa_cons (pe_callB (call_isX he hX) (by rfl) T.n_isinstance (by decide +kernel) (pa_cons (pv 0) (pa_cons (pe_glob (v := .ref (ga K "NoName")) rfl T.g_NoName rfl) pa_nil))) (pa_cons (pe_callB (call_isX he hX) (by rfl) T.n_isinstance (by decide +kernel) (pa_cons (pv 0) (pa_cons (pe_glob (v := .ref (ga K "Taken")) rfl T.g_Taken rfl) pa_nil))) (pa_cons (pe_callB (call_isX he hX) (by rfl) T.n_isinstance (by decide +kernel) (pa_cons (pv 0) (pa_cons (pe_glob (v := .ref (ga K "NoTask")) rfl T.g_NoTask rfl) pa_nil))) (pa_cons (pe_callB (call_isX he hX) (by rfl) T.n_isinstance (by decide +kernel) (pa_cons (pv 0) (pa_cons (pe_glob (v := .ref (ga K "TooMany")) rfl T.g_TooMany rfl) pa_nil))) pa_nil))))))
    (pss_cons (ps_expr (pe_lm PySem.F.slot_list_append PySem.F.type_list_append mt_appF (pv 1) (pa_cons (pe_callB (call_isX he hX) (by rfl) T.n_isinstance (by decide +kernel) (pa_cons (pv 0) (pa_cons (pe_glob (v := .ref (ga K "NoHandle")) rfl T.g_NoHandle rfl) pa_nil))) pa_nil)))
    (pss_cons (ps_if (PW.pt (pw_or (pt_truF (pe_callB (call_isXt he hX) (by rfl) T.n_isinstance (by decide +kernel) (pa_cons (pv 0) (pa_cons (pe_tup (pa_cons (pe_glob (v := .ref (ga K "NoRights")) rfl T.g_NoRights rfl) (pa_cons (pe_glob (v := .ref (ga K "NoValue")) rfl T.g_NoValue rfl) (pa_cons (pe_glob (v := .ref (ga K "NoWords")) rfl T.g_NoWords rfl) (pa_cons (pe_glob (v := .ref (ga K "NoKind")) rfl T.g_NoKind rfl) (pa_cons (pe_glob (v := .ref (ga K "NoThing")) rfl T.g_NoThing rfl) (pa_cons (pe_glob (v := .ref (ga K "NoRow")) rfl T.g_NoRow rfl) pa_nil))))))) pa_nil))) (by intro _; rfl)) (pw_or1 (pt_not (pt_truF (pe_callB (call_isX he hX) (by rfl) T.n_isinstance (by decide +kernel) (pa_cons (pv 0) (pa_cons (pe_bltn (v := .ty "ValueError") rfl T.n_ValueError (by decide +kernel) rfl) pa_nil))) (by intro _; rfl)))))) (pss_one (ps_ret pe_str)) pss_nil)
    (pss_cons (ps_if (PW.pt (pw_or (pt_truF (pe_callB (call_isXt he hX) (by rfl) T.n_isinstance (by decide +kernel) (pa_cons (pv 0) (pa_cons (pe_tup (pa_cons (pe_glob (v := .ref (ga K "TooGreat")) rfl T.g_TooGreat rfl) (pa_cons (pe_glob (v := .ref (ga K "Empty")) rfl T.g_Empty rfl) (pa_cons (pe_glob (v := .ref (ga K "Full")) rfl T.g_Full rfl) (pa_cons (pe_glob (v := .ref (ga K "NoDeed")) rfl T.g_NoDeed rfl) (pa_cons (pe_glob (v := .ref (ga K "Lacks")) rfl T.g_Lacks rfl) pa_nil)))))) pa_nil))) (by intro _; rfl)) (pw_or1 (pt_cmpR (op_neFB (K := K) rfl hu) (pe_lm PySem.F.slot_list_count PySem.F.type_list_count mt_cntF (pv 1) (pa_cons pe_bl pa_nil)) pe_int (nomark _))))) (pss_one (ps_ret pe_str)) pss_nil)
    (pss_one (ps_ret (pe_ix (ix_F hu) (pe_lst (pa_cons pe_str (pa_cons pe_str (pa_cons pe_str (pa_cons pe_str (pa_cons pe_str pa_nil)))))) (pe_lm PySem.F.slot_list_index PySem.F.type_list_index mt_idxF (pv 1) (pa_cons pe_bl pa_nil)) (fun _ _ => rfl)))))))), ?_⟩
      simp only [tSeq, tIfS, tTest, tOp, tVar, L2.tC, tCB, tCons, tNil, tRet, tAsg, gName, gSub, tNot, tOr, tAnd, tFld, tB, tTru, tLM, tCallS, tMethW, tMakeW, tDrop, tNext, tUn, tTup, tLst, sFld, tChain, tAndV, tOrV, tNotV, tIf, tDNewK,
 qAddI, qAddS, qAddL, qMulI, qMulL, qSubI, qI, qUI, qEqS, qNeS, scNI, scIN, scNS, scSN, scNB, scBN, scNN, scII, scSS, scBB, scIS, scSI, scBS, scSB, qInL, qInT, qNiL, qNiT, qInDs, qNiDs, qInDi, qNiDi, qIxL, qIxT, qIxDs, qIxDi, qIxS, qSetL, qSetDs, qSetDi, qLenS, qLenL, qLenT, qLenD, qIs, okInt, okStr, okBool, okList, okTup, okDict, tyNon, tyBl, tyInt, tyStr, qTN, qTB, qTI, qTS, qTL, qLtI, qLeI, qGtI, qGeI, qApp, qCnt, qIdx, flN, flI, flS, flB, qIsL,
 isT_NoneType_int, isT_NoneType_str, isT_NoneType_bool, isT_NoneType_list, isT_NoneType_tuple, isT_NoneType_dict, isT_bool_int, isT_bool_str, isT_bool_bool, isT_bool_list, isT_bool_tuple, isT_bool_dict, isT_int_int, isT_int_str, isT_int_bool, isT_int_list, isT_int_tuple, isT_int_dict, isT_str_int, isT_str_str, isT_str_bool, isT_str_list, isT_str_tuple, isT_str_dict, isT_list_int, isT_list_str, isT_list_bool, isT_list_list, isT_list_tuple, isT_list_dict, isT_tuple_int, isT_tuple_str, isT_tuple_bool, isT_tuple_list, isT_tuple_tuple, isT_tuple_dict, isT_dict_int, isT_dict_str, isT_dict_bool, isT_dict_list, isT_dict_tuple, isT_dict_dict, cxB_K, WF, WE, List.getElem?_cons_zero, List.getElem?_cons_succ, Option.some.injEq, exists_eq_left', exists_eq_left, V.ref.injEq, V.int.injEq, V.str.injEq, V.bl.injEq, HO.ins.injEq, List.cons.injEq, and_true, true_and, exists_and_left, and_assoc, reduceCtorEq, false_and, and_false, exists_false, or_false, false_or, if_true, if_false, Bool.false_eq_true, Bool.not_true, Bool.not_false, ite_true, ite_false, List.mem_singleton, forall_eq, L2.start, List.map_cons, List.map_nil, List.length_cons, List.length_nil, List.replicate, List.cons_append, List.nil_append, Nat.sub_self, Nat.reduceAdd, Nat.reduceSub, List.set_cons_zero, List.set_cons_succ, L2.wipe, tYes, gCons, gNil, tCont, tAndF, tOrF, false_implies, L2.tSl, tNoPart, tPart, tBM, tyVs, Int.reduceLT, Int.reduceLE, CDiv, qSlS, tAug, qIpI, Int.zero_add, decide_true, decide_false, sz1, sz2, sz3, sz0, sz4, sz5, sz6, sz7, sz8, sz9, sz10, sz11, sz12, kV_s, kV_i, Nat.reduceLT, Nat.reduceLeDiff, true_implies, Option.isSome_some, Option.isSome_none, String.reduceBEq, Bool.or_false, Bool.or_true, Bool.false_or, Bool.true_or, Bool.and_true, Bool.and_false, Bool.true_and, Bool.false_and, cxX_K, T.k_TooMany.val, T.k_TooMany.at 0 (y := "PassError") (b := true) rfl, T.k_TooMany.at 1 (y := "NoRights") (b := false) rfl, T.k_TooMany.at 2 (y := "NoName") (b := false) rfl, T.k_TooMany.at 3 (y := "NoValue") (b := false) rfl, T.k_TooMany.at 4 (y := "NoWords") (b := false) rfl, T.k_TooMany.at 5 (y := "NoKind") (b := false) rfl, T.k_TooMany.at 6 (y := "NoTask") (b := false) rfl, T.k_TooMany.at 7 (y := "NoHandle") (b := false) rfl, T.k_TooMany.at 8 (y := "NoThing") (b := false) rfl, T.k_TooMany.at 9 (y := "NoRow") (b := false) rfl, T.k_TooMany.at 10 (y := "NoDeed") (b := false) rfl, T.k_TooMany.at 11 (y := "Lacks") (b := false) rfl, T.k_TooMany.at 12 (y := "Taken") (b := false) rfl, T.k_TooMany.at 13 (y := "TooMany") (b := true) rfl, T.k_TooMany.at 14 (y := "TooGreat") (b := false) rfl, T.k_TooMany.at 15 (y := "Empty") (b := false) rfl, T.k_TooMany.at 16 (y := "Full") (b := false) rfl, qIsX]
      intro p1 hp1
      simp only [tSeq, tIfS, tTest, tOp, tVar, L2.tC, tCB, tCons, tNil, tRet, tAsg, gName, gSub, tNot, tOr, tAnd, tFld, tB, tTru, tLM, tCallS, tMethW, tMakeW, tDrop, tNext, tUn, tTup, tLst, sFld, tChain, tAndV, tOrV, tNotV, tIf, tDNewK,
 qAddI, qAddS, qAddL, qMulI, qMulL, qSubI, qI, qUI, qEqS, qNeS, scNI, scIN, scNS, scSN, scNB, scBN, scNN, scII, scSS, scBB, scIS, scSI, scBS, scSB, qInL, qInT, qNiL, qNiT, qInDs, qNiDs, qInDi, qNiDi, qIxL, qIxT, qIxDs, qIxDi, qIxS, qSetL, qSetDs, qSetDi, qLenS, qLenL, qLenT, qLenD, qIs, okInt, okStr, okBool, okList, okTup, okDict, tyNon, tyBl, tyInt, tyStr, qTN, qTB, qTI, qTS, qTL, qLtI, qLeI, qGtI, qGeI, qApp, qCnt, qIdx, flN, flI, flS, flB, qIsL,
 isT_NoneType_int, isT_NoneType_str, isT_NoneType_bool, isT_NoneType_list, isT_NoneType_tuple, isT_NoneType_dict, isT_bool_int, isT_bool_str, isT_bool_bool, isT_bool_list, isT_bool_tuple, isT_bool_dict, isT_int_int, isT_int_str, isT_int_bool, isT_int_list, isT_int_tuple, isT_int_dict, isT_str_int, isT_str_str, isT_str_bool, isT_str_list, isT_str_tuple, isT_str_dict, isT_list_int, isT_list_str, isT_list_bool, isT_list_list, isT_list_tuple, isT_list_dict, isT_tuple_int, isT_tuple_str, isT_tuple_bool, isT_tuple_list, isT_tuple_tuple, isT_tuple_dict, isT_dict_int, isT_dict_str, isT_dict_bool, isT_dict_list, isT_dict_tuple, isT_dict_dict, cxB_K, WF, WE, List.getElem?_cons_zero, List.getElem?_cons_succ, Option.some.injEq, exists_eq_left', exists_eq_left, V.ref.injEq, V.int.injEq, V.str.injEq, V.bl.injEq, HO.ins.injEq, List.cons.injEq, and_true, true_and, exists_and_left, and_assoc, reduceCtorEq, false_and, and_false, exists_false, or_false, false_or, if_true, if_false, Bool.false_eq_true, Bool.not_true, Bool.not_false, ite_true, ite_false, List.mem_singleton, forall_eq, L2.start, List.map_cons, List.map_nil, List.length_cons, List.length_nil, List.replicate, List.cons_append, List.nil_append, Nat.sub_self, Nat.reduceAdd, Nat.reduceSub, List.set_cons_zero, List.set_cons_succ, L2.wipe, tYes, gCons, gNil, tCont, tAndF, tOrF, false_implies, L2.tSl, tNoPart, tPart, tBM, tyVs, Int.reduceLT, Int.reduceLE, CDiv, qSlS, tAug, qIpI, Int.zero_add, decide_true, decide_false, sz1, sz2, sz3, sz0, sz4, sz5, sz6, sz7, sz8, sz9, sz10, sz11, sz12, kV_s, kV_i, Nat.reduceLT, Nat.reduceLeDiff, true_implies, Option.isSome_some, Option.isSome_none, String.reduceBEq, Bool.or_false, Bool.or_true, Bool.false_or, Bool.true_or, Bool.and_true, Bool.and_false, Bool.true_and, Bool.false_and, isLst, upd_same, qApp upd_same]
      refine ⟨by rw [sizeLine_eq]; decide, ?_⟩
      intro p2 hp2
      obtain ⟨n21, hp2'⟩ := fresh hp2
      simp only [tSeq, tIfS, tTest, tOp, tVar, L2.tC, tCB, tCons, tNil, tRet, tAsg, gName, gSub, tNot, tOr, tAnd, tFld, tB, tTru, tLM, tCallS, tMethW, tMakeW, tDrop, tNext, tUn, tTup, tLst, sFld, tChain, tAndV, tOrV, tNotV, tIf, tDNewK,
 qAddI, qAddS, qAddL, qMulI, qMulL, qSubI, qI, qUI, qEqS, qNeS, scNI, scIN, scNS, scSN, scNB, scBN, scNN, scII, scSS, scBB, scIS, scSI, scBS, scSB, qInL, qInT, qNiL, qNiT, qInDs, qNiDs, qInDi, qNiDi, qIxL, qIxT, qIxDs, qIxDi, qIxS, qSetL, qSetDs, qSetDi, qLenS, qLenL, qLenT, qLenD, qIs, okInt, okStr, okBool, okList, okTup, okDict, tyNon, tyBl, tyInt, tyStr, qTN, qTB, qTI, qTS, qTL, qLtI, qLeI, qGtI, qGeI, qApp, qCnt, qIdx, flN, flI, flS, flB, qIsL,
 isT_NoneType_int, isT_NoneType_str, isT_NoneType_bool, isT_NoneType_list, isT_NoneType_tuple, isT_NoneType_dict, isT_bool_int, isT_bool_str, isT_bool_bool, isT_bool_list, isT_bool_tuple, isT_bool_dict, isT_int_int, isT_int_str, isT_int_bool, isT_int_list, isT_int_tuple, isT_int_dict, isT_str_int, isT_str_str, isT_str_bool, isT_str_list, isT_str_tuple, isT_str_dict, isT_list_int, isT_list_str, isT_list_bool, isT_list_list, isT_list_tuple, isT_list_dict, isT_tuple_int, isT_tuple_str, isT_tuple_bool, isT_tuple_list, isT_tuple_tuple, isT_tuple_dict, isT_dict_int, isT_dict_str, isT_dict_bool, isT_dict_list, isT_dict_tuple, isT_dict_dict, cxB_K, WF, WE, List.getElem?_cons_zero, List.getElem?_cons_succ, Option.some.injEq, exists_eq_left', exists_eq_left, V.ref.injEq, V.int.injEq, V.str.injEq, V.bl.injEq, HO.ins.injEq, List.cons.injEq, and_true, true_and, exists_and_left, and_assoc, reduceCtorEq, false_and, and_false, exists_false, or_false, false_or, if_true, if_false, Bool.false_eq_true, Bool.not_true, Bool.not_false, ite_true, ite_false, List.mem_singleton, forall_eq, L2.start, List.map_cons, List.map_nil, List.length_cons, List.length_nil, List.replicate, List.cons_append, List.nil_append, Nat.sub_self, Nat.reduceAdd, Nat.reduceSub, List.set_cons_zero, List.set_cons_succ, L2.wipe, tYes, gCons, gNil, tCont, tAndF, tOrF, false_implies, L2.tSl, tNoPart, tPart, tBM, tyVs, Int.reduceLT, Int.reduceLE, CDiv, qSlS, tAug, qIpI, Int.zero_add, decide_true, decide_false, sz1, sz2, sz3, sz0, sz4, sz5, sz6, sz7, sz8, sz9, sz10, sz11, sz12, kV_s, kV_i, Nat.reduceLT, Nat.reduceLeDiff, true_implies, Option.isSome_some, Option.isSome_none, String.reduceBEq, Bool.or_false, Bool.or_true, Bool.false_or, Bool.true_or, Bool.and_true, Bool.and_false, Bool.true_and, Bool.false_and, qIsXt upd_same, kitVs_cons, kitVs_nil, T.k_TooMany.val, T.k_TooMany.at 0 (y := "PassError") (b := true) rfl, T.k_TooMany.at 1 (y := "NoRights") (b := false) rfl, T.k_TooMany.at 2 (y := "NoName") (b := false) rfl, T.k_TooMany.at 3 (y := "NoValue") (b := false) rfl, T.k_TooMany.at 4 (y := "NoWords") (b := false) rfl, T.k_TooMany.at 5 (y := "NoKind") (b := false) rfl, T.k_TooMany.at 6 (y := "NoTask") (b := false) rfl, T.k_TooMany.at 7 (y := "NoHandle") (b := false) rfl, T.k_TooMany.at 8 (y := "NoThing") (b := false) rfl, T.k_TooMany.at 9 (y := "NoRow") (b := false) rfl, T.k_TooMany.at 10 (y := "NoDeed") (b := false) rfl, T.k_TooMany.at 11 (y := "Lacks") (b := false) rfl, T.k_TooMany.at 12 (y := "Taken") (b := false) rfl, T.k_TooMany.at 13 (y := "TooMany") (b := true) rfl, T.k_TooMany.at 14 (y := "TooGreat") (b := false) rfl, T.k_TooMany.at 15 (y := "Empty") (b := false) rfl, T.k_TooMany.at 16 (y := "Full") (b := false) rfl]
      intro p3 hp3
      obtain ⟨n32, hp3'⟩ := fresh hp3
      obtain ⟨n31, hp3''⟩ := fresh hp3'
      simp only [tSeq, tIfS, tTest, tOp, tVar, L2.tC, tCB, tCons, tNil, tRet, tAsg, gName, gSub, tNot, tOr, tAnd, tFld, tB, tTru, tLM, tCallS, tMethW, tMakeW, tDrop, tNext, tUn, tTup, tLst, sFld, tChain, tAndV, tOrV, tNotV, tIf, tDNewK,
 qAddI, qAddS, qAddL, qMulI, qMulL, qSubI, qI, qUI, qEqS, qNeS, scNI, scIN, scNS, scSN, scNB, scBN, scNN, scII, scSS, scBB, scIS, scSI, scBS, scSB, qInL, qInT, qNiL, qNiT, qInDs, qNiDs, qInDi, qNiDi, qIxL, qIxT, qIxDs, qIxDi, qIxS, qSetL, qSetDs, qSetDi, qLenS, qLenL, qLenT, qLenD, qIs, okInt, okStr, okBool, okList, okTup, okDict, tyNon, tyBl, tyInt, tyStr, qTN, qTB, qTI, qTS, qTL, qLtI, qLeI, qGtI, qGeI, qApp, qCnt, qIdx, flN, flI, flS, flB, qIsL,
 isT_NoneType_int, isT_NoneType_str, isT_NoneType_bool, isT_NoneType_list, isT_NoneType_tuple, isT_NoneType_dict, isT_bool_int, isT_bool_str, isT_bool_bool, isT_bool_list, isT_bool_tuple, isT_bool_dict, isT_int_int, isT_int_str, isT_int_bool, isT_int_list, isT_int_tuple, isT_int_dict, isT_str_int, isT_str_str, isT_str_bool, isT_str_list, isT_str_tuple, isT_str_dict, isT_list_int, isT_list_str, isT_list_bool, isT_list_list, isT_list_tuple, isT_list_dict, isT_tuple_int, isT_tuple_str, isT_tuple_bool, isT_tuple_list, isT_tuple_tuple, isT_tuple_dict, isT_dict_int, isT_dict_str, isT_dict_bool, isT_dict_list, isT_dict_tuple, isT_dict_dict, cxB_K, WF, WE, List.getElem?_cons_zero, List.getElem?_cons_succ, Option.some.injEq, exists_eq_left', exists_eq_left, V.ref.injEq, V.int.injEq, V.str.injEq, V.bl.injEq, HO.ins.injEq, List.cons.injEq, and_true, true_and, exists_and_left, and_assoc, reduceCtorEq, false_and, and_false, exists_false, or_false, false_or, if_true, if_false, Bool.false_eq_true, Bool.not_true, Bool.not_false, ite_true, ite_false, List.mem_singleton, forall_eq, L2.start, List.map_cons, List.map_nil, List.length_cons, List.length_nil, List.replicate, List.cons_append, List.nil_append, Nat.sub_self, Nat.reduceAdd, Nat.reduceSub, List.set_cons_zero, List.set_cons_succ, L2.wipe, tYes, gCons, gNil, tCont, tAndF, tOrF, false_implies, L2.tSl, tNoPart, tPart, tBM, tyVs, Int.reduceLT, Int.reduceLE, CDiv, qSlS, tAug, qIpI, Int.zero_add, decide_true, decide_false, sz1, sz2, sz3, sz0, sz4, sz5, sz6, sz7, sz8, sz9, sz10, sz11, sz12, kV_s, kV_i, Nat.reduceLT, Nat.reduceLeDiff, true_implies, Option.isSome_some, Option.isSome_none, String.reduceBEq, Bool.or_false, Bool.or_true, Bool.false_or, Bool.true_or, Bool.and_true, Bool.and_false, Bool.true_and, Bool.false_and, qIsXt upd_same, kitVs_cons, kitVs_nil, T.k_TooMany.val, T.k_TooMany.at 0 (y := "PassError") (b := true) rfl, T.k_TooMany.at 1 (y := "NoRights") (b := false) rfl, T.k_TooMany.at 2 (y := "NoName") (b := false) rfl, T.k_TooMany.at 3 (y := "NoValue") (b := false) rfl, T.k_TooMany.at 4 (y := "NoWords") (b := false) rfl, T.k_TooMany.at 5 (y := "NoKind") (b := false) rfl, T.k_TooMany.at 6 (y := "NoTask") (b := false) rfl, T.k_TooMany.at 7 (y := "NoHandle") (b := false) rfl, T.k_TooMany.at 8 (y := "NoThing") (b := false) rfl, T.k_TooMany.at 9 (y := "NoRow") (b := false) rfl, T.k_TooMany.at 10 (y := "NoDeed") (b := false) rfl, T.k_TooMany.at 11 (y := "Lacks") (b := false) rfl, T.k_TooMany.at 12 (y := "Taken") (b := false) rfl, T.k_TooMany.at 13 (y := "TooMany") (b := true) rfl, T.k_TooMany.at 14 (y := "TooGreat") (b := false) rfl, T.k_TooMany.at 15 (y := "Empty") (b := false) rfl, T.k_TooMany.at 16 (y := "Full") (b := false) rfl, upd_ne n31.symm, upd_ne n21.symm, upd_same]
      generalize hH : upd (upd (upd (upd H p1 _) p1 _) p2 _) p3 _ = H3
      have e1 : H3 p1 = some (.lst [.bl false, .bl false, .bl false, .bl true, .bl false]) := by rw [← hH, upd_ne n31.symm, upd_ne n21.symm, upd_same]
      have sm : Same H H3 := by
        intro b o e
        have m1 := ne_of_none e hp1
        have m2 : b ≠ p2 := ne_of_none e (fresh (fresh hp2).2).2
        have m3 : b ≠ p3 := ne_of_none e (fresh (fresh (fresh hp3).2).2).2
        rw [← hH, upd_ne m3, upd_ne m2, upd_ne m1, upd_ne m1]; exact e
      have ea : ([.bl false, .bl false, .bl false, .bl true, .bl false] : List V).all flatV = true := rfl
      have ec : ([.bl false, .bl false, .bl false, .bl true, .bl false] : List V).countP (fun z => eqV z (.bl true)) = 1 := rfl
      have ei : ([.bl false, .bl false, .bl false, .bl true, .bl false] : List V).findIdx? (fun z => eqV z (.bl true)) = some 3 := rfl
      simp only [tSeq, tIfS, tTest, tOp, tVar, L2.tC, tCB, tCons, tNil, tRet, tAsg, gName, gSub, tNot, tOr, tAnd, tFld, tB, tTru, tLM, tCallS, tMethW, tMakeW, tDrop, tNext, tUn, tTup, tLst, sFld, tChain, tAndV, tOrV, tNotV, tIf, tDNewK,
 qAddI, qAddS, qAddL, qMulI, qMulL, qSubI, qI, qUI, qEqS, qNeS, scNI, scIN, scNS, scSN, scNB, scBN, scNN, scII, scSS, scBB, scIS, scSI, scBS, scSB, qInL, qInT, qNiL, qNiT, qInDs, qNiDs, qInDi, qNiDi, qIxL, qIxT, qIxDs, qIxDi, qIxS, qSetL, qSetDs, qSetDi, qLenS, qLenL, qLenT, qLenD, qIs, okInt, okStr, okBool, okList, okTup, okDict, tyNon, tyBl, tyInt, tyStr, qTN, qTB, qTI, qTS, qTL, qLtI, qLeI, qGtI, qGeI, qApp, qCnt, qIdx, flN, flI, flS, flB, qIsL,
 isT_NoneType_int, isT_NoneType_str, isT_NoneType_bool, isT_NoneType_list, isT_NoneType_tuple, isT_NoneType_dict, isT_bool_int, isT_bool_str, isT_bool_bool, isT_bool_list, isT_bool_tuple, isT_bool_dict, isT_int_int, isT_int_str, isT_int_bool, isT_int_list, isT_int_tuple, isT_int_dict, isT_str_int, isT_str_str, isT_str_bool, isT_str_list, isT_str_tuple, isT_str_dict, isT_list_int, isT_list_str, isT_list_bool, isT_list_list, isT_list_tuple, isT_list_dict, isT_tuple_int, isT_tuple_str, isT_tuple_bool, isT_tuple_list, isT_tuple_tuple, isT_tuple_dict, isT_dict_int, isT_dict_str, isT_dict_bool, isT_dict_list, isT_dict_tuple, isT_dict_dict, cxB_K, WF, WE, List.getElem?_cons_zero, List.getElem?_cons_succ, Option.some.injEq, exists_eq_left', exists_eq_left, V.ref.injEq, V.int.injEq, V.str.injEq, V.bl.injEq, HO.ins.injEq, List.cons.injEq, and_true, true_and, exists_and_left, and_assoc, reduceCtorEq, false_and, and_false, exists_false, or_false, false_or, if_true, if_false, Bool.false_eq_true, Bool.not_true, Bool.not_false, ite_true, ite_false, List.mem_singleton, forall_eq, L2.start, List.map_cons, List.map_nil, List.length_cons, List.length_nil, List.replicate, List.cons_append, List.nil_append, Nat.sub_self, Nat.reduceAdd, Nat.reduceSub, List.set_cons_zero, List.set_cons_succ, L2.wipe, tYes, gCons, gNil, tCont, tAndF, tOrF, false_implies, L2.tSl, tNoPart, tPart, tBM, tyVs, Int.reduceLT, Int.reduceLE, CDiv, qSlS, tAug, qIpI, Int.zero_add, decide_true, decide_false, sz1, sz2, sz3, sz0, sz4, sz5, sz6, sz7, sz8, sz9, sz10, sz11, sz12, kV_s, kV_i, Nat.reduceLT, Nat.reduceLeDiff, true_implies, Option.isSome_some, Option.isSome_none, String.reduceBEq, Bool.or_false, Bool.or_true, Bool.false_or, Bool.true_or, Bool.and_true, Bool.and_false, Bool.true_and, Bool.false_and, qCnt e1 flB ea, ec]
      intro p4 hp4
      have n41 : p1 ≠ p4 := ne_of_none e1 hp4
      have e2 : (upd H3 p4 (.lst [.str "NoName", .str "Taken", .str "NoTask", .str "TooMany", .str "NoHandle"])) p1 = some (.lst [.bl false, .bl false, .bl false, .bl true, .bl false]) := by rw [upd_ne n41]; exact e1
      simp only [tSeq, tIfS, tTest, tOp, tVar, L2.tC, tCB, tCons, tNil, tRet, tAsg, gName, gSub, tNot, tOr, tAnd, tFld, tB, tTru, tLM, tCallS, tMethW, tMakeW, tDrop, tNext, tUn, tTup, tLst, sFld, tChain, tAndV, tOrV, tNotV, tIf, tDNewK,
 qAddI, qAddS, qAddL, qMulI, qMulL, qSubI, qI, qUI, qEqS, qNeS, scNI, scIN, scNS, scSN, scNB, scBN, scNN, scII, scSS, scBB, scIS, scSI, scBS, scSB, qInL, qInT, qNiL, qNiT, qInDs, qNiDs, qInDi, qNiDi, qIxL, qIxT, qIxDs, qIxDi, qIxS, qSetL, qSetDs, qSetDi, qLenS, qLenL, qLenT, qLenD, qIs, okInt, okStr, okBool, okList, okTup, okDict, tyNon, tyBl, tyInt, tyStr, qTN, qTB, qTI, qTS, qTL, qLtI, qLeI, qGtI, qGeI, qApp, qCnt, qIdx, flN, flI, flS, flB, qIsL,
 isT_NoneType_int, isT_NoneType_str, isT_NoneType_bool, isT_NoneType_list, isT_NoneType_tuple, isT_NoneType_dict, isT_bool_int, isT_bool_str, isT_bool_bool, isT_bool_list, isT_bool_tuple, isT_bool_dict, isT_int_int, isT_int_str, isT_int_bool, isT_int_list, isT_int_tuple, isT_int_dict, isT_str_int, isT_str_str, isT_str_bool, isT_str_list, isT_str_tuple, isT_str_dict, isT_list_int, isT_list_str, isT_list_bool, isT_list_list, isT_list_tuple, isT_list_dict, isT_tuple_int, isT_tuple_str, isT_tuple_bool, isT_tuple_list, isT_tuple_tuple, isT_tuple_dict, isT_dict_int, isT_dict_str, isT_dict_bool, isT_dict_list, isT_dict_tuple, isT_dict_dict, cxB_K, WF, WE, List.getElem?_cons_zero, List.getElem?_cons_succ, Option.some.injEq, exists_eq_left', exists_eq_left, V.ref.injEq, V.int.injEq, V.str.injEq, V.bl.injEq, HO.ins.injEq, List.cons.injEq, and_true, true_and, exists_and_left, and_assoc, reduceCtorEq, false_and, and_false, exists_false, or_false, false_or, if_true, if_false, Bool.false_eq_true, Bool.not_true, Bool.not_false, ite_true, ite_false, List.mem_singleton, forall_eq, L2.start, List.map_cons, List.map_nil, List.length_cons, List.length_nil, List.replicate, List.cons_append, List.nil_append, Nat.sub_self, Nat.reduceAdd, Nat.reduceSub, List.set_cons_zero, List.set_cons_succ, L2.wipe, tYes, gCons, gNil, tCont, tAndF, tOrF, false_implies, L2.tSl, tNoPart, tPart, tBM, tyVs, Int.reduceLT, Int.reduceLE, CDiv, qSlS, tAug, qIpI, Int.zero_add, decide_true, decide_false, sz1, sz2, sz3, sz0, sz4, sz5, sz6, sz7, sz8, sz9, sz10, sz11, sz12, kV_s, kV_i, Nat.reduceLT, Nat.reduceLeDiff, true_implies, Option.isSome_some, Option.isSome_none, String.reduceBEq, Bool.or_false, Bool.or_true, Bool.false_or, Bool.true_or, Bool.and_true, Bool.and_false, Bool.true_and, Bool.false_and, isLst, e2, rIdxF, flB, ea, ei, qIxL upd_same]
      exact ⟨_, rfl, hq _ (sm.trans (same_upd hp4))⟩
    · have hX := T.x_NoHandle.isi
      refine ⟨_, (pss_cons (ps_set (i := 1) sc__law_word.nd rfl (by first | exact Or.inl rfl | exact Or.inr rfl) (pe_lst (pa_cons (pe_callB (call_isX he hX) (by rfl) T.n_isinstance (by decide +kernel) (pa_cons (pv 0) (pa_cons (pe_glob (v := .ref (ga K "NoName")) rfl T.g_NoName rfl) pa_nil))) (pa_cons (pe_callB (call_isX he hX) (by rfl) T.n_isinstance (by decide +kernel) (pa_cons (pv 0) (pa_cons (pe_glob (v := .ref (ga K "Taken")) rfl T.g_Taken rfl) pa_nil))) (pa_cons (pe_callB (call_isX he hX) (by rfl) T.n_isinstance (by decide +kernel) (pa_cons (pv 0) (pa_cons (pe_glob (v := .ref (ga K "NoTask")) rfl T.g_NoTask rfl) pa_nil))) (pa_cons (pe_callB (call_isX he hX) (by rfl) T.n_isinstance (by decide +kernel) (pa_cons (pv 0) (pa_cons (pe_glob (v := .ref (ga K "TooMany")) rfl T.g_TooMany rfl) pa_nil))) pa_nil))))))
    (pss_cons (ps_expr (pe_lm PySem.F.slot_list_append PySem.F.type_list_append mt_appF (pv 1) (pa_cons (pe_callB (call_isX he hX) (by rfl) T.n_isinstance (by decide +kernel) (pa_cons (pv 0) (pa_cons (pe_glob (v := .ref (ga K "NoHandle")) rfl T.g_NoHandle rfl) pa_nil))) pa_nil)))
    (pss_cons (ps_if (PW.pt (pw_or (pt_truF (pe_callB (call_isXt he hX) (by rfl) T.n_isinstance (by decide +kernel) (pa_cons (pv 0) (pa_cons (pe_tup (pa_cons (pe_glob (v := .ref (ga K "NoRights")) rfl T.g_NoRights rfl) (pa_cons (pe_glob (v := .ref (ga K "NoValue")) rfl T.g_NoValue rfl) (pa_cons (pe_glob (v := .ref (ga K "NoWords")) rfl T.g_NoWords rfl) (pa_cons (pe_glob (v := .ref (ga K "NoKind")) rfl T.g_NoKind rfl) (pa_cons (pe_glob (v := .ref (ga K "NoThing")) rfl T.g_NoThing rfl) (pa_cons (pe_glob (v := .ref (ga K "NoRow")) rfl T.g_NoRow rfl) pa_nil))))))) pa_nil))) (by intro _; rfl)) (pw_or1 (pt_not (pt_truF (pe_callB (call_isX he hX) (by rfl) T.n_isinstance (by decide +kernel) (pa_cons (pv 0) (pa_cons (pe_bltn (v := .ty "ValueError") rfl T.n_ValueError (by decide +kernel) rfl) pa_nil))) (by intro _; rfl)))))) (pss_one (ps_ret pe_str)) pss_nil)
    (pss_cons (ps_if (PW.pt (pw_or (pt_truF (pe_callB (call_isXt he hX) (by rfl) T.n_isinstance (by decide +kernel) (pa_cons (pv 0) (pa_cons (pe_tup (pa_cons (pe_glob (v := .ref (ga K "TooGreat")) rfl T.g_TooGreat rfl) (pa_cons (pe_glob (v := .ref (ga K "Empty")) rfl T.g_Empty rfl) (pa_cons (pe_glob (v := .ref (ga K "Full")) rfl T.g_Full rfl) (pa_cons (pe_glob (v := .ref (ga K "NoDeed")) rfl T.g_NoDeed rfl) (pa_cons (pe_glob (v := .ref (ga K "Lacks")) rfl T.g_Lacks rfl) pa_nil)))))) pa_nil))) (by intro _; rfl)) (pw_or1 (pt_cmpR (op_neFB (K := K) rfl hu) (pe_lm PySem.F.slot_list_count PySem.F.type_list_count mt_cntF (pv 1) (pa_cons pe_bl pa_nil)) pe_int (nomark _))))) (pss_one (ps_ret pe_str)) pss_nil)
    (pss_one (ps_ret (pe_ix (ix_F hu) (pe_lst (pa_cons pe_str (pa_cons pe_str (pa_cons pe_str (pa_cons pe_str (pa_cons pe_str pa_nil)))))) (pe_lm PySem.F.slot_list_index PySem.F.type_list_index mt_idxF (pv 1) (pa_cons pe_bl pa_nil)) (fun _ _ => rfl)))))))), ?_⟩
      simp only [tSeq, tIfS, tTest, tOp, tVar, L2.tC, tCB, tCons, tNil, tRet, tAsg, gName, gSub, tNot, tOr, tAnd, tFld, tB, tTru, tLM, tCallS, tMethW, tMakeW, tDrop, tNext, tUn, tTup, tLst, sFld, tChain, tAndV, tOrV, tNotV, tIf, tDNewK,
 qAddI, qAddS, qAddL, qMulI, qMulL, qSubI, qI, qUI, qEqS, qNeS, scNI, scIN, scNS, scSN, scNB, scBN, scNN, scII, scSS, scBB, scIS, scSI, scBS, scSB, qInL, qInT, qNiL, qNiT, qInDs, qNiDs, qInDi, qNiDi, qIxL, qIxT, qIxDs, qIxDi, qIxS, qSetL, qSetDs, qSetDi, qLenS, qLenL, qLenT, qLenD, qIs, okInt, okStr, okBool, okList, okTup, okDict, tyNon, tyBl, tyInt, tyStr, qTN, qTB, qTI, qTS, qTL, qLtI, qLeI, qGtI, qGeI, qApp, qCnt, qIdx, flN, flI, flS, flB, qIsL,
 isT_NoneType_int, isT_NoneType_str, isT_NoneType_bool, isT_NoneType_list, isT_NoneType_tuple, isT_NoneType_dict, isT_bool_int, isT_bool_str, isT_bool_bool, isT_bool_list, isT_bool_tuple, isT_bool_dict, isT_int_int, isT_int_str, isT_int_bool, isT_int_list, isT_int_tuple, isT_int_dict, isT_str_int, isT_str_str, isT_str_bool, isT_str_list, isT_str_tuple, isT_str_dict, isT_list_int, isT_list_str, isT_list_bool, isT_list_list, isT_list_tuple, isT_list_dict, isT_tuple_int, isT_tuple_str, isT_tuple_bool, isT_tuple_list, isT_tuple_tuple, isT_tuple_dict, isT_dict_int, isT_dict_str, isT_dict_bool, isT_dict_list, isT_dict_tuple, isT_dict_dict, cxB_K, WF, WE, List.getElem?_cons_zero, List.getElem?_cons_succ, Option.some.injEq, exists_eq_left', exists_eq_left, V.ref.injEq, V.int.injEq, V.str.injEq, V.bl.injEq, HO.ins.injEq, List.cons.injEq, and_true, true_and, exists_and_left, and_assoc, reduceCtorEq, false_and, and_false, exists_false, or_false, false_or, if_true, if_false, Bool.false_eq_true, Bool.not_true, Bool.not_false, ite_true, ite_false, List.mem_singleton, forall_eq, L2.start, List.map_cons, List.map_nil, List.length_cons, List.length_nil, List.replicate, List.cons_append, List.nil_append, Nat.sub_self, Nat.reduceAdd, Nat.reduceSub, List.set_cons_zero, List.set_cons_succ, L2.wipe, tYes, gCons, gNil, tCont, tAndF, tOrF, false_implies, L2.tSl, tNoPart, tPart, tBM, tyVs, Int.reduceLT, Int.reduceLE, CDiv, qSlS, tAug, qIpI, Int.zero_add, decide_true, decide_false, sz1, sz2, sz3, sz0, sz4, sz5, sz6, sz7, sz8, sz9, sz10, sz11, sz12, kV_s, kV_i, Nat.reduceLT, Nat.reduceLeDiff, true_implies, Option.isSome_some, Option.isSome_none, String.reduceBEq, Bool.or_false, Bool.or_true, Bool.false_or, Bool.true_or, Bool.and_true, Bool.and_false, Bool.true_and, Bool.false_and, cxX_K, T.k_NoHandle.val, T.k_NoHandle.at 0 (y := "PassError") (b := true) rfl, T.k_NoHandle.at 1 (y := "NoRights") (b := false) rfl, T.k_NoHandle.at 2 (y := "NoName") (b := false) rfl, T.k_NoHandle.at 3 (y := "NoValue") (b := false) rfl, T.k_NoHandle.at 4 (y := "NoWords") (b := false) rfl, T.k_NoHandle.at 5 (y := "NoKind") (b := false) rfl, T.k_NoHandle.at 6 (y := "NoTask") (b := false) rfl, T.k_NoHandle.at 7 (y := "NoHandle") (b := true) rfl, T.k_NoHandle.at 8 (y := "NoThing") (b := false) rfl, T.k_NoHandle.at 9 (y := "NoRow") (b := false) rfl, T.k_NoHandle.at 10 (y := "NoDeed") (b := false) rfl, T.k_NoHandle.at 11 (y := "Lacks") (b := false) rfl, T.k_NoHandle.at 12 (y := "Taken") (b := false) rfl, T.k_NoHandle.at 13 (y := "TooMany") (b := false) rfl, T.k_NoHandle.at 14 (y := "TooGreat") (b := false) rfl, T.k_NoHandle.at 15 (y := "Empty") (b := false) rfl, T.k_NoHandle.at 16 (y := "Full") (b := false) rfl, qIsX]
      intro p1 hp1
      simp only [tSeq, tIfS, tTest, tOp, tVar, L2.tC, tCB, tCons, tNil, tRet, tAsg, gName, gSub, tNot, tOr, tAnd, tFld, tB, tTru, tLM, tCallS, tMethW, tMakeW, tDrop, tNext, tUn, tTup, tLst, sFld, tChain, tAndV, tOrV, tNotV, tIf, tDNewK,
 qAddI, qAddS, qAddL, qMulI, qMulL, qSubI, qI, qUI, qEqS, qNeS, scNI, scIN, scNS, scSN, scNB, scBN, scNN, scII, scSS, scBB, scIS, scSI, scBS, scSB, qInL, qInT, qNiL, qNiT, qInDs, qNiDs, qInDi, qNiDi, qIxL, qIxT, qIxDs, qIxDi, qIxS, qSetL, qSetDs, qSetDi, qLenS, qLenL, qLenT, qLenD, qIs, okInt, okStr, okBool, okList, okTup, okDict, tyNon, tyBl, tyInt, tyStr, qTN, qTB, qTI, qTS, qTL, qLtI, qLeI, qGtI, qGeI, qApp, qCnt, qIdx, flN, flI, flS, flB, qIsL,
 isT_NoneType_int, isT_NoneType_str, isT_NoneType_bool, isT_NoneType_list, isT_NoneType_tuple, isT_NoneType_dict, isT_bool_int, isT_bool_str, isT_bool_bool, isT_bool_list, isT_bool_tuple, isT_bool_dict, isT_int_int, isT_int_str, isT_int_bool, isT_int_list, isT_int_tuple, isT_int_dict, isT_str_int, isT_str_str, isT_str_bool, isT_str_list, isT_str_tuple, isT_str_dict, isT_list_int, isT_list_str, isT_list_bool, isT_list_list, isT_list_tuple, isT_list_dict, isT_tuple_int, isT_tuple_str, isT_tuple_bool, isT_tuple_list, isT_tuple_tuple, isT_tuple_dict, isT_dict_int, isT_dict_str, isT_dict_bool, isT_dict_list, isT_dict_tuple, isT_dict_dict, cxB_K, WF, WE, List.getElem?_cons_zero, List.getElem?_cons_succ, Option.some.injEq, exists_eq_left', exists_eq_left, V.ref.injEq, V.int.injEq, V.str.injEq, V.bl.injEq, HO.ins.injEq, List.cons.injEq, and_true, true_and, exists_and_left, and_assoc, reduceCtorEq, false_and, and_false, exists_false, or_false, false_or, if_true, if_false, Bool.false_eq_true, Bool.not_true, Bool.not_false, ite_true, ite_false, List.mem_singleton, forall_eq, L2.start, List.map_cons, List.map_nil, List.length_cons, List.length_nil, List.replicate, List.cons_append, List.nil_append, Nat.sub_self, Nat.reduceAdd, Nat.reduceSub, List.set_cons_zero, List.set_cons_succ, L2.wipe, tYes, gCons, gNil, tCont, tAndF, tOrF, false_implies, L2.tSl, tNoPart, tPart, tBM, tyVs, Int.reduceLT, Int.reduceLE, CDiv, qSlS, tAug, qIpI, Int.zero_add, decide_true, decide_false, sz1, sz2, sz3, sz0, sz4, sz5, sz6, sz7, sz8, sz9, sz10, sz11, sz12, kV_s, kV_i, Nat.reduceLT, Nat.reduceLeDiff, true_implies, Option.isSome_some, Option.isSome_none, String.reduceBEq, Bool.or_false, Bool.or_true, Bool.false_or, Bool.true_or, Bool.and_true, Bool.and_false, Bool.true_and, Bool.false_and, isLst, upd_same, qApp upd_same]
      refine ⟨by rw [sizeLine_eq]; decide, ?_⟩
      intro p2 hp2
      obtain ⟨n21, hp2'⟩ := fresh hp2
      simp only [tSeq, tIfS, tTest, tOp, tVar, L2.tC, tCB, tCons, tNil, tRet, tAsg, gName, gSub, tNot, tOr, tAnd, tFld, tB, tTru, tLM, tCallS, tMethW, tMakeW, tDrop, tNext, tUn, tTup, tLst, sFld, tChain, tAndV, tOrV, tNotV, tIf, tDNewK,
 qAddI, qAddS, qAddL, qMulI, qMulL, qSubI, qI, qUI, qEqS, qNeS, scNI, scIN, scNS, scSN, scNB, scBN, scNN, scII, scSS, scBB, scIS, scSI, scBS, scSB, qInL, qInT, qNiL, qNiT, qInDs, qNiDs, qInDi, qNiDi, qIxL, qIxT, qIxDs, qIxDi, qIxS, qSetL, qSetDs, qSetDi, qLenS, qLenL, qLenT, qLenD, qIs, okInt, okStr, okBool, okList, okTup, okDict, tyNon, tyBl, tyInt, tyStr, qTN, qTB, qTI, qTS, qTL, qLtI, qLeI, qGtI, qGeI, qApp, qCnt, qIdx, flN, flI, flS, flB, qIsL,
 isT_NoneType_int, isT_NoneType_str, isT_NoneType_bool, isT_NoneType_list, isT_NoneType_tuple, isT_NoneType_dict, isT_bool_int, isT_bool_str, isT_bool_bool, isT_bool_list, isT_bool_tuple, isT_bool_dict, isT_int_int, isT_int_str, isT_int_bool, isT_int_list, isT_int_tuple, isT_int_dict, isT_str_int, isT_str_str, isT_str_bool, isT_str_list, isT_str_tuple, isT_str_dict, isT_list_int, isT_list_str, isT_list_bool, isT_list_list, isT_list_tuple, isT_list_dict, isT_tuple_int, isT_tuple_str, isT_tuple_bool, isT_tuple_list, isT_tuple_tuple, isT_tuple_dict, isT_dict_int, isT_dict_str, isT_dict_bool, isT_dict_list, isT_dict_tuple, isT_dict_dict, cxB_K, WF, WE, List.getElem?_cons_zero, List.getElem?_cons_succ, Option.some.injEq, exists_eq_left', exists_eq_left, V.ref.injEq, V.int.injEq, V.str.injEq, V.bl.injEq, HO.ins.injEq, List.cons.injEq, and_true, true_and, exists_and_left, and_assoc, reduceCtorEq, false_and, and_false, exists_false, or_false, false_or, if_true, if_false, Bool.false_eq_true, Bool.not_true, Bool.not_false, ite_true, ite_false, List.mem_singleton, forall_eq, L2.start, List.map_cons, List.map_nil, List.length_cons, List.length_nil, List.replicate, List.cons_append, List.nil_append, Nat.sub_self, Nat.reduceAdd, Nat.reduceSub, List.set_cons_zero, List.set_cons_succ, L2.wipe, tYes, gCons, gNil, tCont, tAndF, tOrF, false_implies, L2.tSl, tNoPart, tPart, tBM, tyVs, Int.reduceLT, Int.reduceLE, CDiv, qSlS, tAug, qIpI, Int.zero_add, decide_true, decide_false, sz1, sz2, sz3, sz0, sz4, sz5, sz6, sz7, sz8, sz9, sz10, sz11, sz12, kV_s, kV_i, Nat.reduceLT, Nat.reduceLeDiff, true_implies, Option.isSome_some, Option.isSome_none, String.reduceBEq, Bool.or_false, Bool.or_true, Bool.false_or, Bool.true_or, Bool.and_true, Bool.and_false, Bool.true_and, Bool.false_and, qIsXt upd_same, kitVs_cons, kitVs_nil, T.k_NoHandle.val, T.k_NoHandle.at 0 (y := "PassError") (b := true) rfl, T.k_NoHandle.at 1 (y := "NoRights") (b := false) rfl, T.k_NoHandle.at 2 (y := "NoName") (b := false) rfl, T.k_NoHandle.at 3 (y := "NoValue") (b := false) rfl, T.k_NoHandle.at 4 (y := "NoWords") (b := false) rfl, T.k_NoHandle.at 5 (y := "NoKind") (b := false) rfl, T.k_NoHandle.at 6 (y := "NoTask") (b := false) rfl, T.k_NoHandle.at 7 (y := "NoHandle") (b := true) rfl, T.k_NoHandle.at 8 (y := "NoThing") (b := false) rfl, T.k_NoHandle.at 9 (y := "NoRow") (b := false) rfl, T.k_NoHandle.at 10 (y := "NoDeed") (b := false) rfl, T.k_NoHandle.at 11 (y := "Lacks") (b := false) rfl, T.k_NoHandle.at 12 (y := "Taken") (b := false) rfl, T.k_NoHandle.at 13 (y := "TooMany") (b := false) rfl, T.k_NoHandle.at 14 (y := "TooGreat") (b := false) rfl, T.k_NoHandle.at 15 (y := "Empty") (b := false) rfl, T.k_NoHandle.at 16 (y := "Full") (b := false) rfl]
      intro p3 hp3
      obtain ⟨n32, hp3'⟩ := fresh hp3
      obtain ⟨n31, hp3''⟩ := fresh hp3'
      simp only [tSeq, tIfS, tTest, tOp, tVar, L2.tC, tCB, tCons, tNil, tRet, tAsg, gName, gSub, tNot, tOr, tAnd, tFld, tB, tTru, tLM, tCallS, tMethW, tMakeW, tDrop, tNext, tUn, tTup, tLst, sFld, tChain, tAndV, tOrV, tNotV, tIf, tDNewK,
 qAddI, qAddS, qAddL, qMulI, qMulL, qSubI, qI, qUI, qEqS, qNeS, scNI, scIN, scNS, scSN, scNB, scBN, scNN, scII, scSS, scBB, scIS, scSI, scBS, scSB, qInL, qInT, qNiL, qNiT, qInDs, qNiDs, qInDi, qNiDi, qIxL, qIxT, qIxDs, qIxDi, qIxS, qSetL, qSetDs, qSetDi, qLenS, qLenL, qLenT, qLenD, qIs, okInt, okStr, okBool, okList, okTup, okDict, tyNon, tyBl, tyInt, tyStr, qTN, qTB, qTI, qTS, qTL, qLtI, qLeI, qGtI, qGeI, qApp, qCnt, qIdx, flN, flI, flS, flB, qIsL,
 isT_NoneType_int, isT_NoneType_str, isT_NoneType_bool, isT_NoneType_list, isT_NoneType_tuple, isT_NoneType_dict, isT_bool_int, isT_bool_str, isT_bool_bool, isT_bool_list, isT_bool_tuple, isT_bool_dict, isT_int_int, isT_int_str, isT_int_bool, isT_int_list, isT_int_tuple, isT_int_dict, isT_str_int, isT_str_str, isT_str_bool, isT_str_list, isT_str_tuple, isT_str_dict, isT_list_int, isT_list_str, isT_list_bool, isT_list_list, isT_list_tuple, isT_list_dict, isT_tuple_int, isT_tuple_str, isT_tuple_bool, isT_tuple_list, isT_tuple_tuple, isT_tuple_dict, isT_dict_int, isT_dict_str, isT_dict_bool, isT_dict_list, isT_dict_tuple, isT_dict_dict, cxB_K, WF, WE, List.getElem?_cons_zero, List.getElem?_cons_succ, Option.some.injEq, exists_eq_left', exists_eq_left, V.ref.injEq, V.int.injEq, V.str.injEq, V.bl.injEq, HO.ins.injEq, List.cons.injEq, and_true, true_and, exists_and_left, and_assoc, reduceCtorEq, false_and, and_false, exists_false, or_false, false_or, if_true, if_false, Bool.false_eq_true, Bool.not_true, Bool.not_false, ite_true, ite_false, List.mem_singleton, forall_eq, L2.start, List.map_cons, List.map_nil, List.length_cons, List.length_nil, List.replicate, List.cons_append, List.nil_append, Nat.sub_self, Nat.reduceAdd, Nat.reduceSub, List.set_cons_zero, List.set_cons_succ, L2.wipe, tYes, gCons, gNil, tCont, tAndF, tOrF, false_implies, L2.tSl, tNoPart, tPart, tBM, tyVs, Int.reduceLT, Int.reduceLE, CDiv, qSlS, tAug, qIpI, Int.zero_add, decide_true, decide_false, sz1, sz2, sz3, sz0, sz4, sz5, sz6, sz7, sz8, sz9, sz10, sz11, sz12, kV_s, kV_i, Nat.reduceLT, Nat.reduceLeDiff, true_implies, Option.isSome_some, Option.isSome_none, String.reduceBEq, Bool.or_false, Bool.or_true, Bool.false_or, Bool.true_or, Bool.and_true, Bool.and_false, Bool.true_and, Bool.false_and, qIsXt upd_same, kitVs_cons, kitVs_nil, T.k_NoHandle.val, T.k_NoHandle.at 0 (y := "PassError") (b := true) rfl, T.k_NoHandle.at 1 (y := "NoRights") (b := false) rfl, T.k_NoHandle.at 2 (y := "NoName") (b := false) rfl, T.k_NoHandle.at 3 (y := "NoValue") (b := false) rfl, T.k_NoHandle.at 4 (y := "NoWords") (b := false) rfl, T.k_NoHandle.at 5 (y := "NoKind") (b := false) rfl, T.k_NoHandle.at 6 (y := "NoTask") (b := false) rfl, T.k_NoHandle.at 7 (y := "NoHandle") (b := true) rfl, T.k_NoHandle.at 8 (y := "NoThing") (b := false) rfl, T.k_NoHandle.at 9 (y := "NoRow") (b := false) rfl, T.k_NoHandle.at 10 (y := "NoDeed") (b := false) rfl, T.k_NoHandle.at 11 (y := "Lacks") (b := false) rfl, T.k_NoHandle.at 12 (y := "Taken") (b := false) rfl, T.k_NoHandle.at 13 (y := "TooMany") (b := false) rfl, T.k_NoHandle.at 14 (y := "TooGreat") (b := false) rfl, T.k_NoHandle.at 15 (y := "Empty") (b := false) rfl, T.k_NoHandle.at 16 (y := "Full") (b := false) rfl, upd_ne n31.symm, upd_ne n21.symm, upd_same]
      generalize hH : upd (upd (upd (upd H p1 _) p1 _) p2 _) p3 _ = H3
      have e1 : H3 p1 = some (.lst [.bl false, .bl false, .bl false, .bl false, .bl true]) := by rw [← hH, upd_ne n31.symm, upd_ne n21.symm, upd_same]
      have sm : Same H H3 := by
        intro b o e
        have m1 := ne_of_none e hp1
        have m2 : b ≠ p2 := ne_of_none e (fresh (fresh hp2).2).2
        have m3 : b ≠ p3 := ne_of_none e (fresh (fresh (fresh hp3).2).2).2
        rw [← hH, upd_ne m3, upd_ne m2, upd_ne m1, upd_ne m1]; exact e
      have ea : ([.bl false, .bl false, .bl false, .bl false, .bl true] : List V).all flatV = true := rfl
      have ec : ([.bl false, .bl false, .bl false, .bl false, .bl true] : List V).countP (fun z => eqV z (.bl true)) = 1 := rfl
      have ei : ([.bl false, .bl false, .bl false, .bl false, .bl true] : List V).findIdx? (fun z => eqV z (.bl true)) = some 4 := rfl
      simp only [tSeq, tIfS, tTest, tOp, tVar, L2.tC, tCB, tCons, tNil, tRet, tAsg, gName, gSub, tNot, tOr, tAnd, tFld, tB, tTru, tLM, tCallS, tMethW, tMakeW, tDrop, tNext, tUn, tTup, tLst, sFld, tChain, tAndV, tOrV, tNotV, tIf, tDNewK,
 qAddI, qAddS, qAddL, qMulI, qMulL, qSubI, qI, qUI, qEqS, qNeS, scNI, scIN, scNS, scSN, scNB, scBN, scNN, scII, scSS, scBB, scIS, scSI, scBS, scSB, qInL, qInT, qNiL, qNiT, qInDs, qNiDs, qInDi, qNiDi, qIxL, qIxT, qIxDs, qIxDi, qIxS, qSetL, qSetDs, qSetDi, qLenS, qLenL, qLenT, qLenD, qIs, okInt, okStr, okBool, okList, okTup, okDict, tyNon, tyBl, tyInt, tyStr, qTN, qTB, qTI, qTS, qTL, qLtI, qLeI, qGtI, qGeI, qApp, qCnt, qIdx, flN, flI, flS, flB, qIsL,
 isT_NoneType_int, isT_NoneType_str, isT_NoneType_bool, isT_NoneType_list, isT_NoneType_tuple, isT_NoneType_dict, isT_bool_int, isT_bool_str, isT_bool_bool, isT_bool_list, isT_bool_tuple, isT_bool_dict, isT_int_int, isT_int_str, isT_int_bool, isT_int_list, isT_int_tuple, isT_int_dict, isT_str_int, isT_str_str, isT_str_bool, isT_str_list, isT_str_tuple, isT_str_dict, isT_list_int, isT_list_str, isT_list_bool, isT_list_list, isT_list_tuple, isT_list_dict, isT_tuple_int, isT_tuple_str, isT_tuple_bool, isT_tuple_list, isT_tuple_tuple, isT_tuple_dict, isT_dict_int, isT_dict_str, isT_dict_bool, isT_dict_list, isT_dict_tuple, isT_dict_dict, cxB_K, WF, WE, List.getElem?_cons_zero, List.getElem?_cons_succ, Option.some.injEq, exists_eq_left', exists_eq_left, V.ref.injEq, V.int.injEq, V.str.injEq, V.bl.injEq, HO.ins.injEq, List.cons.injEq, and_true, true_and, exists_and_left, and_assoc, reduceCtorEq, false_and, and_false, exists_false, or_false, false_or, if_true, if_false, Bool.false_eq_true, Bool.not_true, Bool.not_false, ite_true, ite_false, List.mem_singleton, forall_eq, L2.start, List.map_cons, List.map_nil, List.length_cons, List.length_nil, List.replicate, List.cons_append, List.nil_append, Nat.sub_self, Nat.reduceAdd, Nat.reduceSub, List.set_cons_zero, List.set_cons_succ, L2.wipe, tYes, gCons, gNil, tCont, tAndF, tOrF, false_implies, L2.tSl, tNoPart, tPart, tBM, tyVs, Int.reduceLT, Int.reduceLE, CDiv, qSlS, tAug, qIpI, Int.zero_add, decide_true, decide_false, sz1, sz2, sz3, sz0, sz4, sz5, sz6, sz7, sz8, sz9, sz10, sz11, sz12, kV_s, kV_i, Nat.reduceLT, Nat.reduceLeDiff, true_implies, Option.isSome_some, Option.isSome_none, String.reduceBEq, Bool.or_false, Bool.or_true, Bool.false_or, Bool.true_or, Bool.and_true, Bool.and_false, Bool.true_and, Bool.false_and, qCnt e1 flB ea, ec]
      intro p4 hp4
      have n41 : p1 ≠ p4 := ne_of_none e1 hp4
      have e2 : (upd H3 p4 (.lst [.str "NoName", .str "Taken", .str "NoTask", .str "TooMany", .str "NoHandle"])) p1 = some (.lst [.bl false, .bl false, .bl false, .bl false, .bl true]) := by rw [upd_ne n41]; exact e1
      simp only [tSeq, tIfS, tTest, tOp, tVar, L2.tC, tCB, tCons, tNil, tRet, tAsg, gName, gSub, tNot, tOr, tAnd, tFld, tB, tTru, tLM, tCallS, tMethW, tMakeW, tDrop, tNext, tUn, tTup, tLst, sFld, tChain, tAndV, tOrV, tNotV, tIf, tDNewK,
 qAddI, qAddS, qAddL, qMulI, qMulL, qSubI, qI, qUI, qEqS, qNeS, scNI, scIN, scNS, scSN, scNB, scBN, scNN, scII, scSS, scBB, scIS, scSI, scBS, scSB, qInL, qInT, qNiL, qNiT, qInDs, qNiDs, qInDi, qNiDi, qIxL, qIxT, qIxDs, qIxDi, qIxS, qSetL, qSetDs, qSetDi, qLenS, qLenL, qLenT, qLenD, qIs, okInt, okStr, okBool, okList, okTup, okDict, tyNon, tyBl, tyInt, tyStr, qTN, qTB, qTI, qTS, qTL, qLtI, qLeI, qGtI, qGeI, qApp, qCnt, qIdx, flN, flI, flS, flB, qIsL,
 isT_NoneType_int, isT_NoneType_str, isT_NoneType_bool, isT_NoneType_list, isT_NoneType_tuple, isT_NoneType_dict, isT_bool_int, isT_bool_str, isT_bool_bool, isT_bool_list, isT_bool_tuple, isT_bool_dict, isT_int_int, isT_int_str, isT_int_bool, isT_int_list, isT_int_tuple, isT_int_dict, isT_str_int, isT_str_str, isT_str_bool, isT_str_list, isT_str_tuple, isT_str_dict, isT_list_int, isT_list_str, isT_list_bool, isT_list_list, isT_list_tuple, isT_list_dict, isT_tuple_int, isT_tuple_str, isT_tuple_bool, isT_tuple_list, isT_tuple_tuple, isT_tuple_dict, isT_dict_int, isT_dict_str, isT_dict_bool, isT_dict_list, isT_dict_tuple, isT_dict_dict, cxB_K, WF, WE, List.getElem?_cons_zero, List.getElem?_cons_succ, Option.some.injEq, exists_eq_left', exists_eq_left, V.ref.injEq, V.int.injEq, V.str.injEq, V.bl.injEq, HO.ins.injEq, List.cons.injEq, and_true, true_and, exists_and_left, and_assoc, reduceCtorEq, false_and, and_false, exists_false, or_false, false_or, if_true, if_false, Bool.false_eq_true, Bool.not_true, Bool.not_false, ite_true, ite_false, List.mem_singleton, forall_eq, L2.start, List.map_cons, List.map_nil, List.length_cons, List.length_nil, List.replicate, List.cons_append, List.nil_append, Nat.sub_self, Nat.reduceAdd, Nat.reduceSub, List.set_cons_zero, List.set_cons_succ, L2.wipe, tYes, gCons, gNil, tCont, tAndF, tOrF, false_implies, L2.tSl, tNoPart, tPart, tBM, tyVs, Int.reduceLT, Int.reduceLE, CDiv, qSlS, tAug, qIpI, Int.zero_add, decide_true, decide_false, sz1, sz2, sz3, sz0, sz4, sz5, sz6, sz7, sz8, sz9, sz10, sz11, sz12, kV_s, kV_i, Nat.reduceLT, Nat.reduceLeDiff, true_implies, Option.isSome_some, Option.isSome_none, String.reduceBEq, Bool.or_false, Bool.or_true, Bool.false_or, Bool.true_or, Bool.and_true, Bool.and_false, Bool.true_and, Bool.false_and, isLst, e2, rIdxF, flB, ea, ei, qIxL upd_same]
      exact ⟨_, rfl, hq _ (sm.trans (same_upd hp4))⟩
end
end Pk

namespace Pk
open PySem PySem.Spec PyProof.Rows L2
def isInt : V → Bool
  | .int _ => true
  | _ => false
section
variable {P : Program} {w : World} {K : PySem.W.Frag} {mg : Str → Option Value} {base : Heap}
def sp_whole (K : PySem.W.Frag) : Sp := Sp.of (fun v : V => [v]) fun v H Q E => (tyName H v).isSome = true ∧ Q (.bl (isInt v)) H
theorem ok__law_whole (T : Tx K mg) : Fw P w K mg base 1 (ga K "_law_whole") (sp_whole K) :=
  Fw.mk_of (T.d__law_whole) sc__law_whole (fun _ _ _ _ _ _ us hl => match us, hl with | [_], _ => rfl) (fun _ => rfl) fun cdv Ar outer s H v Q E hr hb => by
    have hu := hr.units
    refine ⟨_, (pss_one (ps_ret (pe_and (pe_callB call_isF (by rfl) T.n_isinstance (by decide +kernel) (pa_cons (pv 0) (pa_cons (pe_bltn (v := .ty "int") rfl T.n_int (by decide +kernel) rfl) pa_nil))) (pe_one (pe_not (pe_callB call_isF (by rfl) T.n_isinstance (by decide +kernel) (pa_cons (pv 0) (pa_cons (pe_bltn (v := .ty "bool") rfl T.n_bool (by decide +kernel) rfl) pa_nil)))))))), ?_⟩
    obtain ⟨hv, hq⟩ := hb
    obtain ⟨n, hn⟩ := Option.isSome_iff_exists.mp hv
    cases v with
    | ref a =>
      have ne := tyName_ref_int hn
      simp only [tSeq, tIfS, tTest, tOp, tVar, L2.tC, tCB, tCons, tNil, tRet, tAsg, gName, gSub, tNot, tOr, tAnd, tFld, tB, tTru, tLM, tCallS, tMethW, tMakeW, tDrop, tNext, tUn, tTup, tLst, sFld, tChain, tAndV, tOrV, tNotV, tIf, tDNewK,
 qAddI, qAddS, qAddL, qMulI, qMulL, qSubI, qI, qUI, qEqS, qNeS, scNI, scIN, scNS, scSN, scNB, scBN, scNN, scII, scSS, scBB, scIS, scSI, scBS, scSB, qInL, qInT, qNiL, qNiT, qInDs, qNiDs, qInDi, qNiDi, qIxL, qIxT, qIxDs, qIxDi, qIxS, qSetL, qSetDs, qSetDi, qLenS, qLenL, qLenT, qLenD, qIs, okInt, okStr, okBool, okList, okTup, okDict, tyNon, tyBl, tyInt, tyStr, qTN, qTB, qTI, qTS, qTL, qLtI, qLeI, qGtI, qGeI, qApp, qCnt, qIdx, flN, flI, flS, flB, qIsL,
 isT_NoneType_int, isT_NoneType_str, isT_NoneType_bool, isT_NoneType_list, isT_NoneType_tuple, isT_NoneType_dict, isT_bool_int, isT_bool_str, isT_bool_bool, isT_bool_list, isT_bool_tuple, isT_bool_dict, isT_int_int, isT_int_str, isT_int_bool, isT_int_list, isT_int_tuple, isT_int_dict, isT_str_int, isT_str_str, isT_str_bool, isT_str_list, isT_str_tuple, isT_str_dict, isT_list_int, isT_list_str, isT_list_bool, isT_list_list, isT_list_tuple, isT_list_dict, isT_tuple_int, isT_tuple_str, isT_tuple_bool, isT_tuple_list, isT_tuple_tuple, isT_tuple_dict, isT_dict_int, isT_dict_str, isT_dict_bool, isT_dict_list, isT_dict_tuple, isT_dict_dict, cxB_K, WF, WE, List.getElem?_cons_zero, List.getElem?_cons_succ, Option.some.injEq, exists_eq_left', exists_eq_left, V.ref.injEq, V.int.injEq, V.str.injEq, V.bl.injEq, HO.ins.injEq, List.cons.injEq, and_true, true_and, exists_and_left, and_assoc, reduceCtorEq, false_and, and_false, exists_false, or_false, false_or, if_true, if_false, Bool.false_eq_true, Bool.not_true, Bool.not_false, ite_true, ite_false, List.mem_singleton, forall_eq, L2.start, List.map_cons, List.map_nil, List.length_cons, List.length_nil, List.replicate, List.cons_append, List.nil_append, Nat.sub_self, Nat.reduceAdd, Nat.reduceSub, List.set_cons_zero, List.set_cons_succ, L2.wipe, tYes, gCons, gNil, tCont, tAndF, tOrF, false_implies, L2.tSl, tNoPart, tPart, tBM, tyVs, Int.reduceLT, Int.reduceLE, CDiv, qSlS, tAug, qIpI, Int.zero_add, decide_true, decide_false, sz1, sz2, sz3, sz0, sz4, sz5, sz6, sz7, sz8, sz9, sz10, sz11, sz12, kV_s, kV_i, Nat.reduceLT, Nat.reduceLeDiff, true_implies, Option.isSome_some, Option.isSome_none, String.reduceBEq, Bool.or_false, Bool.or_true, Bool.false_or, Bool.true_or, Bool.and_true, Bool.and_false, Bool.true_and, Bool.false_and, hn, ne]
      exact hq
    | byt _ => cases hv
    | flt _ => cases hv
    | ty _ => cases hv
    | _ =>
      simp only [tSeq, tIfS, tTest, tOp, tVar, L2.tC, tCB, tCons, tNil, tRet, tAsg, gName, gSub, tNot, tOr, tAnd, tFld, tB, tTru, tLM, tCallS, tMethW, tMakeW, tDrop, tNext, tUn, tTup, tLst, sFld, tChain, tAndV, tOrV, tNotV, tIf, tDNewK,
 qAddI, qAddS, qAddL, qMulI, qMulL, qSubI, qI, qUI, qEqS, qNeS, scNI, scIN, scNS, scSN, scNB, scBN, scNN, scII, scSS, scBB, scIS, scSI, scBS, scSB, qInL, qInT, qNiL, qNiT, qInDs, qNiDs, qInDi, qNiDi, qIxL, qIxT, qIxDs, qIxDi, qIxS, qSetL, qSetDs, qSetDi, qLenS, qLenL, qLenT, qLenD, qIs, okInt, okStr, okBool, okList, okTup, okDict, tyNon, tyBl, tyInt, tyStr, qTN, qTB, qTI, qTS, qTL, qLtI, qLeI, qGtI, qGeI, qApp, qCnt, qIdx, flN, flI, flS, flB, qIsL,
 isT_NoneType_int, isT_NoneType_str, isT_NoneType_bool, isT_NoneType_list, isT_NoneType_tuple, isT_NoneType_dict, isT_bool_int, isT_bool_str, isT_bool_bool, isT_bool_list, isT_bool_tuple, isT_bool_dict, isT_int_int, isT_int_str, isT_int_bool, isT_int_list, isT_int_tuple, isT_int_dict, isT_str_int, isT_str_str, isT_str_bool, isT_str_list, isT_str_tuple, isT_str_dict, isT_list_int, isT_list_str, isT_list_bool, isT_list_list, isT_list_tuple, isT_list_dict, isT_tuple_int, isT_tuple_str, isT_tuple_bool, isT_tuple_list, isT_tuple_tuple, isT_tuple_dict, isT_dict_int, isT_dict_str, isT_dict_bool, isT_dict_list, isT_dict_tuple, isT_dict_dict, cxB_K, WF, WE, List.getElem?_cons_zero, List.getElem?_cons_succ, Option.some.injEq, exists_eq_left', exists_eq_left, V.ref.injEq, V.int.injEq, V.str.injEq, V.bl.injEq, HO.ins.injEq, List.cons.injEq, and_true, true_and, exists_and_left, and_assoc, reduceCtorEq, false_and, and_false, exists_false, or_false, false_or, if_true, if_false, Bool.false_eq_true, Bool.not_true, Bool.not_false, ite_true, ite_false, List.mem_singleton, forall_eq, L2.start, List.map_cons, List.map_nil, List.length_cons, List.length_nil, List.replicate, List.cons_append, List.nil_append, Nat.sub_self, Nat.reduceAdd, Nat.reduceSub, List.set_cons_zero, List.set_cons_succ, L2.wipe, tYes, gCons, gNil, tCont, tAndF, tOrF, false_implies, L2.tSl, tNoPart, tPart, tBM, tyVs, Int.reduceLT, Int.reduceLE, CDiv, qSlS, tAug, qIpI, Int.zero_add, decide_true, decide_false, sz1, sz2, sz3, sz0, sz4, sz5, sz6, sz7, sz8, sz9, sz10, sz11, sz12, kV_s, kV_i, Nat.reduceLT, Nat.reduceLeDiff, true_implies, Option.isSome_some, Option.isSome_none, String.reduceBEq, Bool.or_false, Bool.or_true, Bool.false_or, Bool.true_or, Bool.and_true, Bool.and_false, Bool.true_and, Bool.false_and]
      exact hq
theorem wh_use {H : Hp} {v : V} {Q : VK} {E : XK} (h : (tyName H v).isSome = true) (q : Q (.bl (isInt v)) H) : sp_whole K [v] H Q E := ⟨v, rfl, h, q⟩
def sp_lput (K : PySem.W.Frag) : Sp := Sp.of (fun a : Addr × V × Int => [.ref a.1, a.2.1, .int a.2.2]) fun a H Q E => ∃ lk A ts, RepT K lk A ts H ∧ a.1 = A .tI ∧ (tyName H a.2.1).isSome = true ∧
  (runIx ts a.2.1 = none → ∀ H', Same H H' → Q (.str "NoTask") H') ∧ ∀ i t, runIx ts a.2.1 = some i → ts[i]? = some t →
  (t.rows.findIdx? (·.isNone) = none → ∀ H', Same H H' → Q (.str "TooMany") H') ∧
  ∀ j, t.rows.findIdx? (·.isNone) = some j → Q (.int j) (upd H (A (.aR i)) (.lst ((t.rows.set j (some a.2.2)).map optV)))
theorem ok__law_put (T : Tx K mg) : Fw P w K mg base 3 (ga K "_law_put") (sp_lput K) :=
  Fw.mk_of (T.d__law_put) sc__law_put (fun _ _ _ _ _ _ us hl => match us, hl with | [_, _, _], _ => rfl) (fun _ => rfl) fun cdv Ar outer s H a Q E hr hb => by
    have hu := hr.units
    refine ⟨_, (pss_one (L2N.ps_try_as (i := 3) rfl rfl sc__law_put.nd rfl rfl ⟨rfl, by decide, .inl T.g_PassError⟩ tkF (fun W1 pn1 xe1 tk1 po1 => by exact (pss_one (ps_ret (pe_methW (pv 0) (m_Tasks_put T) (hr.mono (by decide)) (fun σ => L2N.passAt tk1 σ) (pa_cons (pv 1) (pa_cons (pv 2) pa_nil)))))) (fun a1 oe1 cls1 d1 pn1 hz1 hf1 => by exact (pss_one (ps_ret (pe_callX (a := a1) rfl (ok__law_word T) (rmH hr (by decide)) (hotE_suite hz1 hf1) T.g__law_word (fun σ => passNo σ) (pa_cons (pv 3) pa_nil))))))), ?_⟩
    obtain ⟨p, v, n⟩ := a
    obtain ⟨lk, A, ts, R, hp, hv, he, hq⟩ := hb
    dsimp only at hp hv hq he
    subst hp
    simp only [tSeq, tIfS, tTest, tOp, tVar, L2.tC, tCB, tCons, tNil, tRet, tAsg, gName, gSub, tNot, tOr, tAnd, tFld, tB, tTru, tLM, tCallS, tMethW, tMakeW, tDrop, tNext, tUn, tTup, tLst, sFld, tChain, tAndV, tOrV, tNotV, tIf, tDNewK,
 qAddI, qAddS, qAddL, qMulI, qMulL, qSubI, qI, qUI, qEqS, qNeS, scNI, scIN, scNS, scSN, scNB, scBN, scNN, scII, scSS, scBB, scIS, scSI, scBS, scSB, qInL, qInT, qNiL, qNiT, qInDs, qNiDs, qInDi, qNiDi, qIxL, qIxT, qIxDs, qIxDi, qIxS, qSetL, qSetDs, qSetDi, qLenS, qLenL, qLenT, qLenD, qIs, okInt, okStr, okBool, okList, okTup, okDict, tyNon, tyBl, tyInt, tyStr, qTN, qTB, qTI, qTS, qTL, qLtI, qLeI, qGtI, qGeI, qApp, qCnt, qIdx, flN, flI, flS, flB, qIsL,
 isT_NoneType_int, isT_NoneType_str, isT_NoneType_bool, isT_NoneType_list, isT_NoneType_tuple, isT_NoneType_dict, isT_bool_int, isT_bool_str, isT_bool_bool, isT_bool_list, isT_bool_tuple, isT_bool_dict, isT_int_int, isT_int_str, isT_int_bool, isT_int_list, isT_int_tuple, isT_int_dict, isT_str_int, isT_str_str, isT_str_bool, isT_str_list, isT_str_tuple, isT_str_dict, isT_list_int, isT_list_str, isT_list_bool, isT_list_list, isT_list_tuple, isT_list_dict, isT_tuple_int, isT_tuple_str, isT_tuple_bool, isT_tuple_list, isT_tuple_tuple, isT_tuple_dict, isT_dict_int, isT_dict_str, isT_dict_bool, isT_dict_list, isT_dict_tuple, isT_dict_dict, cxB_K, WF, WE, List.getElem?_cons_zero, List.getElem?_cons_succ, Option.some.injEq, exists_eq_left', exists_eq_left, V.ref.injEq, V.int.injEq, V.str.injEq, V.bl.injEq, HO.ins.injEq, List.cons.injEq, and_true, true_and, exists_and_left, and_assoc, reduceCtorEq, false_and, and_false, exists_false, or_false, false_or, if_true, if_false, Bool.false_eq_true, Bool.not_true, Bool.not_false, ite_true, ite_false, List.mem_singleton, forall_eq, L2.start, List.map_cons, List.map_nil, List.length_cons, List.length_nil, List.replicate, List.cons_append, List.nil_append, Nat.sub_self, Nat.reduceAdd, Nat.reduceSub, List.set_cons_zero, List.set_cons_succ, L2.wipe, tYes, gCons, gNil, tCont, tAndF, tOrF, false_implies, L2.tSl, tNoPart, tPart, tBM, tyVs, Int.reduceLT, Int.reduceLE, CDiv, qSlS, tAug, qIpI, Int.zero_add, decide_true, decide_false, sz1, sz2, sz3, sz0, sz4, sz5, sz6, sz7, sz8, sz9, sz10, sz11, sz12, kV_s, kV_i, Nat.reduceLT, Nat.reduceLeDiff, true_implies, Option.isSome_some, Option.isSome_none, String.reduceBEq, Bool.or_false, Bool.or_true, Bool.false_or, Bool.true_or, Bool.and_true, Bool.and_false, Bool.true_and, Bool.false_and, R.tI, T.c_Tasks, T.na_Tasks_known, lk_known]
    refine ⟨rfl, (A .tI, v, n), rfl, lk, A, ts, R, rfl, hv, fun hn => ?_, fun i t hi et => ⟨fun hf => ?_, fun j hj => ?_⟩⟩
    · simp only [tSeq, tIfS, tTest, tOp, tVar, L2.tC, tCB, tCons, tNil, tRet, tAsg, gName, gSub, tNot, tOr, tAnd, tFld, tB, tTru, tLM, tCallS, tMethW, tMakeW, tDrop, tNext, tUn, tTup, tLst, sFld, tChain, tAndV, tOrV, tNotV, tIf, tDNewK,
 qAddI, qAddS, qAddL, qMulI, qMulL, qSubI, qI, qUI, qEqS, qNeS, scNI, scIN, scNS, scSN, scNB, scBN, scNN, scII, scSS, scBB, scIS, scSI, scBS, scSB, qInL, qInT, qNiL, qNiT, qInDs, qNiDs, qInDi, qNiDi, qIxL, qIxT, qIxDs, qIxDi, qIxS, qSetL, qSetDs, qSetDi, qLenS, qLenL, qLenT, qLenD, qIs, okInt, okStr, okBool, okList, okTup, okDict, tyNon, tyBl, tyInt, tyStr, qTN, qTB, qTI, qTS, qTL, qLtI, qLeI, qGtI, qGeI, qApp, qCnt, qIdx, flN, flI, flS, flB, qIsL,
 isT_NoneType_int, isT_NoneType_str, isT_NoneType_bool, isT_NoneType_list, isT_NoneType_tuple, isT_NoneType_dict, isT_bool_int, isT_bool_str, isT_bool_bool, isT_bool_list, isT_bool_tuple, isT_bool_dict, isT_int_int, isT_int_str, isT_int_bool, isT_int_list, isT_int_tuple, isT_int_dict, isT_str_int, isT_str_str, isT_str_bool, isT_str_list, isT_str_tuple, isT_str_dict, isT_list_int, isT_list_str, isT_list_bool, isT_list_list, isT_list_tuple, isT_list_dict, isT_tuple_int, isT_tuple_str, isT_tuple_bool, isT_tuple_list, isT_tuple_tuple, isT_tuple_dict, isT_dict_int, isT_dict_str, isT_dict_bool, isT_dict_list, isT_dict_tuple, isT_dict_dict, cxB_K, WF, WE, List.getElem?_cons_zero, List.getElem?_cons_succ, Option.some.injEq, exists_eq_left', exists_eq_left, V.ref.injEq, V.int.injEq, V.str.injEq, V.bl.injEq, HO.ins.injEq, List.cons.injEq, and_true, true_and, exists_and_left, and_assoc, reduceCtorEq, false_and, and_false, exists_false, or_false, false_or, if_true, if_false, Bool.false_eq_true, Bool.not_true, Bool.not_false, ite_true, ite_false, List.mem_singleton, forall_eq, L2.start, List.map_cons, List.map_nil, List.length_cons, List.length_nil, List.replicate, List.cons_append, List.nil_append, Nat.sub_self, Nat.reduceAdd, Nat.reduceSub, List.set_cons_zero, List.set_cons_succ, L2.wipe, tYes, gCons, gNil, tCont, tAndF, tOrF, false_implies, L2.tSl, tNoPart, tPart, tBM, tyVs, Int.reduceLT, Int.reduceLE, CDiv, qSlS, tAug, qIpI, Int.zero_add, decide_true, decide_false, sz1, sz2, sz3, sz0, sz4, sz5, sz6, sz7, sz8, sz9, sz10, sz11, sz12, kV_s, kV_i, Nat.reduceLT, Nat.reduceLeDiff, true_implies, Option.isSome_some, Option.isSome_none, String.reduceBEq, Bool.or_false, Bool.or_true, Bool.false_or, Bool.true_or, Bool.and_true, Bool.and_false, Bool.true_and, Bool.false_and, wAs, tCallX, T.m_NoTask]
      intro a ha
      exact ⟨a, rfl, rfl, rfl, "NoTask", .inl rfl, rfl, he hn⟩
    · simp only [tSeq, tIfS, tTest, tOp, tVar, L2.tC, tCB, tCons, tNil, tRet, tAsg, gName, gSub, tNot, tOr, tAnd, tFld, tB, tTru, tLM, tCallS, tMethW, tMakeW, tDrop, tNext, tUn, tTup, tLst, sFld, tChain, tAndV, tOrV, tNotV, tIf, tDNewK,
 qAddI, qAddS, qAddL, qMulI, qMulL, qSubI, qI, qUI, qEqS, qNeS, scNI, scIN, scNS, scSN, scNB, scBN, scNN, scII, scSS, scBB, scIS, scSI, scBS, scSB, qInL, qInT, qNiL, qNiT, qInDs, qNiDs, qInDi, qNiDi, qIxL, qIxT, qIxDs, qIxDi, qIxS, qSetL, qSetDs, qSetDi, qLenS, qLenL, qLenT, qLenD, qIs, okInt, okStr, okBool, okList, okTup, okDict, tyNon, tyBl, tyInt, tyStr, qTN, qTB, qTI, qTS, qTL, qLtI, qLeI, qGtI, qGeI, qApp, qCnt, qIdx, flN, flI, flS, flB, qIsL,
 isT_NoneType_int, isT_NoneType_str, isT_NoneType_bool, isT_NoneType_list, isT_NoneType_tuple, isT_NoneType_dict, isT_bool_int, isT_bool_str, isT_bool_bool, isT_bool_list, isT_bool_tuple, isT_bool_dict, isT_int_int, isT_int_str, isT_int_bool, isT_int_list, isT_int_tuple, isT_int_dict, isT_str_int, isT_str_str, isT_str_bool, isT_str_list, isT_str_tuple, isT_str_dict, isT_list_int, isT_list_str, isT_list_bool, isT_list_list, isT_list_tuple, isT_list_dict, isT_tuple_int, isT_tuple_str, isT_tuple_bool, isT_tuple_list, isT_tuple_tuple, isT_tuple_dict, isT_dict_int, isT_dict_str, isT_dict_bool, isT_dict_list, isT_dict_tuple, isT_dict_dict, cxB_K, WF, WE, List.getElem?_cons_zero, List.getElem?_cons_succ, Option.some.injEq, exists_eq_left', exists_eq_left, V.ref.injEq, V.int.injEq, V.str.injEq, V.bl.injEq, HO.ins.injEq, List.cons.injEq, and_true, true_and, exists_and_left, and_assoc, reduceCtorEq, false_and, and_false, exists_false, or_false, false_or, if_true, if_false, Bool.false_eq_true, Bool.not_true, Bool.not_false, ite_true, ite_false, List.mem_singleton, forall_eq, L2.start, List.map_cons, List.map_nil, List.length_cons, List.length_nil, List.replicate, List.cons_append, List.nil_append, Nat.sub_self, Nat.reduceAdd, Nat.reduceSub, List.set_cons_zero, List.set_cons_succ, L2.wipe, tYes, gCons, gNil, tCont, tAndF, tOrF, false_implies, L2.tSl, tNoPart, tPart, tBM, tyVs, Int.reduceLT, Int.reduceLE, CDiv, qSlS, tAug, qIpI, Int.zero_add, decide_true, decide_false, sz1, sz2, sz3, sz0, sz4, sz5, sz6, sz7, sz8, sz9, sz10, sz11, sz12, kV_s, kV_i, Nat.reduceLT, Nat.reduceLeDiff, true_implies, Option.isSome_some, Option.isSome_none, String.reduceBEq, Bool.or_false, Bool.or_true, Bool.false_or, Bool.true_or, Bool.and_true, Bool.and_false, Bool.true_and, Bool.false_and, wAs, tCallX, T.m_TooMany]
      intro a ha
      exact ⟨a, rfl, rfl, rfl, "TooMany", .inr (.inl rfl), rfl, (hq i t hi et).1 hf⟩
    · exact (hq i t hi et).2 j hj
def sp_lat (K : PySem.W.Frag) : Sp := Sp.of (fun a : Addr × V × V => [.ref a.1, a.2.1, a.2.2]) fun a H Q E => ∃ lk A ts, RepT K lk A ts H ∧ a.1 = A .tI ∧ (tyName H a.2.1).isSome = true ∧ (tyName H a.2.2).isSome = true ∧
  (runIx ts a.2.1 = none → ∀ H', Same H H' → Q (.str "NoTask") H') ∧ ∀ i t, runIx ts a.2.1 = some i → ts[i]? = some t →
  (atT t.rows a.2.2 = none → ∀ H', Same H H' → Q (.str "NoHandle") H') ∧ ∀ n, atT t.rows a.2.2 = some n → Q (.int n) H
theorem ok__law_at (T : Tx K mg) : Fw P w K mg base 3 (ga K "_law_at") (sp_lat K) :=
  Fw.mk_of (T.d__law_at) sc__law_at (fun _ _ _ _ _ _ us hl => match us, hl with | [_, _, _], _ => rfl) (fun _ => rfl) fun cdv Ar outer s H a Q E hr hb => by
    have hu := hr.units
    refine ⟨_, (pss_one (L2N.ps_try_as (i := 3) rfl rfl sc__law_at.nd rfl rfl ⟨rfl, by decide, .inl T.g_PassError⟩ tkF (fun W1 pn1 xe1 tk1 po1 => by exact (pss_one (ps_ret (pe_methW (pv 0) (m_Tasks_at T) (hr.mono (by decide)) (fun σ => L2N.passAt tk1 σ) (pa_cons (pv 1) (pa_cons (pv 2) pa_nil)))))) (fun a1 oe1 cls1 d1 pn1 hz1 hf1 => by exact (pss_one (ps_ret (pe_callX (a := a1) rfl (ok__law_word T) (rmH hr (by decide)) (hotE_suite hz1 hf1) T.g__law_word (fun σ => passNo σ) (pa_cons (pv 3) pa_nil))))))), ?_⟩
    obtain ⟨p, v, k⟩ := a
    obtain ⟨lk, A, ts, R, hp, hv, hk, he, hq⟩ := hb
    dsimp only at hp hv hq he hk
    subst hp
    simp only [tSeq, tIfS, tTest, tOp, tVar, L2.tC, tCB, tCons, tNil, tRet, tAsg, gName, gSub, tNot, tOr, tAnd, tFld, tB, tTru, tLM, tCallS, tMethW, tMakeW, tDrop, tNext, tUn, tTup, tLst, sFld, tChain, tAndV, tOrV, tNotV, tIf, tDNewK,
 qAddI, qAddS, qAddL, qMulI, qMulL, qSubI, qI, qUI, qEqS, qNeS, scNI, scIN, scNS, scSN, scNB, scBN, scNN, scII, scSS, scBB, scIS, scSI, scBS, scSB, qInL, qInT, qNiL, qNiT, qInDs, qNiDs, qInDi, qNiDi, qIxL, qIxT, qIxDs, qIxDi, qIxS, qSetL, qSetDs, qSetDi, qLenS, qLenL, qLenT, qLenD, qIs, okInt, okStr, okBool, okList, okTup, okDict, tyNon, tyBl, tyInt, tyStr, qTN, qTB, qTI, qTS, qTL, qLtI, qLeI, qGtI, qGeI, qApp, qCnt, qIdx, flN, flI, flS, flB, qIsL,
 isT_NoneType_int, isT_NoneType_str, isT_NoneType_bool, isT_NoneType_list, isT_NoneType_tuple, isT_NoneType_dict, isT_bool_int, isT_bool_str, isT_bool_bool, isT_bool_list, isT_bool_tuple, isT_bool_dict, isT_int_int, isT_int_str, isT_int_bool, isT_int_list, isT_int_tuple, isT_int_dict, isT_str_int, isT_str_str, isT_str_bool, isT_str_list, isT_str_tuple, isT_str_dict, isT_list_int, isT_list_str, isT_list_bool, isT_list_list, isT_list_tuple, isT_list_dict, isT_tuple_int, isT_tuple_str, isT_tuple_bool, isT_tuple_list, isT_tuple_tuple, isT_tuple_dict, isT_dict_int, isT_dict_str, isT_dict_bool, isT_dict_list, isT_dict_tuple, isT_dict_dict, cxB_K, WF, WE, List.getElem?_cons_zero, List.getElem?_cons_succ, Option.some.injEq, exists_eq_left', exists_eq_left, V.ref.injEq, V.int.injEq, V.str.injEq, V.bl.injEq, HO.ins.injEq, List.cons.injEq, and_true, true_and, exists_and_left, and_assoc, reduceCtorEq, false_and, and_false, exists_false, or_false, false_or, if_true, if_false, Bool.false_eq_true, Bool.not_true, Bool.not_false, ite_true, ite_false, List.mem_singleton, forall_eq, L2.start, List.map_cons, List.map_nil, List.length_cons, List.length_nil, List.replicate, List.cons_append, List.nil_append, Nat.sub_self, Nat.reduceAdd, Nat.reduceSub, List.set_cons_zero, List.set_cons_succ, L2.wipe, tYes, gCons, gNil, tCont, tAndF, tOrF, false_implies, L2.tSl, tNoPart, tPart, tBM, tyVs, Int.reduceLT, Int.reduceLE, CDiv, qSlS, tAug, qIpI, Int.zero_add, decide_true, decide_false, sz1, sz2, sz3, sz0, sz4, sz5, sz6, sz7, sz8, sz9, sz10, sz11, sz12, kV_s, kV_i, Nat.reduceLT, Nat.reduceLeDiff, true_implies, Option.isSome_some, Option.isSome_none, String.reduceBEq, Bool.or_false, Bool.or_true, Bool.false_or, Bool.true_or, Bool.and_true, Bool.and_false, Bool.true_and, Bool.false_and, R.tI, T.c_Tasks, T.na_Tasks_known, lk_known]
    refine ⟨rfl, (A .tI, v, k), rfl, lk, A, ts, R, rfl, hv, hk, fun hn => ?_, fun i t hi et => ⟨fun hf => ?_, fun j hj => ?_⟩⟩
    · simp only [tSeq, tIfS, tTest, tOp, tVar, L2.tC, tCB, tCons, tNil, tRet, tAsg, gName, gSub, tNot, tOr, tAnd, tFld, tB, tTru, tLM, tCallS, tMethW, tMakeW, tDrop, tNext, tUn, tTup, tLst, sFld, tChain, tAndV, tOrV, tNotV, tIf, tDNewK,
 qAddI, qAddS, qAddL, qMulI, qMulL, qSubI, qI, qUI, qEqS, qNeS, scNI, scIN, scNS, scSN, scNB, scBN, scNN, scII, scSS, scBB, scIS, scSI, scBS, scSB, qInL, qInT, qNiL, qNiT, qInDs, qNiDs, qInDi, qNiDi, qIxL, qIxT, qIxDs, qIxDi, qIxS, qSetL, qSetDs, qSetDi, qLenS, qLenL, qLenT, qLenD, qIs, okInt, okStr, okBool, okList, okTup, okDict, tyNon, tyBl, tyInt, tyStr, qTN, qTB, qTI, qTS, qTL, qLtI, qLeI, qGtI, qGeI, qApp, qCnt, qIdx, flN, flI, flS, flB, qIsL,
 isT_NoneType_int, isT_NoneType_str, isT_NoneType_bool, isT_NoneType_list, isT_NoneType_tuple, isT_NoneType_dict, isT_bool_int, isT_bool_str, isT_bool_bool, isT_bool_list, isT_bool_tuple, isT_bool_dict, isT_int_int, isT_int_str, isT_int_bool, isT_int_list, isT_int_tuple, isT_int_dict, isT_str_int, isT_str_str, isT_str_bool, isT_str_list, isT_str_tuple, isT_str_dict, isT_list_int, isT_list_str, isT_list_bool, isT_list_list, isT_list_tuple, isT_list_dict, isT_tuple_int, isT_tuple_str, isT_tuple_bool, isT_tuple_list, isT_tuple_tuple, isT_tuple_dict, isT_dict_int, isT_dict_str, isT_dict_bool, isT_dict_list, isT_dict_tuple, isT_dict_dict, cxB_K, WF, WE, List.getElem?_cons_zero, List.getElem?_cons_succ, Option.some.injEq, exists_eq_left', exists_eq_left, V.ref.injEq, V.int.injEq, V.str.injEq, V.bl.injEq, HO.ins.injEq, List.cons.injEq, and_true, true_and, exists_and_left, and_assoc, reduceCtorEq, false_and, and_false, exists_false, or_false, false_or, if_true, if_false, Bool.false_eq_true, Bool.not_true, Bool.not_false, ite_true, ite_false, List.mem_singleton, forall_eq, L2.start, List.map_cons, List.map_nil, List.length_cons, List.length_nil, List.replicate, List.cons_append, List.nil_append, Nat.sub_self, Nat.reduceAdd, Nat.reduceSub, List.set_cons_zero, List.set_cons_succ, L2.wipe, tYes, gCons, gNil, tCont, tAndF, tOrF, false_implies, L2.tSl, tNoPart, tPart, tBM, tyVs, Int.reduceLT, Int.reduceLE, CDiv, qSlS, tAug, qIpI, Int.zero_add, decide_true, decide_false, sz1, sz2, sz3, sz0, sz4, sz5, sz6, sz7, sz8, sz9, sz10, sz11, sz12, kV_s, kV_i, Nat.reduceLT, Nat.reduceLeDiff, true_implies, Option.isSome_some, Option.isSome_none, String.reduceBEq, Bool.or_false, Bool.or_true, Bool.false_or, Bool.true_or, Bool.and_true, Bool.and_false, Bool.true_and, Bool.false_and, wAs, tCallX, T.m_NoTask]
      intro a ha
      exact ⟨a, rfl, rfl, rfl, "NoTask", .inl rfl, rfl, he hn⟩
    · simp only [tSeq, tIfS, tTest, tOp, tVar, L2.tC, tCB, tCons, tNil, tRet, tAsg, gName, gSub, tNot, tOr, tAnd, tFld, tB, tTru, tLM, tCallS, tMethW, tMakeW, tDrop, tNext, tUn, tTup, tLst, sFld, tChain, tAndV, tOrV, tNotV, tIf, tDNewK,
 qAddI, qAddS, qAddL, qMulI, qMulL, qSubI, qI, qUI, qEqS, qNeS, scNI, scIN, scNS, scSN, scNB, scBN, scNN, scII, scSS, scBB, scIS, scSI, scBS, scSB, qInL, qInT, qNiL, qNiT, qInDs, qNiDs, qInDi, qNiDi, qIxL, qIxT, qIxDs, qIxDi, qIxS, qSetL, qSetDs, qSetDi, qLenS, qLenL, qLenT, qLenD, qIs, okInt, okStr, okBool, okList, okTup, okDict, tyNon, tyBl, tyInt, tyStr, qTN, qTB, qTI, qTS, qTL, qLtI, qLeI, qGtI, qGeI, qApp, qCnt, qIdx, flN, flI, flS, flB, qIsL,
 isT_NoneType_int, isT_NoneType_str, isT_NoneType_bool, isT_NoneType_list, isT_NoneType_tuple, isT_NoneType_dict, isT_bool_int, isT_bool_str, isT_bool_bool, isT_bool_list, isT_bool_tuple, isT_bool_dict, isT_int_int, isT_int_str, isT_int_bool, isT_int_list, isT_int_tuple, isT_int_dict, isT_str_int, isT_str_str, isT_str_bool, isT_str_list, isT_str_tuple, isT_str_dict, isT_list_int, isT_list_str, isT_list_bool, isT_list_list, isT_list_tuple, isT_list_dict, isT_tuple_int, isT_tuple_str, isT_tuple_bool, isT_tuple_list, isT_tuple_tuple, isT_tuple_dict, isT_dict_int, isT_dict_str, isT_dict_bool, isT_dict_list, isT_dict_tuple, isT_dict_dict, cxB_K, WF, WE, List.getElem?_cons_zero, List.getElem?_cons_succ, Option.some.injEq, exists_eq_left', exists_eq_left, V.ref.injEq, V.int.injEq, V.str.injEq, V.bl.injEq, HO.ins.injEq, List.cons.injEq, and_true, true_and, exists_and_left, and_assoc, reduceCtorEq, false_and, and_false, exists_false, or_false, false_or, if_true, if_false, Bool.false_eq_true, Bool.not_true, Bool.not_false, ite_true, ite_false, List.mem_singleton, forall_eq, L2.start, List.map_cons, List.map_nil, List.length_cons, List.length_nil, List.replicate, List.cons_append, List.nil_append, Nat.sub_self, Nat.reduceAdd, Nat.reduceSub, List.set_cons_zero, List.set_cons_succ, L2.wipe, tYes, gCons, gNil, tCont, tAndF, tOrF, false_implies, L2.tSl, tNoPart, tPart, tBM, tyVs, Int.reduceLT, Int.reduceLE, CDiv, qSlS, tAug, qIpI, Int.zero_add, decide_true, decide_false, sz1, sz2, sz3, sz0, sz4, sz5, sz6, sz7, sz8, sz9, sz10, sz11, sz12, kV_s, kV_i, Nat.reduceLT, Nat.reduceLeDiff, true_implies, Option.isSome_some, Option.isSome_none, String.reduceBEq, Bool.or_false, Bool.or_true, Bool.false_or, Bool.true_or, Bool.and_true, Bool.and_false, Bool.true_and, Bool.false_and, wAs, tCallX, T.m_NoHandle]
      intro a ha
      exact ⟨a, rfl, rfl, rfl, "NoHandle", .inr (.inr rfl), rfl, (hq i t hi et).1 hf⟩
    · exact (hq i t hi et).2 j hj
def sp_lref (K : PySem.W.Frag) : Sp := Sp.of (fun a : Addr × V × Int => [.ref a.1, a.2.1, .int a.2.2]) fun a H Q E => ∃ lk A ts, RepT K lk A ts H ∧ a.1 = A .tI ∧ (tyName H a.2.1).isSome = true ∧
  runIx ts a.2.1 = none ∧ ∀ H', Same H H' → Q (.str "NoTask") H'
theorem ok__law_refused (T : Tx K mg) : Fw P w K mg base 3 (ga K "_law_refused") (sp_lref K) :=
  Fw.mk_of (T.d__law_refused) sc__law_refused (fun _ _ _ _ _ _ us hl => match us, hl with | [_, _, _], _ => rfl) (fun _ => rfl) fun cdv Ar outer s H a Q E hr hb => by
    have hu := hr.units
    refine ⟨_, (pss_cons (L2N.ps_try_as (i := 3) rfl rfl sc__law_refused.nd rfl rfl ⟨rfl, by decide, .inl T.g_PassError⟩ tkF (fun W1 pn1 xe1 tk1 po1 => by exact (pss_one (ps_if (pt_cmpR (op_eqFB (K := K) rfl hu) (pv 2) pe_int (nomark _)) (pss_one (ps_expr (pe_methW (pv 0) (m_Tasks_free T) (hr.mono (by decide)) (fun σ => L2N.passAt tk1 σ) (pa_cons (pv 1) pa_nil)))) (pss_one (ps_expr (pe_methW (pv 0) (m_Tasks_slots T) (hr.mono (by decide)) (fun σ => L2N.passAt tk1 σ) (pa_cons (pv 1) pa_nil))))))) (fun a1 oe1 cls1 d1 pn1 hz1 hf1 => by exact (pss_one (ps_ret (pe_callX (a := a1) rfl (ok__law_word T) (rmH hr (by decide)) (hotE_suite hz1 hf1) T.g__law_word (fun σ => passNo σ) (pa_cons (pv 3) pa_nil))))))
    (pss_one (ps_ret pe_str))), ?_⟩
    obtain ⟨p, v, n⟩ := a
    obtain ⟨lk, A, ts, R, hp, hv, hn, hq⟩ := hb
    dsimp only at hp hv hq hn
    subst hp
    simp only [tSeq, tIfS, tTest, tOp, tVar, L2.tC, tCB, tCons, tNil, tRet, tAsg, gName, gSub, tNot, tOr, tAnd, tFld, tB, tTru, tLM, tCallS, tMethW, tMakeW, tDrop, tNext, tUn, tTup, tLst, sFld, tChain, tAndV, tOrV, tNotV, tIf, tDNewK,
 qAddI, qAddS, qAddL, qMulI, qMulL, qSubI, qI, qUI, qEqS, qNeS, scNI, scIN, scNS, scSN, scNB, scBN, scNN, scII, scSS, scBB, scIS, scSI, scBS, scSB, qInL, qInT, qNiL, qNiT, qInDs, qNiDs, qInDi, qNiDi, qIxL, qIxT, qIxDs, qIxDi, qIxS, qSetL, qSetDs, qSetDi, qLenS, qLenL, qLenT, qLenD, qIs, okInt, okStr, okBool, okList, okTup, okDict, tyNon, tyBl, tyInt, tyStr, qTN, qTB, qTI, qTS, qTL, qLtI, qLeI, qGtI, qGeI, qApp, qCnt, qIdx, flN, flI, flS, flB, qIsL,
 isT_NoneType_int, isT_NoneType_str, isT_NoneType_bool, isT_NoneType_list, isT_NoneType_tuple, isT_NoneType_dict, isT_bool_int, isT_bool_str, isT_bool_bool, isT_bool_list, isT_bool_tuple, isT_bool_dict, isT_int_int, isT_int_str, isT_int_bool, isT_int_list, isT_int_tuple, isT_int_dict, isT_str_int, isT_str_str, isT_str_bool, isT_str_list, isT_str_tuple, isT_str_dict, isT_list_int, isT_list_str, isT_list_bool, isT_list_list, isT_list_tuple, isT_list_dict, isT_tuple_int, isT_tuple_str, isT_tuple_bool, isT_tuple_list, isT_tuple_tuple, isT_tuple_dict, isT_dict_int, isT_dict_str, isT_dict_bool, isT_dict_list, isT_dict_tuple, isT_dict_dict, cxB_K, WF, WE, List.getElem?_cons_zero, List.getElem?_cons_succ, Option.some.injEq, exists_eq_left', exists_eq_left, V.ref.injEq, V.int.injEq, V.str.injEq, V.bl.injEq, HO.ins.injEq, List.cons.injEq, and_true, true_and, exists_and_left, and_assoc, reduceCtorEq, false_and, and_false, exists_false, or_false, false_or, if_true, if_false, Bool.false_eq_true, Bool.not_true, Bool.not_false, ite_true, ite_false, List.mem_singleton, forall_eq, L2.start, List.map_cons, List.map_nil, List.length_cons, List.length_nil, List.replicate, List.cons_append, List.nil_append, Nat.sub_self, Nat.reduceAdd, Nat.reduceSub, List.set_cons_zero, List.set_cons_succ, L2.wipe, tYes, gCons, gNil, tCont, tAndF, tOrF, false_implies, L2.tSl, tNoPart, tPart, tBM, tyVs, Int.reduceLT, Int.reduceLE, CDiv, qSlS, tAug, qIpI, Int.zero_add, decide_true, decide_false, sz1, sz2, sz3, sz0, sz4, sz5, sz6, sz7, sz8, sz9, sz10, sz11, sz12, kV_s, kV_i, Nat.reduceLT, Nat.reduceLeDiff, true_implies, Option.isSome_some, Option.isSome_none, String.reduceBEq, Bool.or_false, Bool.or_true, Bool.false_or, Bool.true_or, Bool.and_true, Bool.and_false, Bool.true_and, Bool.false_and, R.tI, T.c_Tasks, T.na_Tasks_known, lk_known]
    by_cases h0 : n = 0
    · subst h0
      simp only [tSeq, tIfS, tTest, tOp, tVar, L2.tC, tCB, tCons, tNil, tRet, tAsg, gName, gSub, tNot, tOr, tAnd, tFld, tB, tTru, tLM, tCallS, tMethW, tMakeW, tDrop, tNext, tUn, tTup, tLst, sFld, tChain, tAndV, tOrV, tNotV, tIf, tDNewK,
 qAddI, qAddS, qAddL, qMulI, qMulL, qSubI, qI, qUI, qEqS, qNeS, scNI, scIN, scNS, scSN, scNB, scBN, scNN, scII, scSS, scBB, scIS, scSI, scBS, scSB, qInL, qInT, qNiL, qNiT, qInDs, qNiDs, qInDi, qNiDi, qIxL, qIxT, qIxDs, qIxDi, qIxS, qSetL, qSetDs, qSetDi, qLenS, qLenL, qLenT, qLenD, qIs, okInt, okStr, okBool, okList, okTup, okDict, tyNon, tyBl, tyInt, tyStr, qTN, qTB, qTI, qTS, qTL, qLtI, qLeI, qGtI, qGeI, qApp, qCnt, qIdx, flN, flI, flS, flB, qIsL,
 isT_NoneType_int, isT_NoneType_str, isT_NoneType_bool, isT_NoneType_list, isT_NoneType_tuple, isT_NoneType_dict, isT_bool_int, isT_bool_str, isT_bool_bool, isT_bool_list, isT_bool_tuple, isT_bool_dict, isT_int_int, isT_int_str, isT_int_bool, isT_int_list, isT_int_tuple, isT_int_dict, isT_str_int, isT_str_str, isT_str_bool, isT_str_list, isT_str_tuple, isT_str_dict, isT_list_int, isT_list_str, isT_list_bool, isT_list_list, isT_list_tuple, isT_list_dict, isT_tuple_int, isT_tuple_str, isT_tuple_bool, isT_tuple_list, isT_tuple_tuple, isT_tuple_dict, isT_dict_int, isT_dict_str, isT_dict_bool, isT_dict_list, isT_dict_tuple, isT_dict_dict, cxB_K, WF, WE, List.getElem?_cons_zero, List.getElem?_cons_succ, Option.some.injEq, exists_eq_left', exists_eq_left, V.ref.injEq, V.int.injEq, V.str.injEq, V.bl.injEq, HO.ins.injEq, List.cons.injEq, and_true, true_and, exists_and_left, and_assoc, reduceCtorEq, false_and, and_false, exists_false, or_false, false_or, if_true, if_false, Bool.false_eq_true, Bool.not_true, Bool.not_false, ite_true, ite_false, List.mem_singleton, forall_eq, L2.start, List.map_cons, List.map_nil, List.length_cons, List.length_nil, List.replicate, List.cons_append, List.nil_append, Nat.sub_self, Nat.reduceAdd, Nat.reduceSub, List.set_cons_zero, List.set_cons_succ, L2.wipe, tYes, gCons, gNil, tCont, tAndF, tOrF, false_implies, L2.tSl, tNoPart, tPart, tBM, tyVs, Int.reduceLT, Int.reduceLE, CDiv, qSlS, tAug, qIpI, Int.zero_add, decide_true, decide_false, sz1, sz2, sz3, sz0, sz4, sz5, sz6, sz7, sz8, sz9, sz10, sz11, sz12, kV_s, kV_i, Nat.reduceLT, Nat.reduceLeDiff, true_implies, Option.isSome_some, Option.isSome_none, String.reduceBEq, Bool.or_false, Bool.or_true, Bool.false_or, Bool.true_or, Bool.and_true, Bool.and_false, Bool.true_and, Bool.false_and]
      refine ⟨rfl, (A .tI, v), rfl, lk, A, ts, R, rfl, hv, fun i t hi _ => (by rw [hn] at hi; cases hi), fun _ => ?_⟩
      simp only [tSeq, tIfS, tTest, tOp, tVar, L2.tC, tCB, tCons, tNil, tRet, tAsg, gName, gSub, tNot, tOr, tAnd, tFld, tB, tTru, tLM, tCallS, tMethW, tMakeW, tDrop, tNext, tUn, tTup, tLst, sFld, tChain, tAndV, tOrV, tNotV, tIf, tDNewK,
 qAddI, qAddS, qAddL, qMulI, qMulL, qSubI, qI, qUI, qEqS, qNeS, scNI, scIN, scNS, scSN, scNB, scBN, scNN, scII, scSS, scBB, scIS, scSI, scBS, scSB, qInL, qInT, qNiL, qNiT, qInDs, qNiDs, qInDi, qNiDi, qIxL, qIxT, qIxDs, qIxDi, qIxS, qSetL, qSetDs, qSetDi, qLenS, qLenL, qLenT, qLenD, qIs, okInt, okStr, okBool, okList, okTup, okDict, tyNon, tyBl, tyInt, tyStr, qTN, qTB, qTI, qTS, qTL, qLtI, qLeI, qGtI, qGeI, qApp, qCnt, qIdx, flN, flI, flS, flB, qIsL,
 isT_NoneType_int, isT_NoneType_str, isT_NoneType_bool, isT_NoneType_list, isT_NoneType_tuple, isT_NoneType_dict, isT_bool_int, isT_bool_str, isT_bool_bool, isT_bool_list, isT_bool_tuple, isT_bool_dict, isT_int_int, isT_int_str, isT_int_bool, isT_int_list, isT_int_tuple, isT_int_dict, isT_str_int, isT_str_str, isT_str_bool, isT_str_list, isT_str_tuple, isT_str_dict, isT_list_int, isT_list_str, isT_list_bool, isT_list_list, isT_list_tuple, isT_list_dict, isT_tuple_int, isT_tuple_str, isT_tuple_bool, isT_tuple_list, isT_tuple_tuple, isT_tuple_dict, isT_dict_int, isT_dict_str, isT_dict_bool, isT_dict_list, isT_dict_tuple, isT_dict_dict, cxB_K, WF, WE, List.getElem?_cons_zero, List.getElem?_cons_succ, Option.some.injEq, exists_eq_left', exists_eq_left, V.ref.injEq, V.int.injEq, V.str.injEq, V.bl.injEq, HO.ins.injEq, List.cons.injEq, and_true, true_and, exists_and_left, and_assoc, reduceCtorEq, false_and, and_false, exists_false, or_false, false_or, if_true, if_false, Bool.false_eq_true, Bool.not_true, Bool.not_false, ite_true, ite_false, List.mem_singleton, forall_eq, L2.start, List.map_cons, List.map_nil, List.length_cons, List.length_nil, List.replicate, List.cons_append, List.nil_append, Nat.sub_self, Nat.reduceAdd, Nat.reduceSub, List.set_cons_zero, List.set_cons_succ, L2.wipe, tYes, gCons, gNil, tCont, tAndF, tOrF, false_implies, L2.tSl, tNoPart, tPart, tBM, tyVs, Int.reduceLT, Int.reduceLE, CDiv, qSlS, tAug, qIpI, Int.zero_add, decide_true, decide_false, sz1, sz2, sz3, sz0, sz4, sz5, sz6, sz7, sz8, sz9, sz10, sz11, sz12, kV_s, kV_i, Nat.reduceLT, Nat.reduceLeDiff, true_implies, Option.isSome_some, Option.isSome_none, String.reduceBEq, Bool.or_false, Bool.or_true, Bool.false_or, Bool.true_or, Bool.and_true, Bool.and_false, Bool.true_and, Bool.false_and, wAs, tCallX, T.m_NoTask]
      intro a ha
      exact ⟨a, rfl, rfl, rfl, "NoTask", .inl rfl, rfl, hq⟩
    · simp only [tSeq, tIfS, tTest, tOp, tVar, L2.tC, tCB, tCons, tNil, tRet, tAsg, gName, gSub, tNot, tOr, tAnd, tFld, tB, tTru, tLM, tCallS, tMethW, tMakeW, tDrop, tNext, tUn, tTup, tLst, sFld, tChain, tAndV, tOrV, tNotV, tIf, tDNewK,
 qAddI, qAddS, qAddL, qMulI, qMulL, qSubI, qI, qUI, qEqS, qNeS, scNI, scIN, scNS, scSN, scNB, scBN, scNN, scII, scSS, scBB, scIS, scSI, scBS, scSB, qInL, qInT, qNiL, qNiT, qInDs, qNiDs, qInDi, qNiDi, qIxL, qIxT, qIxDs, qIxDi, qIxS, qSetL, qSetDs, qSetDi, qLenS, qLenL, qLenT, qLenD, qIs, okInt, okStr, okBool, okList, okTup, okDict, tyNon, tyBl, tyInt, tyStr, qTN, qTB, qTI, qTS, qTL, qLtI, qLeI, qGtI, qGeI, qApp, qCnt, qIdx, flN, flI, flS, flB, qIsL,
 isT_NoneType_int, isT_NoneType_str, isT_NoneType_bool, isT_NoneType_list, isT_NoneType_tuple, isT_NoneType_dict, isT_bool_int, isT_bool_str, isT_bool_bool, isT_bool_list, isT_bool_tuple, isT_bool_dict, isT_int_int, isT_int_str, isT_int_bool, isT_int_list, isT_int_tuple, isT_int_dict, isT_str_int, isT_str_str, isT_str_bool, isT_str_list, isT_str_tuple, isT_str_dict, isT_list_int, isT_list_str, isT_list_bool, isT_list_list, isT_list_tuple, isT_list_dict, isT_tuple_int, isT_tuple_str, isT_tuple_bool, isT_tuple_list, isT_tuple_tuple, isT_tuple_dict, isT_dict_int, isT_dict_str, isT_dict_bool, isT_dict_list, isT_dict_tuple, isT_dict_dict, cxB_K, WF, WE, List.getElem?_cons_zero, List.getElem?_cons_succ, Option.some.injEq, exists_eq_left', exists_eq_left, V.ref.injEq, V.int.injEq, V.str.injEq, V.bl.injEq, HO.ins.injEq, List.cons.injEq, and_true, true_and, exists_and_left, and_assoc, reduceCtorEq, false_and, and_false, exists_false, or_false, false_or, if_true, if_false, Bool.false_eq_true, Bool.not_true, Bool.not_false, ite_true, ite_false, List.mem_singleton, forall_eq, L2.start, List.map_cons, List.map_nil, List.length_cons, List.length_nil, List.replicate, List.cons_append, List.nil_append, Nat.sub_self, Nat.reduceAdd, Nat.reduceSub, List.set_cons_zero, List.set_cons_succ, L2.wipe, tYes, gCons, gNil, tCont, tAndF, tOrF, false_implies, L2.tSl, tNoPart, tPart, tBM, tyVs, Int.reduceLT, Int.reduceLE, CDiv, qSlS, tAug, qIpI, Int.zero_add, decide_true, decide_false, sz1, sz2, sz3, sz0, sz4, sz5, sz6, sz7, sz8, sz9, sz10, sz11, sz12, kV_s, kV_i, Nat.reduceLT, Nat.reduceLeDiff, true_implies, Option.isSome_some, Option.isSome_none, String.reduceBEq, Bool.or_false, Bool.or_true, Bool.false_or, Bool.true_or, Bool.and_true, Bool.and_false, Bool.true_and, Bool.false_and, h0]
      refine ⟨rfl, (A .tI, v), rfl, lk, A, ts, R, rfl, hv, fun _ => ?_, fun i t hi _ => (by rw [hn] at hi; cases hi)⟩
      simp only [tSeq, tIfS, tTest, tOp, tVar, L2.tC, tCB, tCons, tNil, tRet, tAsg, gName, gSub, tNot, tOr, tAnd, tFld, tB, tTru, tLM, tCallS, tMethW, tMakeW, tDrop, tNext, tUn, tTup, tLst, sFld, tChain, tAndV, tOrV, tNotV, tIf, tDNewK,
 qAddI, qAddS, qAddL, qMulI, qMulL, qSubI, qI, qUI, qEqS, qNeS, scNI, scIN, scNS, scSN, scNB, scBN, scNN, scII, scSS, scBB, scIS, scSI, scBS, scSB, qInL, qInT, qNiL, qNiT, qInDs, qNiDs, qInDi, qNiDi, qIxL, qIxT, qIxDs, qIxDi, qIxS, qSetL, qSetDs, qSetDi, qLenS, qLenL, qLenT, qLenD, qIs, okInt, okStr, okBool, okList, okTup, okDict, tyNon, tyBl, tyInt, tyStr, qTN, qTB, qTI, qTS, qTL, qLtI, qLeI, qGtI, qGeI, qApp, qCnt, qIdx, flN, flI, flS, flB, qIsL,
 isT_NoneType_int, isT_NoneType_str, isT_NoneType_bool, isT_NoneType_list, isT_NoneType_tuple, isT_NoneType_dict, isT_bool_int, isT_bool_str, isT_bool_bool, isT_bool_list, isT_bool_tuple, isT_bool_dict, isT_int_int, isT_int_str, isT_int_bool, isT_int_list, isT_int_tuple, isT_int_dict, isT_str_int, isT_str_str, isT_str_bool, isT_str_list, isT_str_tuple, isT_str_dict, isT_list_int, isT_list_str, isT_list_bool, isT_list_list, isT_list_tuple, isT_list_dict, isT_tuple_int, isT_tuple_str, isT_tuple_bool, isT_tuple_list, isT_tuple_tuple, isT_tuple_dict, isT_dict_int, isT_dict_str, isT_dict_bool, isT_dict_list, isT_dict_tuple, isT_dict_dict, cxB_K, WF, WE, List.getElem?_cons_zero, List.getElem?_cons_succ, Option.some.injEq, exists_eq_left', exists_eq_left, V.ref.injEq, V.int.injEq, V.str.injEq, V.bl.injEq, HO.ins.injEq, List.cons.injEq, and_true, true_and, exists_and_left, and_assoc, reduceCtorEq, false_and, and_false, exists_false, or_false, false_or, if_true, if_false, Bool.false_eq_true, Bool.not_true, Bool.not_false, ite_true, ite_false, List.mem_singleton, forall_eq, L2.start, List.map_cons, List.map_nil, List.length_cons, List.length_nil, List.replicate, List.cons_append, List.nil_append, Nat.sub_self, Nat.reduceAdd, Nat.reduceSub, List.set_cons_zero, List.set_cons_succ, L2.wipe, tYes, gCons, gNil, tCont, tAndF, tOrF, false_implies, L2.tSl, tNoPart, tPart, tBM, tyVs, Int.reduceLT, Int.reduceLE, CDiv, qSlS, tAug, qIpI, Int.zero_add, decide_true, decide_false, sz1, sz2, sz3, sz0, sz4, sz5, sz6, sz7, sz8, sz9, sz10, sz11, sz12, kV_s, kV_i, Nat.reduceLT, Nat.reduceLeDiff, true_implies, Option.isSome_some, Option.isSome_none, String.reduceBEq, Bool.or_false, Bool.or_true, Bool.false_or, Bool.true_or, Bool.and_true, Bool.and_false, Bool.true_and, Bool.false_and, wAs, tCallX, T.m_NoTask]
      intro a ha
      exact ⟨a, rfl, rfl, rfl, "NoTask", .inl rfl, rfl, hq⟩
def sp_lfree (K : PySem.W.Frag) : Sp := Sp.of (fun a : Addr × Str × Addr => [.ref a.1, .str a.2.1, .ref a.2.2]) fun a H Q E => ∃ lk A ts i t, RepT K lk A ts H ∧ a.1 = A .tI ∧ runIx ts (.str a.2.1) = some i ∧ ts[i]? = some t ∧ H a.2.2 = some (.lst (t.rows.map optV)) ∧ Q (.bl true) H
theorem ok__law_free (T : Tx K mg) : Fw P w K mg base 3 (ga K "_law_free") (sp_lfree K) :=
  Fw.mk_of (T.d__law_free) sc__law_free (fun _ _ _ _ _ _ us hl => match us, hl with | [_, _, _], _ => rfl) (fun _ => rfl) fun cdv Ar outer s H a Q E hr hb => by
    have hu := hr.units
    refine ⟨_, (pss_cons (ps_set (i := 3) sc__law_free.nd rfl (by first | exact Or.inl rfl | exact Or.inr rfl) (pe_methW (pv 0) (m_Tasks_free T) (hr.mono (by decide)) (fun σ => L2N.passAt tkF σ) (pa_cons (pv 1) pa_nil)))
    (pss_one (ps_ret (pe_andF (pe_callW (ok__law_whole T) (hr.mono (by decide)) T.g__law_whole (fun σ => L2N.passAt tkF σ) (pa_cons (pv 3) pa_nil)) (pe_one (pe_cmpR (op_eqF hu) (pv 3) (pe_lm PySem.F.slot_list_count PySem.F.type_list_count mt_cntF (pv 2) (pa_cons pe_non pa_nil)) (nomark _))))))), ?_⟩
    obtain ⟨p, z, b⟩ := a
    obtain ⟨lk, A, ts, i, t, R, hp, hi, et, hb, hq⟩ := hb
    dsimp only at hp hi hb
    subst hp
    simp only [tSeq, tIfS, tTest, tOp, tVar, L2.tC, tCB, tCons, tNil, tRet, tAsg, gName, gSub, tNot, tOr, tAnd, tFld, tB, tTru, tLM, tCallS, tMethW, tMakeW, tDrop, tNext, tUn, tTup, tLst, sFld, tChain, tAndV, tOrV, tNotV, tIf, tDNewK,
 qAddI, qAddS, qAddL, qMulI, qMulL, qSubI, qI, qUI, qEqS, qNeS, scNI, scIN, scNS, scSN, scNB, scBN, scNN, scII, scSS, scBB, scIS, scSI, scBS, scSB, qInL, qInT, qNiL, qNiT, qInDs, qNiDs, qInDi, qNiDi, qIxL, qIxT, qIxDs, qIxDi, qIxS, qSetL, qSetDs, qSetDi, qLenS, qLenL, qLenT, qLenD, qIs, okInt, okStr, okBool, okList, okTup, okDict, tyNon, tyBl, tyInt, tyStr, qTN, qTB, qTI, qTS, qTL, qLtI, qLeI, qGtI, qGeI, qApp, qCnt, qIdx, flN, flI, flS, flB, qIsL,
 isT_NoneType_int, isT_NoneType_str, isT_NoneType_bool, isT_NoneType_list, isT_NoneType_tuple, isT_NoneType_dict, isT_bool_int, isT_bool_str, isT_bool_bool, isT_bool_list, isT_bool_tuple, isT_bool_dict, isT_int_int, isT_int_str, isT_int_bool, isT_int_list, isT_int_tuple, isT_int_dict, isT_str_int, isT_str_str, isT_str_bool, isT_str_list, isT_str_tuple, isT_str_dict, isT_list_int, isT_list_str, isT_list_bool, isT_list_list, isT_list_tuple, isT_list_dict, isT_tuple_int, isT_tuple_str, isT_tuple_bool, isT_tuple_list, isT_tuple_tuple, isT_tuple_dict, isT_dict_int, isT_dict_str, isT_dict_bool, isT_dict_list, isT_dict_tuple, isT_dict_dict, cxB_K, WF, WE, List.getElem?_cons_zero, List.getElem?_cons_succ, Option.some.injEq, exists_eq_left', exists_eq_left, V.ref.injEq, V.int.injEq, V.str.injEq, V.bl.injEq, HO.ins.injEq, List.cons.injEq, and_true, true_and, exists_and_left, and_assoc, reduceCtorEq, false_and, and_false, exists_false, or_false, false_or, if_true, if_false, Bool.false_eq_true, Bool.not_true, Bool.not_false, ite_true, ite_false, List.mem_singleton, forall_eq, L2.start, List.map_cons, List.map_nil, List.length_cons, List.length_nil, List.replicate, List.cons_append, List.nil_append, Nat.sub_self, Nat.reduceAdd, Nat.reduceSub, List.set_cons_zero, List.set_cons_succ, L2.wipe, tYes, gCons, gNil, tCont, tAndF, tOrF, false_implies, L2.tSl, tNoPart, tPart, tBM, tyVs, Int.reduceLT, Int.reduceLE, CDiv, qSlS, tAug, qIpI, Int.zero_add, decide_true, decide_false, sz1, sz2, sz3, sz0, sz4, sz5, sz6, sz7, sz8, sz9, sz10, sz11, sz12, kV_s, kV_i, Nat.reduceLT, Nat.reduceLeDiff, true_implies, Option.isSome_some, Option.isSome_none, String.reduceBEq, Bool.or_false, Bool.or_true, Bool.false_or, Bool.true_or, Bool.and_true, Bool.and_false, Bool.true_and, Bool.false_and, R.tI, T.c_Tasks, T.na_Tasks_known, lk_known]
    refine ⟨rfl, (A .tI, .str z), rfl, lk, A, ts, R, rfl, rfl, fun i' t' hi' et' => ?_, fun hn => ?_⟩
    · dsimp only at hi'
      rw [hi] at hi'
      cases hi'
      rw [et] at et'
      cases et'
      refine wh_use (H := H) (v := .int _) rfl ?_
      simp only [tSeq, tIfS, tTest, tOp, tVar, L2.tC, tCB, tCons, tNil, tRet, tAsg, gName, gSub, tNot, tOr, tAnd, tFld, tB, tTru, tLM, tCallS, tMethW, tMakeW, tDrop, tNext, tUn, tTup, tLst, sFld, tChain, tAndV, tOrV, tNotV, tIf, tDNewK,
 qAddI, qAddS, qAddL, qMulI, qMulL, qSubI, qI, qUI, qEqS, qNeS, scNI, scIN, scNS, scSN, scNB, scBN, scNN, scII, scSS, scBB, scIS, scSI, scBS, scSB, qInL, qInT, qNiL, qNiT, qInDs, qNiDs, qInDi, qNiDi, qIxL, qIxT, qIxDs, qIxDi, qIxS, qSetL, qSetDs, qSetDi, qLenS, qLenL, qLenT, qLenD, qIs, okInt, okStr, okBool, okList, okTup, okDict, tyNon, tyBl, tyInt, tyStr, qTN, qTB, qTI, qTS, qTL, qLtI, qLeI, qGtI, qGeI, qApp, qCnt, qIdx, flN, flI, flS, flB, qIsL,
 isT_NoneType_int, isT_NoneType_str, isT_NoneType_bool, isT_NoneType_list, isT_NoneType_tuple, isT_NoneType_dict, isT_bool_int, isT_bool_str, isT_bool_bool, isT_bool_list, isT_bool_tuple, isT_bool_dict, isT_int_int, isT_int_str, isT_int_bool, isT_int_list, isT_int_tuple, isT_int_dict, isT_str_int, isT_str_str, isT_str_bool, isT_str_list, isT_str_tuple, isT_str_dict, isT_list_int, isT_list_str, isT_list_bool, isT_list_list, isT_list_tuple, isT_list_dict, isT_tuple_int, isT_tuple_str, isT_tuple_bool, isT_tuple_list, isT_tuple_tuple, isT_tuple_dict, isT_dict_int, isT_dict_str, isT_dict_bool, isT_dict_list, isT_dict_tuple, isT_dict_dict, cxB_K, WF, WE, List.getElem?_cons_zero, List.getElem?_cons_succ, Option.some.injEq, exists_eq_left', exists_eq_left, V.ref.injEq, V.int.injEq, V.str.injEq, V.bl.injEq, HO.ins.injEq, List.cons.injEq, and_true, true_and, exists_and_left, and_assoc, reduceCtorEq, false_and, and_false, exists_false, or_false, false_or, if_true, if_false, Bool.false_eq_true, Bool.not_true, Bool.not_false, ite_true, ite_false, List.mem_singleton, forall_eq, L2.start, List.map_cons, List.map_nil, List.length_cons, List.length_nil, List.replicate, List.cons_append, List.nil_append, Nat.sub_self, Nat.reduceAdd, Nat.reduceSub, List.set_cons_zero, List.set_cons_succ, L2.wipe, tYes, gCons, gNil, tCont, tAndF, tOrF, false_implies, L2.tSl, tNoPart, tPart, tBM, tyVs, Int.reduceLT, Int.reduceLE, CDiv, qSlS, tAug, qIpI, Int.zero_add, decide_true, decide_false, sz1, sz2, sz3, sz0, sz4, sz5, sz6, sz7, sz8, sz9, sz10, sz11, sz12, kV_s, kV_i, Nat.reduceLT, Nat.reduceLeDiff, true_implies, Option.isSome_some, Option.isSome_none, String.reduceBEq, Bool.or_false, Bool.or_true, Bool.false_or, Bool.true_or, Bool.and_true, Bool.and_false, Bool.true_and, Bool.false_and, isInt, isLst, hb, rCntFF, flatV, flat_optV, count_non]
      exact hq
    · dsimp only at hn
      rw [hi] at hn
      cases hn
def sp_pdue (K : PySem.W.Frag) : Sp := Sp.of (fun a : Addr × Str × Int => [.ref a.1, .str a.2.1, .int a.2.2]) fun a H Q E => ∃ B ts i t, RepL a.1 B ts H ∧ findT ts a.2.1 = some i ∧ ts[i]? = some t ∧
  (t.rows.findIdx? (·.isNone) = none → Q (.str "TooMany") H) ∧ ∀ j, t.rows.findIdx? (·.isNone) = some j → Q (.int j) (upd H (B i) (.lst ((t.rows.set j (some a.2.2)).map optV)))
theorem ok__law_put_due (T : Tx K mg) : Fw P w K mg base 1 (ga K "_law_put_due") (sp_pdue K) :=
  Fw.mk_of (T.d__law_put_due) sc__law_put_due (fun _ _ _ _ _ _ us hl => match us, hl with | [_, _, _], _ => rfl) (fun _ => rfl) fun cdv Ar outer s H a Q E hr hb => by
    have hu := hr.units
    refine ⟨_, (pss_cons (ps_if (pt_cmpR (op_notInF hu) (pv 1) (pv 0) (by rfl)) (pss_one (ps_ret pe_str)) pss_nil)
    (pss_cons (ps_if (pt_cmpR (op_notInF hu) pe_non (pe_ix (ix_F hu) (pv 0) (pv 1) (fun _ _ => rfl)) (by rfl)) (pss_one (ps_ret pe_str)) pss_nil)
    (pss_cons (ps_set (i := 3) sc__law_put_due.nd rfl (by first | exact Or.inl rfl | exact Or.inr rfl) (pe_lm PySem.F.slot_list_index PySem.F.type_list_index mt_idxF (pe_ix (ix_F hu) (pv 0) (pv 1) (fun _ _ => rfl)) (pa_cons pe_non pa_nil)))
    (pss_cons (ps_asg (pv 2) (pg_sub (pe_ix (ix_F hu) (pv 0) (pv 1) (fun _ _ => rfl)) (pv 3) (set_F hu)))
    (pss_one (ps_ret (pv 3))))))), ?_⟩
    obtain ⟨p, z, n⟩ := a
    obtain ⟨B, ts, i, t, R, hf, et, hq1, hq2⟩ := hb
    dsimp only at R hf hq1 hq2
    have rk : Rd H p (.dK (lKvs B ts)) := .inl R.dk
    have vk := R.val z
    rw [hf, Option.map_some] at vk
    have hc := R.at_ i t et
    simp only [tSeq, tIfS, tTest, tOp, tVar, L2.tC, tCB, tCons, tNil, tRet, tAsg, gName, gSub, tNot, tOr, tAnd, tFld, tB, tTru, tLM, tCallS, tMethW, tMakeW, tDrop, tNext, tUn, tTup, tLst, sFld, tChain, tAndV, tOrV, tNotV, tIf, tDNewK,
 qAddI, qAddS, qAddL, qMulI, qMulL, qSubI, qI, qUI, qEqS, qNeS, scNI, scIN, scNS, scSN, scNB, scBN, scNN, scII, scSS, scBB, scIS, scSI, scBS, scSB, qInL, qInT, qNiL, qNiT, qInDs, qNiDs, qInDi, qNiDi, qIxL, qIxT, qIxDs, qIxDi, qIxS, qSetL, qSetDs, qSetDi, qLenS, qLenL, qLenT, qLenD, qIs, okInt, okStr, okBool, okList, okTup, okDict, tyNon, tyBl, tyInt, tyStr, qTN, qTB, qTI, qTS, qTL, qLtI, qLeI, qGtI, qGeI, qApp, qCnt, qIdx, flN, flI, flS, flB, qIsL,
 isT_NoneType_int, isT_NoneType_str, isT_NoneType_bool, isT_NoneType_list, isT_NoneType_tuple, isT_NoneType_dict, isT_bool_int, isT_bool_str, isT_bool_bool, isT_bool_list, isT_bool_tuple, isT_bool_dict, isT_int_int, isT_int_str, isT_int_bool, isT_int_list, isT_int_tuple, isT_int_dict, isT_str_int, isT_str_str, isT_str_bool, isT_str_list, isT_str_tuple, isT_str_dict, isT_list_int, isT_list_str, isT_list_bool, isT_list_list, isT_list_tuple, isT_list_dict, isT_tuple_int, isT_tuple_str, isT_tuple_bool, isT_tuple_list, isT_tuple_tuple, isT_tuple_dict, isT_dict_int, isT_dict_str, isT_dict_bool, isT_dict_list, isT_dict_tuple, isT_dict_dict, cxB_K, WF, WE, List.getElem?_cons_zero, List.getElem?_cons_succ, Option.some.injEq, exists_eq_left', exists_eq_left, V.ref.injEq, V.int.injEq, V.str.injEq, V.bl.injEq, HO.ins.injEq, List.cons.injEq, and_true, true_and, exists_and_left, and_assoc, reduceCtorEq, false_and, and_false, exists_false, or_false, false_or, if_true, if_false, Bool.false_eq_true, Bool.not_true, Bool.not_false, ite_true, ite_false, List.mem_singleton, forall_eq, L2.start, List.map_cons, List.map_nil, List.length_cons, List.length_nil, List.replicate, List.cons_append, List.nil_append, Nat.sub_self, Nat.reduceAdd, Nat.reduceSub, List.set_cons_zero, List.set_cons_succ, L2.wipe, tYes, gCons, gNil, tCont, tAndF, tOrF, false_implies, L2.tSl, tNoPart, tPart, tBM, tyVs, Int.reduceLT, Int.reduceLE, CDiv, qSlS, tAug, qIpI, Int.zero_add, decide_true, decide_false, sz1, sz2, sz3, sz0, sz4, sz5, sz6, sz7, sz8, sz9, sz10, sz11, sz12, kV_s, kV_i, Nat.reduceLT, Nat.reduceLeDiff, true_implies, Option.isSome_some, Option.isSome_none, String.reduceBEq, Bool.or_false, Bool.or_true, Bool.false_or, Bool.true_or, Bool.and_true, Bool.and_false, Bool.true_and, Bool.false_and, qNiDs rk, qIxDs rk, vk, qNiL hc flN (flat_optV _), Option.isSome_some, inV_non, contains_none, hc, isLst, rIdxF, flatV, flat_optV, idx_non]
    cases f : t.rows.findIdx? (·.isNone) with
    | none =>
      simp only [tSeq, tIfS, tTest, tOp, tVar, L2.tC, tCB, tCons, tNil, tRet, tAsg, gName, gSub, tNot, tOr, tAnd, tFld, tB, tTru, tLM, tCallS, tMethW, tMakeW, tDrop, tNext, tUn, tTup, tLst, sFld, tChain, tAndV, tOrV, tNotV, tIf, tDNewK,
 qAddI, qAddS, qAddL, qMulI, qMulL, qSubI, qI, qUI, qEqS, qNeS, scNI, scIN, scNS, scSN, scNB, scBN, scNN, scII, scSS, scBB, scIS, scSI, scBS, scSB, qInL, qInT, qNiL, qNiT, qInDs, qNiDs, qInDi, qNiDi, qIxL, qIxT, qIxDs, qIxDi, qIxS, qSetL, qSetDs, qSetDi, qLenS, qLenL, qLenT, qLenD, qIs, okInt, okStr, okBool, okList, okTup, okDict, tyNon, tyBl, tyInt, tyStr, qTN, qTB, qTI, qTS, qTL, qLtI, qLeI, qGtI, qGeI, qApp, qCnt, qIdx, flN, flI, flS, flB, qIsL,
 isT_NoneType_int, isT_NoneType_str, isT_NoneType_bool, isT_NoneType_list, isT_NoneType_tuple, isT_NoneType_dict, isT_bool_int, isT_bool_str, isT_bool_bool, isT_bool_list, isT_bool_tuple, isT_bool_dict, isT_int_int, isT_int_str, isT_int_bool, isT_int_list, isT_int_tuple, isT_int_dict, isT_str_int, isT_str_str, isT_str_bool, isT_str_list, isT_str_tuple, isT_str_dict, isT_list_int, isT_list_str, isT_list_bool, isT_list_list, isT_list_tuple, isT_list_dict, isT_tuple_int, isT_tuple_str, isT_tuple_bool, isT_tuple_list, isT_tuple_tuple, isT_tuple_dict, isT_dict_int, isT_dict_str, isT_dict_bool, isT_dict_list, isT_dict_tuple, isT_dict_dict, cxB_K, WF, WE, List.getElem?_cons_zero, List.getElem?_cons_succ, Option.some.injEq, exists_eq_left', exists_eq_left, V.ref.injEq, V.int.injEq, V.str.injEq, V.bl.injEq, HO.ins.injEq, List.cons.injEq, and_true, true_and, exists_and_left, and_assoc, reduceCtorEq, false_and, and_false, exists_false, or_false, false_or, if_true, if_false, Bool.false_eq_true, Bool.not_true, Bool.not_false, ite_true, ite_false, List.mem_singleton, forall_eq, L2.start, List.map_cons, List.map_nil, List.length_cons, List.length_nil, List.replicate, List.cons_append, List.nil_append, Nat.sub_self, Nat.reduceAdd, Nat.reduceSub, List.set_cons_zero, List.set_cons_succ, L2.wipe, tYes, gCons, gNil, tCont, tAndF, tOrF, false_implies, L2.tSl, tNoPart, tPart, tBM, tyVs, Int.reduceLT, Int.reduceLE, CDiv, qSlS, tAug, qIpI, Int.zero_add, decide_true, decide_false, sz1, sz2, sz3, sz0, sz4, sz5, sz6, sz7, sz8, sz9, sz10, sz11, sz12, kV_s, kV_i, Nat.reduceLT, Nat.reduceLeDiff, true_implies, Option.isSome_some, Option.isSome_none, String.reduceBEq, Bool.or_false, Bool.or_true, Bool.false_or, Bool.true_or, Bool.and_true, Bool.and_false, Bool.true_and, Bool.false_and]
      exact hq1 f
    | some j =>
      obtain ⟨hj, _, _⟩ := List.findIdx?_eq_some_iff_getElem.mp f
      simp only [tSeq, tIfS, tTest, tOp, tVar, L2.tC, tCB, tCons, tNil, tRet, tAsg, gName, gSub, tNot, tOr, tAnd, tFld, tB, tTru, tLM, tCallS, tMethW, tMakeW, tDrop, tNext, tUn, tTup, tLst, sFld, tChain, tAndV, tOrV, tNotV, tIf, tDNewK,
 qAddI, qAddS, qAddL, qMulI, qMulL, qSubI, qI, qUI, qEqS, qNeS, scNI, scIN, scNS, scSN, scNB, scBN, scNN, scII, scSS, scBB, scIS, scSI, scBS, scSB, qInL, qInT, qNiL, qNiT, qInDs, qNiDs, qInDi, qNiDi, qIxL, qIxT, qIxDs, qIxDi, qIxS, qSetL, qSetDs, qSetDi, qLenS, qLenL, qLenT, qLenD, qIs, okInt, okStr, okBool, okList, okTup, okDict, tyNon, tyBl, tyInt, tyStr, qTN, qTB, qTI, qTS, qTL, qLtI, qLeI, qGtI, qGeI, qApp, qCnt, qIdx, flN, flI, flS, flB, qIsL,
 isT_NoneType_int, isT_NoneType_str, isT_NoneType_bool, isT_NoneType_list, isT_NoneType_tuple, isT_NoneType_dict, isT_bool_int, isT_bool_str, isT_bool_bool, isT_bool_list, isT_bool_tuple, isT_bool_dict, isT_int_int, isT_int_str, isT_int_bool, isT_int_list, isT_int_tuple, isT_int_dict, isT_str_int, isT_str_str, isT_str_bool, isT_str_list, isT_str_tuple, isT_str_dict, isT_list_int, isT_list_str, isT_list_bool, isT_list_list, isT_list_tuple, isT_list_dict, isT_tuple_int, isT_tuple_str, isT_tuple_bool, isT_tuple_list, isT_tuple_tuple, isT_tuple_dict, isT_dict_int, isT_dict_str, isT_dict_bool, isT_dict_list, isT_dict_tuple, isT_dict_dict, cxB_K, WF, WE, List.getElem?_cons_zero, List.getElem?_cons_succ, Option.some.injEq, exists_eq_left', exists_eq_left, V.ref.injEq, V.int.injEq, V.str.injEq, V.bl.injEq, HO.ins.injEq, List.cons.injEq, and_true, true_and, exists_and_left, and_assoc, reduceCtorEq, false_and, and_false, exists_false, or_false, false_or, if_true, if_false, Bool.false_eq_true, Bool.not_true, Bool.not_false, ite_true, ite_false, List.mem_singleton, forall_eq, L2.start, List.map_cons, List.map_nil, List.length_cons, List.length_nil, List.replicate, List.cons_append, List.nil_append, Nat.sub_self, Nat.reduceAdd, Nat.reduceSub, List.set_cons_zero, List.set_cons_succ, L2.wipe, tYes, gCons, gNil, tCont, tAndF, tOrF, false_implies, L2.tSl, tNoPart, tPart, tBM, tyVs, Int.reduceLT, Int.reduceLE, CDiv, qSlS, tAug, qIpI, Int.zero_add, decide_true, decide_false, sz1, sz2, sz3, sz0, sz4, sz5, sz6, sz7, sz8, sz9, sz10, sz11, sz12, kV_s, kV_i, Nat.reduceLT, Nat.reduceLeDiff, true_implies, Option.isSome_some, Option.isSome_none, String.reduceBEq, Bool.or_false, Bool.or_true, Bool.false_or, Bool.true_or, Bool.and_true, Bool.and_false, Bool.true_and, Bool.false_and, qSetL hc, List.length_map, ixN_lt hj]
      have := hq2 j f
      rw [List.map_set] at this
      exact this
def sp_adue (K : PySem.W.Frag) : Sp := Sp.of (fun a : Addr × Str × V => [.ref a.1, .str a.2.1, a.2.2]) fun a H Q E => ∃ B ts i t, RepL a.1 B ts H ∧ findT ts a.2.1 = some i ∧ ts[i]? = some t ∧ t.rows.length = 16 ∧ (tyName H a.2.2).isSome = true ∧
  (atT t.rows a.2.2 = none → Q (.str "NoHandle") H) ∧ ∀ n, atT t.rows a.2.2 = some n → Q (.int n) H
theorem ok__law_at_due (T : Tx K mg) : Fw P w K mg base 2 (ga K "_law_at_due") (sp_adue K) :=
  Fw.mk_of (T.d__law_at_due) sc__law_at_due (fun _ _ _ _ _ _ us hl => match us, hl with | [_, _, _], _ => rfl) (fun _ => rfl) fun cdv Ar outer s H a Q E hr hb => by
    have hu := hr.units
    refine ⟨_, (pss_cons (ps_if (pt_cmpR (op_notInF hu) (pv 1) (pv 0) (by rfl)) (pss_one (ps_ret pe_str)) pss_nil)
    (pss_cons (ps_if (PW.pt (pw_or (pt_not (pt_truF (pe_callW (ok__law_whole T) (hr.mono (by decide)) T.g__law_whole (fun σ => L2N.passAt tkF σ) (pa_cons (pv 2) pa_nil)) (by intro _; rfl))) (pw_or (pt_not (pt_chain op_leF op_ltF pe_int (pv 2) pe_int)) (pw_or1 (pt_cmpR op_isN (pe_ix (ix_F hu) (pe_ix (ix_F hu) (pv 0) (pv 1) (fun _ _ => rfl)) (pv 2) (fun _ _ => rfl)) pe_non (nomark _)))))) (pss_one (ps_ret pe_str)) pss_nil)
    (pss_one (ps_ret (pe_ix (ix_F hu) (pe_ix (ix_F hu) (pv 0) (pv 1) (fun _ _ => rfl)) (pv 2) (fun _ _ => rfl)))))), ?_⟩
    obtain ⟨p, z, k⟩ := a
    obtain ⟨B, ts, i, t, R, hf, et, h16, hk, hq1, hq2⟩ := hb
    dsimp only at R hf hq1 hq2 hk
    have rk : Rd H p (.dK (lKvs B ts)) := .inl R.dk
    have vk := R.val z
    rw [hf, Option.map_some] at vk
    have hc := R.at_ i t et
    simp only [tSeq, tIfS, tTest, tOp, tVar, L2.tC, tCB, tCons, tNil, tRet, tAsg, gName, gSub, tNot, tOr, tAnd, tFld, tB, tTru, tLM, tCallS, tMethW, tMakeW, tDrop, tNext, tUn, tTup, tLst, sFld, tChain, tAndV, tOrV, tNotV, tIf, tDNewK,
 qAddI, qAddS, qAddL, qMulI, qMulL, qSubI, qI, qUI, qEqS, qNeS, scNI, scIN, scNS, scSN, scNB, scBN, scNN, scII, scSS, scBB, scIS, scSI, scBS, scSB, qInL, qInT, qNiL, qNiT, qInDs, qNiDs, qInDi, qNiDi, qIxL, qIxT, qIxDs, qIxDi, qIxS, qSetL, qSetDs, qSetDi, qLenS, qLenL, qLenT, qLenD, qIs, okInt, okStr, okBool, okList, okTup, okDict, tyNon, tyBl, tyInt, tyStr, qTN, qTB, qTI, qTS, qTL, qLtI, qLeI, qGtI, qGeI, qApp, qCnt, qIdx, flN, flI, flS, flB, qIsL,
 isT_NoneType_int, isT_NoneType_str, isT_NoneType_bool, isT_NoneType_list, isT_NoneType_tuple, isT_NoneType_dict, isT_bool_int, isT_bool_str, isT_bool_bool, isT_bool_list, isT_bool_tuple, isT_bool_dict, isT_int_int, isT_int_str, isT_int_bool, isT_int_list, isT_int_tuple, isT_int_dict, isT_str_int, isT_str_str, isT_str_bool, isT_str_list, isT_str_tuple, isT_str_dict, isT_list_int, isT_list_str, isT_list_bool, isT_list_list, isT_list_tuple, isT_list_dict, isT_tuple_int, isT_tuple_str, isT_tuple_bool, isT_tuple_list, isT_tuple_tuple, isT_tuple_dict, isT_dict_int, isT_dict_str, isT_dict_bool, isT_dict_list, isT_dict_tuple, isT_dict_dict, cxB_K, WF, WE, List.getElem?_cons_zero, List.getElem?_cons_succ, Option.some.injEq, exists_eq_left', exists_eq_left, V.ref.injEq, V.int.injEq, V.str.injEq, V.bl.injEq, HO.ins.injEq, List.cons.injEq, and_true, true_and, exists_and_left, and_assoc, reduceCtorEq, false_and, and_false, exists_false, or_false, false_or, if_true, if_false, Bool.false_eq_true, Bool.not_true, Bool.not_false, ite_true, ite_false, List.mem_singleton, forall_eq, L2.start, List.map_cons, List.map_nil, List.length_cons, List.length_nil, List.replicate, List.cons_append, List.nil_append, Nat.sub_self, Nat.reduceAdd, Nat.reduceSub, List.set_cons_zero, List.set_cons_succ, L2.wipe, tYes, gCons, gNil, tCont, tAndF, tOrF, false_implies, L2.tSl, tNoPart, tPart, tBM, tyVs, Int.reduceLT, Int.reduceLE, CDiv, qSlS, tAug, qIpI, Int.zero_add, decide_true, decide_false, sz1, sz2, sz3, sz0, sz4, sz5, sz6, sz7, sz8, sz9, sz10, sz11, sz12, kV_s, kV_i, Nat.reduceLT, Nat.reduceLeDiff, true_implies, Option.isSome_some, Option.isSome_none, String.reduceBEq, Bool.or_false, Bool.or_true, Bool.false_or, Bool.true_or, Bool.and_true, Bool.and_false, Bool.true_and, Bool.false_and, qNiDs rk, qIxDs rk, vk]
    refine wh_use hk ?_
    cases k with
    | int k =>
      by_cases h0 : 0 ≤ k ∧ k < 16
      · have ix : atI (t.rows.map optV) k = (t.rows[k.toNat]?).map optV := by
          unfold atI ixN
          simp [h0.1, h16, h0.2]
        have hlt : k.toNat < t.rows.length := by omega
        have e1 : t.rows[k.toNat]? = some t.rows[k.toNat] := List.getElem?_eq_getElem hlt
        cases r : t.rows[k.toNat] with
        | none =>
          simp only [tSeq, tIfS, tTest, tOp, tVar, L2.tC, tCB, tCons, tNil, tRet, tAsg, gName, gSub, tNot, tOr, tAnd, tFld, tB, tTru, tLM, tCallS, tMethW, tMakeW, tDrop, tNext, tUn, tTup, tLst, sFld, tChain, tAndV, tOrV, tNotV, tIf, tDNewK,
 qAddI, qAddS, qAddL, qMulI, qMulL, qSubI, qI, qUI, qEqS, qNeS, scNI, scIN, scNS, scSN, scNB, scBN, scNN, scII, scSS, scBB, scIS, scSI, scBS, scSB, qInL, qInT, qNiL, qNiT, qInDs, qNiDs, qInDi, qNiDi, qIxL, qIxT, qIxDs, qIxDi, qIxS, qSetL, qSetDs, qSetDi, qLenS, qLenL, qLenT, qLenD, qIs, okInt, okStr, okBool, okList, okTup, okDict, tyNon, tyBl, tyInt, tyStr, qTN, qTB, qTI, qTS, qTL, qLtI, qLeI, qGtI, qGeI, qApp, qCnt, qIdx, flN, flI, flS, flB, qIsL,
 isT_NoneType_int, isT_NoneType_str, isT_NoneType_bool, isT_NoneType_list, isT_NoneType_tuple, isT_NoneType_dict, isT_bool_int, isT_bool_str, isT_bool_bool, isT_bool_list, isT_bool_tuple, isT_bool_dict, isT_int_int, isT_int_str, isT_int_bool, isT_int_list, isT_int_tuple, isT_int_dict, isT_str_int, isT_str_str, isT_str_bool, isT_str_list, isT_str_tuple, isT_str_dict, isT_list_int, isT_list_str, isT_list_bool, isT_list_list, isT_list_tuple, isT_list_dict, isT_tuple_int, isT_tuple_str, isT_tuple_bool, isT_tuple_list, isT_tuple_tuple, isT_tuple_dict, isT_dict_int, isT_dict_str, isT_dict_bool, isT_dict_list, isT_dict_tuple, isT_dict_dict, cxB_K, WF, WE, List.getElem?_cons_zero, List.getElem?_cons_succ, Option.some.injEq, exists_eq_left', exists_eq_left, V.ref.injEq, V.int.injEq, V.str.injEq, V.bl.injEq, HO.ins.injEq, List.cons.injEq, and_true, true_and, exists_and_left, and_assoc, reduceCtorEq, false_and, and_false, exists_false, or_false, false_or, if_true, if_false, Bool.false_eq_true, Bool.not_true, Bool.not_false, ite_true, ite_false, List.mem_singleton, forall_eq, L2.start, List.map_cons, List.map_nil, List.length_cons, List.length_nil, List.replicate, List.cons_append, List.nil_append, Nat.sub_self, Nat.reduceAdd, Nat.reduceSub, List.set_cons_zero, List.set_cons_succ, L2.wipe, tYes, gCons, gNil, tCont, tAndF, tOrF, false_implies, L2.tSl, tNoPart, tPart, tBM, tyVs, Int.reduceLT, Int.reduceLE, CDiv, qSlS, tAug, qIpI, Int.zero_add, decide_true, decide_false, sz1, sz2, sz3, sz0, sz4, sz5, sz6, sz7, sz8, sz9, sz10, sz11, sz12, kV_s, kV_i, Nat.reduceLT, Nat.reduceLeDiff, true_implies, Option.isSome_some, Option.isSome_none, String.reduceBEq, Bool.or_false, Bool.or_true, Bool.false_or, Bool.true_or, Bool.and_true, Bool.and_false, Bool.true_and, Bool.false_and, isInt, qIxDs rk, vk, qIxL hc, ix, e1, r, Option.map_some, h0.1, h0.2, optV]
          exact hq1 (by simp [atT, h0, e1, r])
        | some n =>
          simp only [tSeq, tIfS, tTest, tOp, tVar, L2.tC, tCB, tCons, tNil, tRet, tAsg, gName, gSub, tNot, tOr, tAnd, tFld, tB, tTru, tLM, tCallS, tMethW, tMakeW, tDrop, tNext, tUn, tTup, tLst, sFld, tChain, tAndV, tOrV, tNotV, tIf, tDNewK,
 qAddI, qAddS, qAddL, qMulI, qMulL, qSubI, qI, qUI, qEqS, qNeS, scNI, scIN, scNS, scSN, scNB, scBN, scNN, scII, scSS, scBB, scIS, scSI, scBS, scSB, qInL, qInT, qNiL, qNiT, qInDs, qNiDs, qInDi, qNiDi, qIxL, qIxT, qIxDs, qIxDi, qIxS, qSetL, qSetDs, qSetDi, qLenS, qLenL, qLenT, qLenD, qIs, okInt, okStr, okBool, okList, okTup, okDict, tyNon, tyBl, tyInt, tyStr, qTN, qTB, qTI, qTS, qTL, qLtI, qLeI, qGtI, qGeI, qApp, qCnt, qIdx, flN, flI, flS, flB, qIsL,
 isT_NoneType_int, isT_NoneType_str, isT_NoneType_bool, isT_NoneType_list, isT_NoneType_tuple, isT_NoneType_dict, isT_bool_int, isT_bool_str, isT_bool_bool, isT_bool_list, isT_bool_tuple, isT_bool_dict, isT_int_int, isT_int_str, isT_int_bool, isT_int_list, isT_int_tuple, isT_int_dict, isT_str_int, isT_str_str, isT_str_bool, isT_str_list, isT_str_tuple, isT_str_dict, isT_list_int, isT_list_str, isT_list_bool, isT_list_list, isT_list_tuple, isT_list_dict, isT_tuple_int, isT_tuple_str, isT_tuple_bool, isT_tuple_list, isT_tuple_tuple, isT_tuple_dict, isT_dict_int, isT_dict_str, isT_dict_bool, isT_dict_list, isT_dict_tuple, isT_dict_dict, cxB_K, WF, WE, List.getElem?_cons_zero, List.getElem?_cons_succ, Option.some.injEq, exists_eq_left', exists_eq_left, V.ref.injEq, V.int.injEq, V.str.injEq, V.bl.injEq, HO.ins.injEq, List.cons.injEq, and_true, true_and, exists_and_left, and_assoc, reduceCtorEq, false_and, and_false, exists_false, or_false, false_or, if_true, if_false, Bool.false_eq_true, Bool.not_true, Bool.not_false, ite_true, ite_false, List.mem_singleton, forall_eq, L2.start, List.map_cons, List.map_nil, List.length_cons, List.length_nil, List.replicate, List.cons_append, List.nil_append, Nat.sub_self, Nat.reduceAdd, Nat.reduceSub, List.set_cons_zero, List.set_cons_succ, L2.wipe, tYes, gCons, gNil, tCont, tAndF, tOrF, false_implies, L2.tSl, tNoPart, tPart, tBM, tyVs, Int.reduceLT, Int.reduceLE, CDiv, qSlS, tAug, qIpI, Int.zero_add, decide_true, decide_false, sz1, sz2, sz3, sz0, sz4, sz5, sz6, sz7, sz8, sz9, sz10, sz11, sz12, kV_s, kV_i, Nat.reduceLT, Nat.reduceLeDiff, true_implies, Option.isSome_some, Option.isSome_none, String.reduceBEq, Bool.or_false, Bool.or_true, Bool.false_or, Bool.true_or, Bool.and_true, Bool.and_false, Bool.true_and, Bool.false_and, isInt, qIxDs rk, vk, qIxL hc, ix, e1, r, Option.map_some, h0.1, h0.2, optV]
          exact hq2 n (by simp [atT, h0, e1, r])
      · by_cases h1 : 0 ≤ k
        · have h2 : ¬ k < 16 := fun z => h0 ⟨h1, z⟩
          simp only [tSeq, tIfS, tTest, tOp, tVar, L2.tC, tCB, tCons, tNil, tRet, tAsg, gName, gSub, tNot, tOr, tAnd, tFld, tB, tTru, tLM, tCallS, tMethW, tMakeW, tDrop, tNext, tUn, tTup, tLst, sFld, tChain, tAndV, tOrV, tNotV, tIf, tDNewK,
 qAddI, qAddS, qAddL, qMulI, qMulL, qSubI, qI, qUI, qEqS, qNeS, scNI, scIN, scNS, scSN, scNB, scBN, scNN, scII, scSS, scBB, scIS, scSI, scBS, scSB, qInL, qInT, qNiL, qNiT, qInDs, qNiDs, qInDi, qNiDi, qIxL, qIxT, qIxDs, qIxDi, qIxS, qSetL, qSetDs, qSetDi, qLenS, qLenL, qLenT, qLenD, qIs, okInt, okStr, okBool, okList, okTup, okDict, tyNon, tyBl, tyInt, tyStr, qTN, qTB, qTI, qTS, qTL, qLtI, qLeI, qGtI, qGeI, qApp, qCnt, qIdx, flN, flI, flS, flB, qIsL,
 isT_NoneType_int, isT_NoneType_str, isT_NoneType_bool, isT_NoneType_list, isT_NoneType_tuple, isT_NoneType_dict, isT_bool_int, isT_bool_str, isT_bool_bool, isT_bool_list, isT_bool_tuple, isT_bool_dict, isT_int_int, isT_int_str, isT_int_bool, isT_int_list, isT_int_tuple, isT_int_dict, isT_str_int, isT_str_str, isT_str_bool, isT_str_list, isT_str_tuple, isT_str_dict, isT_list_int, isT_list_str, isT_list_bool, isT_list_list, isT_list_tuple, isT_list_dict, isT_tuple_int, isT_tuple_str, isT_tuple_bool, isT_tuple_list, isT_tuple_tuple, isT_tuple_dict, isT_dict_int, isT_dict_str, isT_dict_bool, isT_dict_list, isT_dict_tuple, isT_dict_dict, cxB_K, WF, WE, List.getElem?_cons_zero, List.getElem?_cons_succ, Option.some.injEq, exists_eq_left', exists_eq_left, V.ref.injEq, V.int.injEq, V.str.injEq, V.bl.injEq, HO.ins.injEq, List.cons.injEq, and_true, true_and, exists_and_left, and_assoc, reduceCtorEq, false_and, and_false, exists_false, or_false, false_or, if_true, if_false, Bool.false_eq_true, Bool.not_true, Bool.not_false, ite_true, ite_false, List.mem_singleton, forall_eq, L2.start, List.map_cons, List.map_nil, List.length_cons, List.length_nil, List.replicate, List.cons_append, List.nil_append, Nat.sub_self, Nat.reduceAdd, Nat.reduceSub, List.set_cons_zero, List.set_cons_succ, L2.wipe, tYes, gCons, gNil, tCont, tAndF, tOrF, false_implies, L2.tSl, tNoPart, tPart, tBM, tyVs, Int.reduceLT, Int.reduceLE, CDiv, qSlS, tAug, qIpI, Int.zero_add, decide_true, decide_false, sz1, sz2, sz3, sz0, sz4, sz5, sz6, sz7, sz8, sz9, sz10, sz11, sz12, kV_s, kV_i, Nat.reduceLT, Nat.reduceLeDiff, true_implies, Option.isSome_some, Option.isSome_none, String.reduceBEq, Bool.or_false, Bool.or_true, Bool.false_or, Bool.true_or, Bool.and_true, Bool.and_false, Bool.true_and, Bool.false_and, isInt, h1, h2]
          exact hq1 (by simp [atT, h2])
        · simp only [tSeq, tIfS, tTest, tOp, tVar, L2.tC, tCB, tCons, tNil, tRet, tAsg, gName, gSub, tNot, tOr, tAnd, tFld, tB, tTru, tLM, tCallS, tMethW, tMakeW, tDrop, tNext, tUn, tTup, tLst, sFld, tChain, tAndV, tOrV, tNotV, tIf, tDNewK,
 qAddI, qAddS, qAddL, qMulI, qMulL, qSubI, qI, qUI, qEqS, qNeS, scNI, scIN, scNS, scSN, scNB, scBN, scNN, scII, scSS, scBB, scIS, scSI, scBS, scSB, qInL, qInT, qNiL, qNiT, qInDs, qNiDs, qInDi, qNiDi, qIxL, qIxT, qIxDs, qIxDi, qIxS, qSetL, qSetDs, qSetDi, qLenS, qLenL, qLenT, qLenD, qIs, okInt, okStr, okBool, okList, okTup, okDict, tyNon, tyBl, tyInt, tyStr, qTN, qTB, qTI, qTS, qTL, qLtI, qLeI, qGtI, qGeI, qApp, qCnt, qIdx, flN, flI, flS, flB, qIsL,
 isT_NoneType_int, isT_NoneType_str, isT_NoneType_bool, isT_NoneType_list, isT_NoneType_tuple, isT_NoneType_dict, isT_bool_int, isT_bool_str, isT_bool_bool, isT_bool_list, isT_bool_tuple, isT_bool_dict, isT_int_int, isT_int_str, isT_int_bool, isT_int_list, isT_int_tuple, isT_int_dict, isT_str_int, isT_str_str, isT_str_bool, isT_str_list, isT_str_tuple, isT_str_dict, isT_list_int, isT_list_str, isT_list_bool, isT_list_list, isT_list_tuple, isT_list_dict, isT_tuple_int, isT_tuple_str, isT_tuple_bool, isT_tuple_list, isT_tuple_tuple, isT_tuple_dict, isT_dict_int, isT_dict_str, isT_dict_bool, isT_dict_list, isT_dict_tuple, isT_dict_dict, cxB_K, WF, WE, List.getElem?_cons_zero, List.getElem?_cons_succ, Option.some.injEq, exists_eq_left', exists_eq_left, V.ref.injEq, V.int.injEq, V.str.injEq, V.bl.injEq, HO.ins.injEq, List.cons.injEq, and_true, true_and, exists_and_left, and_assoc, reduceCtorEq, false_and, and_false, exists_false, or_false, false_or, if_true, if_false, Bool.false_eq_true, Bool.not_true, Bool.not_false, ite_true, ite_false, List.mem_singleton, forall_eq, L2.start, List.map_cons, List.map_nil, List.length_cons, List.length_nil, List.replicate, List.cons_append, List.nil_append, Nat.sub_self, Nat.reduceAdd, Nat.reduceSub, List.set_cons_zero, List.set_cons_succ, L2.wipe, tYes, gCons, gNil, tCont, tAndF, tOrF, false_implies, L2.tSl, tNoPart, tPart, tBM, tyVs, Int.reduceLT, Int.reduceLE, CDiv, qSlS, tAug, qIpI, Int.zero_add, decide_true, decide_false, sz1, sz2, sz3, sz0, sz4, sz5, sz6, sz7, sz8, sz9, sz10, sz11, sz12, kV_s, kV_i, Nat.reduceLT, Nat.reduceLeDiff, true_implies, Option.isSome_some, Option.isSome_none, String.reduceBEq, Bool.or_false, Bool.or_true, Bool.false_or, Bool.true_or, Bool.and_true, Bool.and_false, Bool.true_and, Bool.false_and, isInt, h1]
          exact hq1 (by simp [atT, h1])
    | byt _ => cases hk
    | flt _ => cases hk
    | ty _ => cases hk
    | _ =>
      have q := hq1 rfl
      simp only [tSeq, tIfS, tTest, tOp, tVar, L2.tC, tCB, tCons, tNil, tRet, tAsg, gName, gSub, tNot, tOr, tAnd, tFld, tB, tTru, tLM, tCallS, tMethW, tMakeW, tDrop, tNext, tUn, tTup, tLst, sFld, tChain, tAndV, tOrV, tNotV, tIf, tDNewK,
 qAddI, qAddS, qAddL, qMulI, qMulL, qSubI, qI, qUI, qEqS, qNeS, scNI, scIN, scNS, scSN, scNB, scBN, scNN, scII, scSS, scBB, scIS, scSI, scBS, scSB, qInL, qInT, qNiL, qNiT, qInDs, qNiDs, qInDi, qNiDi, qIxL, qIxT, qIxDs, qIxDi, qIxS, qSetL, qSetDs, qSetDi, qLenS, qLenL, qLenT, qLenD, qIs, okInt, okStr, okBool, okList, okTup, okDict, tyNon, tyBl, tyInt, tyStr, qTN, qTB, qTI, qTS, qTL, qLtI, qLeI, qGtI, qGeI, qApp, qCnt, qIdx, flN, flI, flS, flB, qIsL,
 isT_NoneType_int, isT_NoneType_str, isT_NoneType_bool, isT_NoneType_list, isT_NoneType_tuple, isT_NoneType_dict, isT_bool_int, isT_bool_str, isT_bool_bool, isT_bool_list, isT_bool_tuple, isT_bool_dict, isT_int_int, isT_int_str, isT_int_bool, isT_int_list, isT_int_tuple, isT_int_dict, isT_str_int, isT_str_str, isT_str_bool, isT_str_list, isT_str_tuple, isT_str_dict, isT_list_int, isT_list_str, isT_list_bool, isT_list_list, isT_list_tuple, isT_list_dict, isT_tuple_int, isT_tuple_str, isT_tuple_bool, isT_tuple_list, isT_tuple_tuple, isT_tuple_dict, isT_dict_int, isT_dict_str, isT_dict_bool, isT_dict_list, isT_dict_tuple, isT_dict_dict, cxB_K, WF, WE, List.getElem?_cons_zero, List.getElem?_cons_succ, Option.some.injEq, exists_eq_left', exists_eq_left, V.ref.injEq, V.int.injEq, V.str.injEq, V.bl.injEq, HO.ins.injEq, List.cons.injEq, and_true, true_and, exists_and_left, and_assoc, reduceCtorEq, false_and, and_false, exists_false, or_false, false_or, if_true, if_false, Bool.false_eq_true, Bool.not_true, Bool.not_false, ite_true, ite_false, List.mem_singleton, forall_eq, L2.start, List.map_cons, List.map_nil, List.length_cons, List.length_nil, List.replicate, List.cons_append, List.nil_append, Nat.sub_self, Nat.reduceAdd, Nat.reduceSub, List.set_cons_zero, List.set_cons_succ, L2.wipe, tYes, gCons, gNil, tCont, tAndF, tOrF, false_implies, L2.tSl, tNoPart, tPart, tBM, tyVs, Int.reduceLT, Int.reduceLE, CDiv, qSlS, tAug, qIpI, Int.zero_add, decide_true, decide_false, sz1, sz2, sz3, sz0, sz4, sz5, sz6, sz7, sz8, sz9, sz10, sz11, sz12, kV_s, kV_i, Nat.reduceLT, Nat.reduceLeDiff, true_implies, Option.isSome_some, Option.isSome_none, String.reduceBEq, Bool.or_false, Bool.or_true, Bool.false_or, Bool.true_or, Bool.and_true, Bool.and_false, Bool.true_and, Bool.false_and, isInt]
      exact q
end
end Pk

namespace Pk
open PySem PySem.Spec PyProof.Rows L2
theorem names_mid (n : Int) (ts : List TaskS) (i : Nat) : (mid (outT n) ts i).map (·.name) = ts.map (·.name) := by
  apply List.ext_getElem?
  intro j
  have e := congrArg (fun l : List (Key × V) => (l[j]?).map (·.1)) (tKvs_mid (A := fun _ => 0) n (ts := ts) (i := i))
  simp only [tKvs, List.getElem?_mapIdx, Option.map_map, Function.comp_def] at e
  rw [List.getElem?_map, List.getElem?_map]
  cases h : (mid (outT n) ts i)[j]? <;> cases h2 : ts[j]? <;> simp_all
theorem findT_nd {ts : List TaskS} (nd : (ts.map (·.name)).Nodup) {i : Nat} {t : TaskS} (e : ts[i]? = some t) : findT ts t.name = some i := by
  cases f : findT ts t.name with
  | none =>
    unfold findT at f
    rw [List.findIdx?_eq_none_iff] at f
    have := f t (List.mem_of_getElem? e)
    simp at this
  | some j =>
    obtain ⟨u, eu, hn⟩ := findT_some f
    have h1 : (ts.map (·.name))[j]? = some t.name := by rw [List.getElem?_map, eu, ← hn]; rfl
    have h2 : (ts.map (·.name))[i]? = some t.name := by rw [List.getElem?_map, e]; rfl
    have hj : j < (ts.map (·.name)).length := (List.getElem?_eq_some_iff.mp h1).1
    have : j = i := (List.getElem?_inj hj nd).mp (h1.trans h2.symm)
    rw [this]
section
variable {P : Program} {w : World} {K : PySem.W.Frag} {mg : Str → Option Value} {base : Heap}
def sp_lout (K : PySem.W.Frag) : Sp := Sp.of (fun a : Addr × Int => [.ref a.1, .int a.2]) fun a H Q E => ∃ B ts, RepL a.1 B ts H ∧ WfT ts ∧
  ∀ B' H', RepL a.1 B' (ts.map (outT a.2)) H' → Upd H (FL a.1 B ts.length) H' (FL a.1 B' ts.length) → Q (.int (outs a.2 ts : Nat)) H'
theorem ok__law_out (T : Tx K mg) : Fw P w K mg base 1 (ga K "_law_out") (sp_lout K) :=
  Fw.mk_of (T.d__law_out) sc__law_out (fun _ _ _ _ _ _ us hl => match us, hl with | [_, _], _ => rfl) (fun _ => rfl) fun cdv Ar outer s H a Q E hr hb => by
    have hu := hr.units
    refine ⟨_, (pss_cons (ps_set (i := 2) sc__law_out.nd rfl (by first | exact Or.inl rfl | exact Or.inr rfl) pe_int)
    (pss_cons (ps_for poF rfl (pi_list (pe_callTy (call_listU rfl) (by rfl) T.n_list (by decide +kernel) (pa_cons (pv 0) pa_nil))) (pg_name (i := 3) sc__law_out.nd rfl (by first | exact Or.inl rfl | exact Or.inr rfl)) (pss_cons (ps_set (i := 2) sc__law_out.nd rfl (by first | exact Or.inl rfl | exact Or.inr rfl) (pe_op op_addF (pv 2) (pe_lm PySem.F.slot_list_count PySem.F.type_list_count mt_cntF (pe_ix (ix_F hu) (pv 0) (pv 3) (fun _ _ => rfl)) (pa_cons (pv 1) pa_nil))))
    (pss_one (ps_asg (pe_lc (by rfl) sc__law_out.nd (pi_list (pe_ix (ix_F hu) (pv 0) (pv 3) (fun _ _ => rfl))) (blkOk_by (own := [("_law_one", 4)]) (N := ["_law_rows", "_law_number", "_law_many", "_law_name_here", "_law_one"]) (sc := defScope s__law_out) (by decide +kernel)) (fun _ _ _ _ _ => by exact (pg_name (i := 4) sc__law_out.nd rfl (by first | exact Or.inl rfl | exact Or.inr rfl))) (fun _ _ _ _ _ => by exact pts_nil) (fun _ _ _ _ _ => by exact (pe_ix (ix_F hu) (pe_lst (pa_cons (pv 4) (pa_cons pe_non pa_nil))) (pe_callTy call_intU (by rfl) T.n_int (by decide +kernel) (pa_cons (pe_cmpR (op_eqFB (K := K) rfl hu) (pv 4) (pv 1) (nomark _)) pa_nil)) (fun _ _ => rfl)))) (pg_sub (pv 0) (pv 3) (set_F hu))))))
    (pss_one (ps_ret (pv 2))))), ?_⟩
    obtain ⟨d, n⟩ := a
    obtain ⟨B, ts, R, wf, hq⟩ := hb
    dsimp only at R hq
    simp only [tSeq, tIfS, tTest, tOp, tVar, L2.tC, tCB, tCons, tNil, tRet, tAsg, gName, gSub, tNot, tOr, tAnd, tFld, tB, tTru, tLM, tCallS, tMethW, tMakeW, tDrop, tNext, tUn, tTup, tLst, sFld, tChain, tAndV, tOrV, tNotV, tIf, tDNewK,
 qAddI, qAddS, qAddL, qMulI, qMulL, qSubI, qI, qUI, qEqS, qNeS, scNI, scIN, scNS, scSN, scNB, scBN, scNN, scII, scSS, scBB, scIS, scSI, scBS, scSB, qInL, qInT, qNiL, qNiT, qInDs, qNiDs, qInDi, qNiDi, qIxL, qIxT, qIxDs, qIxDi, qIxS, qSetL, qSetDs, qSetDi, qLenS, qLenL, qLenT, qLenD, qIs, okInt, okStr, okBool, okList, okTup, okDict, tyNon, tyBl, tyInt, tyStr, qTN, qTB, qTI, qTS, qTL, qLtI, qLeI, qGtI, qGeI, qApp, qCnt, qIdx, flN, flI, flS, flB, qIsL,
 isT_NoneType_int, isT_NoneType_str, isT_NoneType_bool, isT_NoneType_list, isT_NoneType_tuple, isT_NoneType_dict, isT_bool_int, isT_bool_str, isT_bool_bool, isT_bool_list, isT_bool_tuple, isT_bool_dict, isT_int_int, isT_int_str, isT_int_bool, isT_int_list, isT_int_tuple, isT_int_dict, isT_str_int, isT_str_str, isT_str_bool, isT_str_list, isT_str_tuple, isT_str_dict, isT_list_int, isT_list_str, isT_list_bool, isT_list_list, isT_list_tuple, isT_list_dict, isT_tuple_int, isT_tuple_str, isT_tuple_bool, isT_tuple_list, isT_tuple_tuple, isT_tuple_dict, isT_dict_int, isT_dict_str, isT_dict_bool, isT_dict_list, isT_dict_tuple, isT_dict_dict, cxB_K, WF, WE, List.getElem?_cons_zero, List.getElem?_cons_succ, Option.some.injEq, exists_eq_left', exists_eq_left, V.ref.injEq, V.int.injEq, V.str.injEq, V.bl.injEq, HO.ins.injEq, List.cons.injEq, and_true, true_and, exists_and_left, and_assoc, reduceCtorEq, false_and, and_false, exists_false, or_false, false_or, if_true, if_false, Bool.false_eq_true, Bool.not_true, Bool.not_false, ite_true, ite_false, List.mem_singleton, forall_eq, L2.start, List.map_cons, List.map_nil, List.length_cons, List.length_nil, List.replicate, List.cons_append, List.nil_append, Nat.sub_self, Nat.reduceAdd, Nat.reduceSub, List.set_cons_zero, List.set_cons_succ, L2.wipe, tYes, gCons, gNil, tCont, tAndF, tOrF, false_implies, L2.tSl, tNoPart, tPart, tBM, tyVs, Int.reduceLT, Int.reduceLE, CDiv, qSlS, tAug, qIpI, Int.zero_add, decide_true, decide_false, sz1, sz2, sz3, sz0, sz4, sz5, sz6, sz7, sz8, sz9, sz10, sz11, sz12, kV_s, kV_i, Nat.reduceLT, Nat.reduceLeDiff, true_implies, Option.isSome_some, Option.isSome_none, String.reduceBEq, Bool.or_false, Bool.or_true, Bool.false_or, Bool.true_or, Bool.and_true, Bool.and_false, Bool.true_and, Bool.false_and, tFor_eq, tLc_eq, iList, iTup, iVals, iItems, iKeysM, iRng1, iRng2, iEnum, iStr, iRev, iZip]
    refine li_D (.inl R.dk) ?_
    intro l hl
    refine ⟨l, rfl, ⟨_, .inl (.inl upd_same)⟩, ?_⟩
    rw [keys_tKvs]
    have sl : Same H (upd H l (.lst (ts.map fun t => V.str t.name))) := same_upd hl
    have nl : ¬ FL d B ts.length l := fun z => R.live z hl
    refine for_W (walk_list (xs := ts.map fun t => .str t.name)) (fun i σ' H' => ∃ B' x3 x4, σ' = [some (.ref d), some (.int n), some (.int (outs n (ts.take i) : Nat)), x3, x4] ∧ RepL d B' (mid (outT n) ts i) H' ∧
      Upd (upd H l (.lst (ts.map fun t => V.str t.name))) (FL d B ts.length) H' (FL d B' ts.length)) ?_ ?_ ?_ ?_
    · exact ⟨B, none, none, rfl, by rw [mid_zero]; exact R.same sl, Upd.refl _ _⟩
    · rintro i σ' H' hi ⟨B', x3, x4, _, R', U'⟩
      exact .inl (.inl (U'.keep _ _ upd_same nl))
    · rintro i x σ' H' H'' hi ⟨B', x3, x4, rfl, R', U'⟩ ⟨rfl, hx⟩
      have hi2 : i < ts.length := by simpa using hi
      have et : ts[i]? = some ts[i] := List.getElem?_eq_getElem hi2
      generalize ts[i] = t at et
      rw [List.getElem?_map, et] at hx
      cases hx
      have em : (mid (outT n) ts i)[i]? = some t := by rw [mid_get]; exact et
      have ndm : ((mid (outT n) ts i).map (·.name)).Nodup := by rw [names_mid]; exact wf.nd
      have hlm : (mid (outT n) ts i).length = ts.length := mid_len _ _ _
      have vk := R'.val t.name
      rw [findT_nd ndm em, Option.map_some] at vk
      have hc := R'.at_ i t em
      have cnt : outs n (ts.take (i + 1)) = outs n (ts.take i) + t.rows.count (some n) := by
        rw [take_snoc et]; simp [outs]
      simp only [tSeq, tIfS, tTest, tOp, tVar, L2.tC, tCB, tCons, tNil, tRet, tAsg, gName, gSub, tNot, tOr, tAnd, tFld, tB, tTru, tLM, tCallS, tMethW, tMakeW, tDrop, tNext, tUn, tTup, tLst, sFld, tChain, tAndV, tOrV, tNotV, tIf, tDNewK,
 qAddI, qAddS, qAddL, qMulI, qMulL, qSubI, qI, qUI, qEqS, qNeS, scNI, scIN, scNS, scSN, scNB, scBN, scNN, scII, scSS, scBB, scIS, scSI, scBS, scSB, qInL, qInT, qNiL, qNiT, qInDs, qNiDs, qInDi, qNiDi, qIxL, qIxT, qIxDs, qIxDi, qIxS, qSetL, qSetDs, qSetDi, qLenS, qLenL, qLenT, qLenD, qIs, okInt, okStr, okBool, okList, okTup, okDict, tyNon, tyBl, tyInt, tyStr, qTN, qTB, qTI, qTS, qTL, qLtI, qLeI, qGtI, qGeI, qApp, qCnt, qIdx, flN, flI, flS, flB, qIsL,
 isT_NoneType_int, isT_NoneType_str, isT_NoneType_bool, isT_NoneType_list, isT_NoneType_tuple, isT_NoneType_dict, isT_bool_int, isT_bool_str, isT_bool_bool, isT_bool_list, isT_bool_tuple, isT_bool_dict, isT_int_int, isT_int_str, isT_int_bool, isT_int_list, isT_int_tuple, isT_int_dict, isT_str_int, isT_str_str, isT_str_bool, isT_str_list, isT_str_tuple, isT_str_dict, isT_list_int, isT_list_str, isT_list_bool, isT_list_list, isT_list_tuple, isT_list_dict, isT_tuple_int, isT_tuple_str, isT_tuple_bool, isT_tuple_list, isT_tuple_tuple, isT_tuple_dict, isT_dict_int, isT_dict_str, isT_dict_bool, isT_dict_list, isT_dict_tuple, isT_dict_dict, cxB_K, WF, WE, List.getElem?_cons_zero, List.getElem?_cons_succ, Option.some.injEq, exists_eq_left', exists_eq_left, V.ref.injEq, V.int.injEq, V.str.injEq, V.bl.injEq, HO.ins.injEq, List.cons.injEq, and_true, true_and, exists_and_left, and_assoc, reduceCtorEq, false_and, and_false, exists_false, or_false, false_or, if_true, if_false, Bool.false_eq_true, Bool.not_true, Bool.not_false, ite_true, ite_false, List.mem_singleton, forall_eq, L2.start, List.map_cons, List.map_nil, List.length_cons, List.length_nil, List.replicate, List.cons_append, List.nil_append, Nat.sub_self, Nat.reduceAdd, Nat.reduceSub, List.set_cons_zero, List.set_cons_succ, L2.wipe, tYes, gCons, gNil, tCont, tAndF, tOrF, false_implies, L2.tSl, tNoPart, tPart, tBM, tyVs, Int.reduceLT, Int.reduceLE, CDiv, qSlS, tAug, qIpI, Int.zero_add, decide_true, decide_false, sz1, sz2, sz3, sz0, sz4, sz5, sz6, sz7, sz8, sz9, sz10, sz11, sz12, kV_s, kV_i, Nat.reduceLT, Nat.reduceLeDiff, true_implies, Option.isSome_some, Option.isSome_none, String.reduceBEq, Bool.or_false, Bool.or_true, Bool.false_or, Bool.true_or, Bool.and_true, Bool.and_false, Bool.true_and, Bool.false_and, tFor_eq, tLc_eq, iList, iTup, iVals, iItems, iKeysM, iRng1, iRng2, iEnum, iStr, iRev, iZip, qIxDs (.inl R'.dk), vk, isLst, hc, qCnt hc flI (flat_optV _), count_num]
      refine ⟨⟨_, .inl (.inl hc)⟩, ?_⟩
      refine lc_W (walk_list (xs := t.rows.map optV)) t.rows (fun _ => true) (fun o => optV (outO n o)) (by simp) (fun H2 s2 => .inl (.inl (s2 _ _ hc))) (by simp [wf.rows t (List.mem_of_getElem? et)]) ?_ ?_
      · rintro j o x H2 H3 C N eo s2 ⟨rfl, hx⟩ hC hN
        rw [List.getElem?_map, eo] at hx
        cases hx
        refine ⟨rfl, ?_⟩
        cases o with
        | none =>
          simp only [tSeq, tIfS, tTest, tOp, tVar, L2.tC, tCB, tCons, tNil, tRet, tAsg, gName, gSub, tNot, tOr, tAnd, tFld, tB, tTru, tLM, tCallS, tMethW, tMakeW, tDrop, tNext, tUn, tTup, tLst, sFld, tChain, tAndV, tOrV, tNotV, tIf, tDNewK,
 qAddI, qAddS, qAddL, qMulI, qMulL, qSubI, qI, qUI, qEqS, qNeS, scNI, scIN, scNS, scSN, scNB, scBN, scNN, scII, scSS, scBB, scIS, scSI, scBS, scSB, qInL, qInT, qNiL, qNiT, qInDs, qNiDs, qInDi, qNiDi, qIxL, qIxT, qIxDs, qIxDi, qIxS, qSetL, qSetDs, qSetDi, qLenS, qLenL, qLenT, qLenD, qIs, okInt, okStr, okBool, okList, okTup, okDict, tyNon, tyBl, tyInt, tyStr, qTN, qTB, qTI, qTS, qTL, qLtI, qLeI, qGtI, qGeI, qApp, qCnt, qIdx, flN, flI, flS, flB, qIsL,
 isT_NoneType_int, isT_NoneType_str, isT_NoneType_bool, isT_NoneType_list, isT_NoneType_tuple, isT_NoneType_dict, isT_bool_int, isT_bool_str, isT_bool_bool, isT_bool_list, isT_bool_tuple, isT_bool_dict, isT_int_int, isT_int_str, isT_int_bool, isT_int_list, isT_int_tuple, isT_int_dict, isT_str_int, isT_str_str, isT_str_bool, isT_str_list, isT_str_tuple, isT_str_dict, isT_list_int, isT_list_str, isT_list_bool, isT_list_list, isT_list_tuple, isT_list_dict, isT_tuple_int, isT_tuple_str, isT_tuple_bool, isT_tuple_list, isT_tuple_tuple, isT_tuple_dict, isT_dict_int, isT_dict_str, isT_dict_bool, isT_dict_list, isT_dict_tuple, isT_dict_dict, cxB_K, WF, WE, List.getElem?_cons_zero, List.getElem?_cons_succ, Option.some.injEq, exists_eq_left', exists_eq_left, V.ref.injEq, V.int.injEq, V.str.injEq, V.bl.injEq, HO.ins.injEq, List.cons.injEq, and_true, true_and, exists_and_left, and_assoc, reduceCtorEq, false_and, and_false, exists_false, or_false, false_or, if_true, if_false, Bool.false_eq_true, Bool.not_true, Bool.not_false, ite_true, ite_false, List.mem_singleton, forall_eq, L2.start, List.map_cons, List.map_nil, List.length_cons, List.length_nil, List.replicate, List.cons_append, List.nil_append, Nat.sub_self, Nat.reduceAdd, Nat.reduceSub, List.set_cons_zero, List.set_cons_succ, L2.wipe, tYes, gCons, gNil, tCont, tAndF, tOrF, false_implies, L2.tSl, tNoPart, tPart, tBM, tyVs, Int.reduceLT, Int.reduceLE, CDiv, qSlS, tAug, qIpI, Int.zero_add, decide_true, decide_false, sz1, sz2, sz3, sz0, sz4, sz5, sz6, sz7, sz8, sz9, sz10, sz11, sz12, kV_s, kV_i, Nat.reduceLT, Nat.reduceLeDiff, true_implies, Option.isSome_some, Option.isSome_none, String.reduceBEq, Bool.or_false, Bool.or_true, Bool.false_or, Bool.true_or, Bool.and_true, Bool.and_false, Bool.true_and, Bool.false_and, optV]
          intro q hq0
          refine int_b ?_
          simp only [tSeq, tIfS, tTest, tOp, tVar, L2.tC, tCB, tCons, tNil, tRet, tAsg, gName, gSub, tNot, tOr, tAnd, tFld, tB, tTru, tLM, tCallS, tMethW, tMakeW, tDrop, tNext, tUn, tTup, tLst, sFld, tChain, tAndV, tOrV, tNotV, tIf, tDNewK,
 qAddI, qAddS, qAddL, qMulI, qMulL, qSubI, qI, qUI, qEqS, qNeS, scNI, scIN, scNS, scSN, scNB, scBN, scNN, scII, scSS, scBB, scIS, scSI, scBS, scSB, qInL, qInT, qNiL, qNiT, qInDs, qNiDs, qInDi, qNiDi, qIxL, qIxT, qIxDs, qIxDi, qIxS, qSetL, qSetDs, qSetDi, qLenS, qLenL, qLenT, qLenD, qIs, okInt, okStr, okBool, okList, okTup, okDict, tyNon, tyBl, tyInt, tyStr, qTN, qTB, qTI, qTS, qTL, qLtI, qLeI, qGtI, qGeI, qApp, qCnt, qIdx, flN, flI, flS, flB, qIsL,
 isT_NoneType_int, isT_NoneType_str, isT_NoneType_bool, isT_NoneType_list, isT_NoneType_tuple, isT_NoneType_dict, isT_bool_int, isT_bool_str, isT_bool_bool, isT_bool_list, isT_bool_tuple, isT_bool_dict, isT_int_int, isT_int_str, isT_int_bool, isT_int_list, isT_int_tuple, isT_int_dict, isT_str_int, isT_str_str, isT_str_bool, isT_str_list, isT_str_tuple, isT_str_dict, isT_list_int, isT_list_str, isT_list_bool, isT_list_list, isT_list_tuple, isT_list_dict, isT_tuple_int, isT_tuple_str, isT_tuple_bool, isT_tuple_list, isT_tuple_tuple, isT_tuple_dict, isT_dict_int, isT_dict_str, isT_dict_bool, isT_dict_list, isT_dict_tuple, isT_dict_dict, cxB_K, WF, WE, List.getElem?_cons_zero, List.getElem?_cons_succ, Option.some.injEq, exists_eq_left', exists_eq_left, V.ref.injEq, V.int.injEq, V.str.injEq, V.bl.injEq, HO.ins.injEq, List.cons.injEq, and_true, true_and, exists_and_left, and_assoc, reduceCtorEq, false_and, and_false, exists_false, or_false, false_or, if_true, if_false, Bool.false_eq_true, Bool.not_true, Bool.not_false, ite_true, ite_false, List.mem_singleton, forall_eq, L2.start, List.map_cons, List.map_nil, List.length_cons, List.length_nil, List.replicate, List.cons_append, List.nil_append, Nat.sub_self, Nat.reduceAdd, Nat.reduceSub, List.set_cons_zero, List.set_cons_succ, L2.wipe, tYes, gCons, gNil, tCont, tAndF, tOrF, false_implies, L2.tSl, tNoPart, tPart, tBM, tyVs, Int.reduceLT, Int.reduceLE, CDiv, qSlS, tAug, qIpI, Int.zero_add, decide_true, decide_false, sz1, sz2, sz3, sz0, sz4, sz5, sz6, sz7, sz8, sz9, sz10, sz11, sz12, kV_s, kV_i, Nat.reduceLT, Nat.reduceLeDiff, true_implies, Option.isSome_some, Option.isSome_none, String.reduceBEq, Bool.or_false, Bool.or_true, Bool.false_or, Bool.true_or, Bool.and_true, Bool.and_false, Bool.true_and, Bool.false_and, qIxL upd_same]
          exact ⟨_, rfl, hC rfl _ (same_upd hq0)⟩
        | some m =>
          simp only [tSeq, tIfS, tTest, tOp, tVar, L2.tC, tCB, tCons, tNil, tRet, tAsg, gName, gSub, tNot, tOr, tAnd, tFld, tB, tTru, tLM, tCallS, tMethW, tMakeW, tDrop, tNext, tUn, tTup, tLst, sFld, tChain, tAndV, tOrV, tNotV, tIf, tDNewK,
 qAddI, qAddS, qAddL, qMulI, qMulL, qSubI, qI, qUI, qEqS, qNeS, scNI, scIN, scNS, scSN, scNB, scBN, scNN, scII, scSS, scBB, scIS, scSI, scBS, scSB, qInL, qInT, qNiL, qNiT, qInDs, qNiDs, qInDi, qNiDi, qIxL, qIxT, qIxDs, qIxDi, qIxS, qSetL, qSetDs, qSetDi, qLenS, qLenL, qLenT, qLenD, qIs, okInt, okStr, okBool, okList, okTup, okDict, tyNon, tyBl, tyInt, tyStr, qTN, qTB, qTI, qTS, qTL, qLtI, qLeI, qGtI, qGeI, qApp, qCnt, qIdx, flN, flI, flS, flB, qIsL,
 isT_NoneType_int, isT_NoneType_str, isT_NoneType_bool, isT_NoneType_list, isT_NoneType_tuple, isT_NoneType_dict, isT_bool_int, isT_bool_str, isT_bool_bool, isT_bool_list, isT_bool_tuple, isT_bool_dict, isT_int_int, isT_int_str, isT_int_bool, isT_int_list, isT_int_tuple, isT_int_dict, isT_str_int, isT_str_str, isT_str_bool, isT_str_list, isT_str_tuple, isT_str_dict, isT_list_int, isT_list_str, isT_list_bool, isT_list_list, isT_list_tuple, isT_list_dict, isT_tuple_int, isT_tuple_str, isT_tuple_bool, isT_tuple_list, isT_tuple_tuple, isT_tuple_dict, isT_dict_int, isT_dict_str, isT_dict_bool, isT_dict_list, isT_dict_tuple, isT_dict_dict, cxB_K, WF, WE, List.getElem?_cons_zero, List.getElem?_cons_succ, Option.some.injEq, exists_eq_left', exists_eq_left, V.ref.injEq, V.int.injEq, V.str.injEq, V.bl.injEq, HO.ins.injEq, List.cons.injEq, and_true, true_and, exists_and_left, and_assoc, reduceCtorEq, false_and, and_false, exists_false, or_false, false_or, if_true, if_false, Bool.false_eq_true, Bool.not_true, Bool.not_false, ite_true, ite_false, List.mem_singleton, forall_eq, L2.start, List.map_cons, List.map_nil, List.length_cons, List.length_nil, List.replicate, List.cons_append, List.nil_append, Nat.sub_self, Nat.reduceAdd, Nat.reduceSub, List.set_cons_zero, List.set_cons_succ, L2.wipe, tYes, gCons, gNil, tCont, tAndF, tOrF, false_implies, L2.tSl, tNoPart, tPart, tBM, tyVs, Int.reduceLT, Int.reduceLE, CDiv, qSlS, tAug, qIpI, Int.zero_add, decide_true, decide_false, sz1, sz2, sz3, sz0, sz4, sz5, sz6, sz7, sz8, sz9, sz10, sz11, sz12, kV_s, kV_i, Nat.reduceLT, Nat.reduceLeDiff, true_implies, Option.isSome_some, Option.isSome_none, String.reduceBEq, Bool.or_false, Bool.or_true, Bool.false_or, Bool.true_or, Bool.and_true, Bool.and_false, Bool.true_and, Bool.false_and, optV]
          intro q hq0
          refine int_b ?_
          simp only [tSeq, tIfS, tTest, tOp, tVar, L2.tC, tCB, tCons, tNil, tRet, tAsg, gName, gSub, tNot, tOr, tAnd, tFld, tB, tTru, tLM, tCallS, tMethW, tMakeW, tDrop, tNext, tUn, tTup, tLst, sFld, tChain, tAndV, tOrV, tNotV, tIf, tDNewK,
 qAddI, qAddS, qAddL, qMulI, qMulL, qSubI, qI, qUI, qEqS, qNeS, scNI, scIN, scNS, scSN, scNB, scBN, scNN, scII, scSS, scBB, scIS, scSI, scBS, scSB, qInL, qInT, qNiL, qNiT, qInDs, qNiDs, qInDi, qNiDi, qIxL, qIxT, qIxDs, qIxDi, qIxS, qSetL, qSetDs, qSetDi, qLenS, qLenL, qLenT, qLenD, qIs, okInt, okStr, okBool, okList, okTup, okDict, tyNon, tyBl, tyInt, tyStr, qTN, qTB, qTI, qTS, qTL, qLtI, qLeI, qGtI, qGeI, qApp, qCnt, qIdx, flN, flI, flS, flB, qIsL,
 isT_NoneType_int, isT_NoneType_str, isT_NoneType_bool, isT_NoneType_list, isT_NoneType_tuple, isT_NoneType_dict, isT_bool_int, isT_bool_str, isT_bool_bool, isT_bool_list, isT_bool_tuple, isT_bool_dict, isT_int_int, isT_int_str, isT_int_bool, isT_int_list, isT_int_tuple, isT_int_dict, isT_str_int, isT_str_str, isT_str_bool, isT_str_list, isT_str_tuple, isT_str_dict, isT_list_int, isT_list_str, isT_list_bool, isT_list_list, isT_list_tuple, isT_list_dict, isT_tuple_int, isT_tuple_str, isT_tuple_bool, isT_tuple_list, isT_tuple_tuple, isT_tuple_dict, isT_dict_int, isT_dict_str, isT_dict_bool, isT_dict_list, isT_dict_tuple, isT_dict_dict, cxB_K, WF, WE, List.getElem?_cons_zero, List.getElem?_cons_succ, Option.some.injEq, exists_eq_left', exists_eq_left, V.ref.injEq, V.int.injEq, V.str.injEq, V.bl.injEq, HO.ins.injEq, List.cons.injEq, and_true, true_and, exists_and_left, and_assoc, reduceCtorEq, false_and, and_false, exists_false, or_false, false_or, if_true, if_false, Bool.false_eq_true, Bool.not_true, Bool.not_false, ite_true, ite_false, List.mem_singleton, forall_eq, L2.start, List.map_cons, List.map_nil, List.length_cons, List.length_nil, List.replicate, List.cons_append, List.nil_append, Nat.sub_self, Nat.reduceAdd, Nat.reduceSub, List.set_cons_zero, List.set_cons_succ, L2.wipe, tYes, gCons, gNil, tCont, tAndF, tOrF, false_implies, L2.tSl, tNoPart, tPart, tBM, tyVs, Int.reduceLT, Int.reduceLE, CDiv, qSlS, tAug, qIpI, Int.zero_add, decide_true, decide_false, sz1, sz2, sz3, sz0, sz4, sz5, sz6, sz7, sz8, sz9, sz10, sz11, sz12, kV_s, kV_i, Nat.reduceLT, Nat.reduceLeDiff, true_implies, Option.isSome_some, Option.isSome_none, String.reduceBEq, Bool.or_false, Bool.or_true, Bool.false_or, Bool.true_or, Bool.and_true, Bool.and_false, Bool.true_and, Bool.false_and, qIxL upd_same]
          by_cases hm : m = n
          · subst hm
            exact ⟨.non, by simp [atI, ixN], by have := hC rfl _ (same_upd hq0 (o := .lst [.int m, .non])); simpa [outO, optV] using this⟩
          · exact ⟨.int m, by simp [atI, ixN, hm], by have := hC rfl _ (same_upd hq0 (o := .lst [.int m, .non])); simpa [outO, optV, hm] using this⟩
      · intro D H2 hD s2 hD2
        rw [filter_all] at hD2
        have R2 := R'.same s2
        have nD : ¬ FL d B' (mid (outT n) ts i).length D := fun z => R'.live z hD
        have hlen : (lKvs B' (mid (outT n) ts i)).length < sizeLine := by
          rw [sizeLine_eq]; have := wf.few; simp [lKvs, tKvs, mid_len]; omega
        simp only [tSeq, tIfS, tTest, tOp, tVar, L2.tC, tCB, tCons, tNil, tRet, tAsg, gName, gSub, tNot, tOr, tAnd, tFld, tB, tTru, tLM, tCallS, tMethW, tMakeW, tDrop, tNext, tUn, tTup, tLst, sFld, tChain, tAndV, tOrV, tNotV, tIf, tDNewK,
 qAddI, qAddS, qAddL, qMulI, qMulL, qSubI, qI, qUI, qEqS, qNeS, scNI, scIN, scNS, scSN, scNB, scBN, scNN, scII, scSS, scBB, scIS, scSI, scBS, scSB, qInL, qInT, qNiL, qNiT, qInDs, qNiDs, qInDi, qNiDi, qIxL, qIxT, qIxDs, qIxDi, qIxS, qSetL, qSetDs, qSetDi, qLenS, qLenL, qLenT, qLenD, qIs, okInt, okStr, okBool, okList, okTup, okDict, tyNon, tyBl, tyInt, tyStr, qTN, qTB, qTI, qTS, qTL, qLtI, qLeI, qGtI, qGeI, qApp, qCnt, qIdx, flN, flI, flS, flB, qIsL,
 isT_NoneType_int, isT_NoneType_str, isT_NoneType_bool, isT_NoneType_list, isT_NoneType_tuple, isT_NoneType_dict, isT_bool_int, isT_bool_str, isT_bool_bool, isT_bool_list, isT_bool_tuple, isT_bool_dict, isT_int_int, isT_int_str, isT_int_bool, isT_int_list, isT_int_tuple, isT_int_dict, isT_str_int, isT_str_str, isT_str_bool, isT_str_list, isT_str_tuple, isT_str_dict, isT_list_int, isT_list_str, isT_list_bool, isT_list_list, isT_list_tuple, isT_list_dict, isT_tuple_int, isT_tuple_str, isT_tuple_bool, isT_tuple_list, isT_tuple_tuple, isT_tuple_dict, isT_dict_int, isT_dict_str, isT_dict_bool, isT_dict_list, isT_dict_tuple, isT_dict_dict, cxB_K, WF, WE, List.getElem?_cons_zero, List.getElem?_cons_succ, Option.some.injEq, exists_eq_left', exists_eq_left, V.ref.injEq, V.int.injEq, V.str.injEq, V.bl.injEq, HO.ins.injEq, List.cons.injEq, and_true, true_and, exists_and_left, and_assoc, reduceCtorEq, false_and, and_false, exists_false, or_false, false_or, if_true, if_false, Bool.false_eq_true, Bool.not_true, Bool.not_false, ite_true, ite_false, List.mem_singleton, forall_eq, L2.start, List.map_cons, List.map_nil, List.length_cons, List.length_nil, List.replicate, List.cons_append, List.nil_append, Nat.sub_self, Nat.reduceAdd, Nat.reduceSub, List.set_cons_zero, List.set_cons_succ, L2.wipe, tYes, gCons, gNil, tCont, tAndF, tOrF, false_implies, L2.tSl, tNoPart, tPart, tBM, tyVs, Int.reduceLT, Int.reduceLE, CDiv, qSlS, tAug, qIpI, Int.zero_add, decide_true, decide_false, sz1, sz2, sz3, sz0, sz4, sz5, sz6, sz7, sz8, sz9, sz10, sz11, sz12, kV_s, kV_i, Nat.reduceLT, Nat.reduceLeDiff, true_implies, Option.isSome_some, Option.isSome_none, String.reduceBEq, Bool.or_false, Bool.or_true, Bool.false_or, Bool.true_or, Bool.and_true, Bool.and_false, Bool.true_and, Bool.false_and, qSetDs R2.dk, hlen]
        have pk := putK_lKvs (B := B') ndm em D
        have e0 : (outT n t).name = t.name := rfl
        rw [pk]
        refine ⟨by rw [cnt]; omega, setB B' i D, ?_, ?_⟩
        · have R3 := R2.upNew ndm em (rw' := outRow n t.rows) nD (by rw [hD2]; simp [outRow])
          rw [← mid_set et]
          exact R3
        · have hnB : ∀ b, FL d B' ts.length b → FL d B' (mid (outT n) ts i).length b := fun b hb => by rw [hlm]; exact hb
          refine U'.trans ⟨fun b o e hb => ?_, fun b hb => ?_⟩
          · rw [upd_ne (fun z => hb (.inl z))]
            exact s2 _ _ e
          · rcases hb with rfl | ⟨j, hj, rfl⟩
            · exact .inl (.inl rfl)
            · unfold setB
              by_cases z : j = i
              · rw [if_pos z]; exact .inr hD
              · rw [if_neg z]; exact .inl (.inr ⟨j, hj, rfl⟩)
    · rintro σ' H' ⟨B', x3, x4, rfl, R', U'⟩
      rw [List.length_map, mid_full _ _ (Nat.le_refl _)] at R'
      simp only [tSeq, tIfS, tTest, tOp, tVar, L2.tC, tCB, tCons, tNil, tRet, tAsg, gName, gSub, tNot, tOr, tAnd, tFld, tB, tTru, tLM, tCallS, tMethW, tMakeW, tDrop, tNext, tUn, tTup, tLst, sFld, tChain, tAndV, tOrV, tNotV, tIf, tDNewK,
 qAddI, qAddS, qAddL, qMulI, qMulL, qSubI, qI, qUI, qEqS, qNeS, scNI, scIN, scNS, scSN, scNB, scBN, scNN, scII, scSS, scBB, scIS, scSI, scBS, scSB, qInL, qInT, qNiL, qNiT, qInDs, qNiDs, qInDi, qNiDi, qIxL, qIxT, qIxDs, qIxDi, qIxS, qSetL, qSetDs, qSetDi, qLenS, qLenL, qLenT, qLenD, qIs, okInt, okStr, okBool, okList, okTup, okDict, tyNon, tyBl, tyInt, tyStr, qTN, qTB, qTI, qTS, qTL, qLtI, qLeI, qGtI, qGeI, qApp, qCnt, qIdx, flN, flI, flS, flB, qIsL,
 isT_NoneType_int, isT_NoneType_str, isT_NoneType_bool, isT_NoneType_list, isT_NoneType_tuple, isT_NoneType_dict, isT_bool_int, isT_bool_str, isT_bool_bool, isT_bool_list, isT_bool_tuple, isT_bool_dict, isT_int_int, isT_int_str, isT_int_bool, isT_int_list, isT_int_tuple, isT_int_dict, isT_str_int, isT_str_str, isT_str_bool, isT_str_list, isT_str_tuple, isT_str_dict, isT_list_int, isT_list_str, isT_list_bool, isT_list_list, isT_list_tuple, isT_list_dict, isT_tuple_int, isT_tuple_str, isT_tuple_bool, isT_tuple_list, isT_tuple_tuple, isT_tuple_dict, isT_dict_int, isT_dict_str, isT_dict_bool, isT_dict_list, isT_dict_tuple, isT_dict_dict, cxB_K, WF, WE, List.getElem?_cons_zero, List.getElem?_cons_succ, Option.some.injEq, exists_eq_left', exists_eq_left, V.ref.injEq, V.int.injEq, V.str.injEq, V.bl.injEq, HO.ins.injEq, List.cons.injEq, and_true, true_and, exists_and_left, and_assoc, reduceCtorEq, false_and, and_false, exists_false, or_false, false_or, if_true, if_false, Bool.false_eq_true, Bool.not_true, Bool.not_false, ite_true, ite_false, List.mem_singleton, forall_eq, L2.start, List.map_cons, List.map_nil, List.length_cons, List.length_nil, List.replicate, List.cons_append, List.nil_append, Nat.sub_self, Nat.reduceAdd, Nat.reduceSub, List.set_cons_zero, List.set_cons_succ, L2.wipe, tYes, gCons, gNil, tCont, tAndF, tOrF, false_implies, L2.tSl, tNoPart, tPart, tBM, tyVs, Int.reduceLT, Int.reduceLE, CDiv, qSlS, tAug, qIpI, Int.zero_add, decide_true, decide_false, sz1, sz2, sz3, sz0, sz4, sz5, sz6, sz7, sz8, sz9, sz10, sz11, sz12, kV_s, kV_i, Nat.reduceLT, Nat.reduceLeDiff, true_implies, Option.isSome_some, Option.isSome_none, String.reduceBEq, Bool.or_false, Bool.or_true, Bool.false_or, Bool.true_or, Bool.and_true, Bool.and_false, Bool.true_and, Bool.false_and]
      rw [List.length_map, List.take_length]
      exact hq B' H' R' ((Upd.of_same sl).trans U')
end
end Pk

namespace Pk
open PySem PySem.Spec PyProof.Rows L2
section
variable {P : Program} {w : World} {K : PySem.W.Frag} {mg : Str → Option Value} {base : Heap}
/-- told lists, held twice -/
def HeldN (H0 H : Hp) (v : V) : Prop := ∃ p f c l ys, v = .ref p ∧ H0 p = none ∧ H0 f = none ∧ H0 c = none ∧ H p = some (.tup [.ref f, .ref c]) ∧ H f = some (.lst ys) ∧ H c = some (.lst ys) ∧
  Paired (fun (x : Int × Int) y => ∃ q, y = .ref q ∧ H0 q = none ∧ H q = some (.tup [.int x.1, .int x.2])) l ys
def sp_lpairs (K : PySem.W.Frag) : Sp := Sp.of (fun a : Addr × Str × Addr × Addr => [.ref a.1, .str a.2.1, .ref a.2.2.1, .ref a.2.2.2]) fun a H Q E => ∃ A ts i t hs, RepT K none A ts H ∧ a.1 = A .tI ∧ runIx ts (.str a.2.1) = some i ∧ ts[i]? = some t ∧
  H a.2.2.1 = some (.lst (t.rows.map optV)) ∧ H a.2.2.2 = some (.lst hs) ∧ hs.length < 10000 ∧ ¬ FT A ts.length a.2.2.2 ∧
  ∀ H' v, (∀ b o, b ≠ a.2.2.2 → H b = some o → H' b = some o) → H' a.2.2.2 = some (.lst (hs ++ [v])) → HeldN H H' v → Q (.bl true) H'
theorem ok__law_pairs (T : Tx K mg) : Fw P w K mg base 3 (ga K "_law_pairs") (sp_lpairs K) :=
  Fw.mk_of (T.d__law_pairs) sc__law_pairs (fun _ _ _ _ _ _ us hl => match us, hl with | [_, _, _, _], _ => rfl) (fun _ => rfl) fun cdv Ar outer s H a Q E hr hb => by
    have hu := hr.units
    refine ⟨_, (pss_cons (ps_set (i := 4) sc__law_pairs.nd rfl (by first | exact Or.inl rfl | exact Or.inr rfl) (pe_methW (pv 0) (m_Tasks_slots T) (hr.mono (by decide)) (fun σ => L2N.passAt tkF σ) (pa_cons (pv 1) pa_nil)))
    (pss_cons (ps_if (PW.pt (pw_or (pt_not (pt_truF (pe_callB call_isF (by rfl) T.n_isinstance (by decide +kernel) (pa_cons (pv 4) (pa_cons (pe_bltn (v := .ty "list") rfl T.n_list (by decide +kernel) rfl) pa_nil))) (by intro _; rfl))) (pw_or1 (pt_cmpR (op_neF hu) (pv 4) (pe_lc (by rfl) sc__law_pairs.nd (pi_range1 (by rfl) T.n_range (pa_cons pe_int pa_nil)) (blkOk_by (own := [("_law_k", 6)]) (N := ["_law_tasks", "_law_name_here", "_law_row", "_law_held", "_law_found", "_law_pair", "_law_k"]) (sc := defScope s__law_pairs) (by decide +kernel)) (fun _ _ _ _ _ => by exact (pg_name (i := 6) sc__law_pairs.nd rfl (by first | exact Or.inl rfl | exact Or.inr rfl))) (fun _ _ _ _ _ => by exact (pts_one (pt_cmpR op_notN (pe_ix (ix_F hu) (pv 2) (pv 6) (fun _ _ => rfl)) pe_non (nomark _)))) (fun _ _ _ _ _ => by exact (pe_tup (pa_cons (pv 6) (pa_cons (pe_ix (ix_F hu) (pv 2) (pv 6) (fun _ _ => rfl)) pa_nil))))) (nomark _))))) (pss_one (ps_ret pe_bl)) pss_nil)
    (pss_cons (ps_for poF rfl (pi_list (pv 4)) (pg_name (i := 5) sc__law_pairs.nd rfl (by first | exact Or.inl rfl | exact Or.inr rfl)) (pss_one (ps_if (PW.pt (pw_or (pt_not (pt_truF (pe_callB call_isF (by rfl) T.n_isinstance (by decide +kernel) (pa_cons (pv 5) (pa_cons (pe_bltn (v := .ty "tuple") rfl T.n_tuple (by decide +kernel) rfl) pa_nil))) (by intro _; rfl))) (pw_or (pt_not (pt_truF (pe_callW (ok__law_whole T) (hr.mono (by decide)) T.g__law_whole (fun σ => L2N.passAt tkF σ) (pa_cons (pe_ix (ix_F hu) (pv 5) pe_int (fun _ _ => rfl)) pa_nil)) (by intro _; rfl))) (pw_or1 (pt_not (pt_truF (pe_callW (ok__law_whole T) (hr.mono (by decide)) T.g__law_whole (fun σ => L2N.passAt tkF σ) (pa_cons (pe_ix (ix_F hu) (pv 5) pe_int (fun _ _ => rfl)) pa_nil)) (by intro _; rfl))))))) (pss_one (ps_ret pe_bl)) pss_nil)))
    (pss_cons (ps_expr (pe_lm PySem.F.slot_list_append PySem.F.type_list_append mt_appF (pv 3) (pa_cons (pe_tup (pa_cons (pv 4) (pa_cons (pe_callTy (call_listU rfl) (by rfl) T.n_list (by decide +kernel) (pa_cons (pv 4) pa_nil)) pa_nil))) pa_nil)))
    (pss_cons (ps_expr (pe_lm PySem.F.slot_list_append PySem.F.type_list_append mt_appF (pe_methW (pv 0) (m_Tasks_slots T) (hr.mono (by decide)) (fun σ => L2N.passAt tkF σ) (pa_cons (pv 1) pa_nil)) (pa_cons (pe_tup (pa_cons pe_int (pa_cons pe_int pa_nil))) pa_nil)))
    (pss_one (ps_ret pe_bl))))))), ?_⟩
    obtain ⟨p, z, b, h⟩ := a
    obtain ⟨A, ts, i, t, hs, R, hp, hi, et, hb, hh, hlen, nh, hq⟩ := hb
    dsimp only at hp hi hb hh nh hq
    subst hp
    simp only [tSeq, tIfS, tTest, tOp, tVar, L2.tC, tCB, tCons, tNil, tRet, tAsg, gName, gSub, tNot, tOr, tAnd, tFld, tB, tTru, tLM, tCallS, tMethW, tMakeW, tDrop, tNext, tUn, tTup, tLst, sFld, tChain, tAndV, tOrV, tNotV, tIf, tDNewK,
 qAddI, qAddS, qAddL, qMulI, qMulL, qSubI, qI, qUI, qEqS, qNeS, scNI, scIN, scNS, scSN, scNB, scBN, scNN, scII, scSS, scBB, scIS, scSI, scBS, scSB, qInL, qInT, qNiL, qNiT, qInDs, qNiDs, qInDi, qNiDi, qIxL, qIxT, qIxDs, qIxDi, qIxS, qSetL, qSetDs, qSetDi, qLenS, qLenL, qLenT, qLenD, qIs, okInt, okStr, okBool, okList, okTup, okDict, tyNon, tyBl, tyInt, tyStr, qTN, qTB, qTI, qTS, qTL, qLtI, qLeI, qGtI, qGeI, qApp, qCnt, qIdx, flN, flI, flS, flB, qIsL,
 isT_NoneType_int, isT_NoneType_str, isT_NoneType_bool, isT_NoneType_list, isT_NoneType_tuple, isT_NoneType_dict, isT_bool_int, isT_bool_str, isT_bool_bool, isT_bool_list, isT_bool_tuple, isT_bool_dict, isT_int_int, isT_int_str, isT_int_bool, isT_int_list, isT_int_tuple, isT_int_dict, isT_str_int, isT_str_str, isT_str_bool, isT_str_list, isT_str_tuple, isT_str_dict, isT_list_int, isT_list_str, isT_list_bool, isT_list_list, isT_list_tuple, isT_list_dict, isT_tuple_int, isT_tuple_str, isT_tuple_bool, isT_tuple_list, isT_tuple_tuple, isT_tuple_dict, isT_dict_int, isT_dict_str, isT_dict_bool, isT_dict_list, isT_dict_tuple, isT_dict_dict, cxB_K, WF, WE, List.getElem?_cons_zero, List.getElem?_cons_succ, Option.some.injEq, exists_eq_left', exists_eq_left, V.ref.injEq, V.int.injEq, V.str.injEq, V.bl.injEq, HO.ins.injEq, List.cons.injEq, and_true, true_and, exists_and_left, and_assoc, reduceCtorEq, false_and, and_false, exists_false, or_false, false_or, if_true, if_false, Bool.false_eq_true, Bool.not_true, Bool.not_false, ite_true, ite_false, List.mem_singleton, forall_eq, L2.start, List.map_cons, List.map_nil, List.length_cons, List.length_nil, List.replicate, List.cons_append, List.nil_append, Nat.sub_self, Nat.reduceAdd, Nat.reduceSub, List.set_cons_zero, List.set_cons_succ, L2.wipe, tYes, gCons, gNil, tCont, tAndF, tOrF, false_implies, L2.tSl, tNoPart, tPart, tBM, tyVs, Int.reduceLT, Int.reduceLE, CDiv, qSlS, tAug, qIpI, Int.zero_add, decide_true, decide_false, sz1, sz2, sz3, sz0, sz4, sz5, sz6, sz7, sz8, sz9, sz10, sz11, sz12, kV_s, kV_i, Nat.reduceLT, Nat.reduceLeDiff, true_implies, Option.isSome_some, Option.isSome_none, String.reduceBEq, Bool.or_false, Bool.or_true, Bool.false_or, Bool.true_or, Bool.and_true, Bool.and_false, Bool.true_and, Bool.false_and, tFor_eq, tLc_eq, iList, iTup, iVals, iItems, iKeysM, iRng1, iRng2, iEnum, iStr, iRev, iZip, R.tI, T.c_Tasks, T.na_Tasks_known, lk_known]
    refine ⟨rfl, (A .tI, .str z), rfl, none, A, ts, R, rfl, rfl, fun hn => (by dsimp only at hn; rw [hi] at hn; cases hn), fun i' t' hi' et' f ps H1 hf s1 e1 pp => ?_⟩
    dsimp only at hi'
    rw [hi] at hi'
    cases hi'
    rw [et] at et'
    cases et'
    have h16 := R.wf.rows t (List.mem_of_getElem? et)
    have hb1 := s1 _ _ hb
    simp only [tSeq, tIfS, tTest, tOp, tVar, L2.tC, tCB, tCons, tNil, tRet, tAsg, gName, gSub, tNot, tOr, tAnd, tFld, tB, tTru, tLM, tCallS, tMethW, tMakeW, tDrop, tNext, tUn, tTup, tLst, sFld, tChain, tAndV, tOrV, tNotV, tIf, tDNewK,
 qAddI, qAddS, qAddL, qMulI, qMulL, qSubI, qI, qUI, qEqS, qNeS, scNI, scIN, scNS, scSN, scNB, scBN, scNN, scII, scSS, scBB, scIS, scSI, scBS, scSB, qInL, qInT, qNiL, qNiT, qInDs, qNiDs, qInDi, qNiDi, qIxL, qIxT, qIxDs, qIxDi, qIxS, qSetL, qSetDs, qSetDi, qLenS, qLenL, qLenT, qLenD, qIs, okInt, okStr, okBool, okList, okTup, okDict, tyNon, tyBl, tyInt, tyStr, qTN, qTB, qTI, qTS, qTL, qLtI, qLeI, qGtI, qGeI, qApp, qCnt, qIdx, flN, flI, flS, flB, qIsL,
 isT_NoneType_int, isT_NoneType_str, isT_NoneType_bool, isT_NoneType_list, isT_NoneType_tuple, isT_NoneType_dict, isT_bool_int, isT_bool_str, isT_bool_bool, isT_bool_list, isT_bool_tuple, isT_bool_dict, isT_int_int, isT_int_str, isT_int_bool, isT_int_list, isT_int_tuple, isT_int_dict, isT_str_int, isT_str_str, isT_str_bool, isT_str_list, isT_str_tuple, isT_str_dict, isT_list_int, isT_list_str, isT_list_bool, isT_list_list, isT_list_tuple, isT_list_dict, isT_tuple_int, isT_tuple_str, isT_tuple_bool, isT_tuple_list, isT_tuple_tuple, isT_tuple_dict, isT_dict_int, isT_dict_str, isT_dict_bool, isT_dict_list, isT_dict_tuple, isT_dict_dict, cxB_K, WF, WE, List.getElem?_cons_zero, List.getElem?_cons_succ, Option.some.injEq, exists_eq_left', exists_eq_left, V.ref.injEq, V.int.injEq, V.str.injEq, V.bl.injEq, HO.ins.injEq, List.cons.injEq, and_true, true_and, exists_and_left, and_assoc, reduceCtorEq, false_and, and_false, exists_false, or_false, false_or, if_true, if_false, Bool.false_eq_true, Bool.not_true, Bool.not_false, ite_true, ite_false, List.mem_singleton, forall_eq, L2.start, List.map_cons, List.map_nil, List.length_cons, List.length_nil, List.replicate, List.cons_append, List.nil_append, Nat.sub_self, Nat.reduceAdd, Nat.reduceSub, List.set_cons_zero, List.set_cons_succ, L2.wipe, tYes, gCons, gNil, tCont, tAndF, tOrF, false_implies, L2.tSl, tNoPart, tPart, tBM, tyVs, Int.reduceLT, Int.reduceLE, CDiv, qSlS, tAug, qIpI, Int.zero_add, decide_true, decide_false, sz1, sz2, sz3, sz0, sz4, sz5, sz6, sz7, sz8, sz9, sz10, sz11, sz12, kV_s, kV_i, Nat.reduceLT, Nat.reduceLeDiff, true_implies, Option.isSome_some, Option.isSome_none, String.reduceBEq, Bool.or_false, Bool.or_true, Bool.false_or, Bool.true_or, Bool.and_true, Bool.and_false, Bool.true_and, Bool.false_and, tFor_eq, tLc_eq, iList, iTup, iVals, iItems, iKeysM, iRng1, iRng2, iEnum, iStr, iRev, iZip, tyLst e1]
    refine ⟨by decide, by decide, ?_⟩
    refine lc_G (walk_range (lo := 0) (n := 16)) t.rows.zipIdx (·.1.isSome) (fun a y H2 => ∃ q, y = .ref q ∧ H2 q = some (.tup [.int a.2, .int (a.1.getD 0)])) (by simp [h16]) ?_ (fun _ _ => trivial) (by decide) ?_ ?_
    · rintro a y H2 H3 kp ⟨q, rfl, h1⟩
      exact ⟨q, rfl, kp _ _ (fun l z => by cases z) h1⟩
    · rintro j a x H2 H3 C N ea s2 ⟨rfl, rfl⟩ hC hN
      rw [List.getElem?_zipIdx] at ea
      cases eo : t.rows[j]? with
      | none => rw [eo] at ea; cases ea
      | some o =>
        rw [eo] at ea
        cases ea
        have hj := (List.getElem?_eq_some_iff.mp eo).1
        have ix : atI (t.rows.map optV) (j : Int) = some (optV o) := by
          unfold atI
          rw [ixN_lt (by rw [List.length_map]; exact hj)]
          simp [eo]
        refine ⟨rfl, ?_⟩
        have hb2 := s2 _ _ hb1
        cases o with
        | none =>
          simp only [tSeq, tIfS, tTest, tOp, tVar, L2.tC, tCB, tCons, tNil, tRet, tAsg, gName, gSub, tNot, tOr, tAnd, tFld, tB, tTru, tLM, tCallS, tMethW, tMakeW, tDrop, tNext, tUn, tTup, tLst, sFld, tChain, tAndV, tOrV, tNotV, tIf, tDNewK,
 qAddI, qAddS, qAddL, qMulI, qMulL, qSubI, qI, qUI, qEqS, qNeS, scNI, scIN, scNS, scSN, scNB, scBN, scNN, scII, scSS, scBB, scIS, scSI, scBS, scSB, qInL, qInT, qNiL, qNiT, qInDs, qNiDs, qInDi, qNiDi, qIxL, qIxT, qIxDs, qIxDi, qIxS, qSetL, qSetDs, qSetDi, qLenS, qLenL, qLenT, qLenD, qIs, okInt, okStr, okBool, okList, okTup, okDict, tyNon, tyBl, tyInt, tyStr, qTN, qTB, qTI, qTS, qTL, qLtI, qLeI, qGtI, qGeI, qApp, qCnt, qIdx, flN, flI, flS, flB, qIsL,
 isT_NoneType_int, isT_NoneType_str, isT_NoneType_bool, isT_NoneType_list, isT_NoneType_tuple, isT_NoneType_dict, isT_bool_int, isT_bool_str, isT_bool_bool, isT_bool_list, isT_bool_tuple, isT_bool_dict, isT_int_int, isT_int_str, isT_int_bool, isT_int_list, isT_int_tuple, isT_int_dict, isT_str_int, isT_str_str, isT_str_bool, isT_str_list, isT_str_tuple, isT_str_dict, isT_list_int, isT_list_str, isT_list_bool, isT_list_list, isT_list_tuple, isT_list_dict, isT_tuple_int, isT_tuple_str, isT_tuple_bool, isT_tuple_list, isT_tuple_tuple, isT_tuple_dict, isT_dict_int, isT_dict_str, isT_dict_bool, isT_dict_list, isT_dict_tuple, isT_dict_dict, cxB_K, WF, WE, List.getElem?_cons_zero, List.getElem?_cons_succ, Option.some.injEq, exists_eq_left', exists_eq_left, V.ref.injEq, V.int.injEq, V.str.injEq, V.bl.injEq, HO.ins.injEq, List.cons.injEq, and_true, true_and, exists_and_left, and_assoc, reduceCtorEq, false_and, and_false, exists_false, or_false, false_or, if_true, if_false, Bool.false_eq_true, Bool.not_true, Bool.not_false, ite_true, ite_false, List.mem_singleton, forall_eq, L2.start, List.map_cons, List.map_nil, List.length_cons, List.length_nil, List.replicate, List.cons_append, List.nil_append, Nat.sub_self, Nat.reduceAdd, Nat.reduceSub, List.set_cons_zero, List.set_cons_succ, L2.wipe, tYes, gCons, gNil, tCont, tAndF, tOrF, false_implies, L2.tSl, tNoPart, tPart, tBM, tyVs, Int.reduceLT, Int.reduceLE, CDiv, qSlS, tAug, qIpI, Int.zero_add, decide_true, decide_false, sz1, sz2, sz3, sz0, sz4, sz5, sz6, sz7, sz8, sz9, sz10, sz11, sz12, kV_s, kV_i, Nat.reduceLT, Nat.reduceLeDiff, true_implies, Option.isSome_some, Option.isSome_none, String.reduceBEq, Bool.or_false, Bool.or_true, Bool.false_or, Bool.true_or, Bool.and_true, Bool.and_false, Bool.true_and, Bool.false_and, qIxL hb2, ix, optV]
          exact hN rfl _ (Same.refl _)
        | some n =>
          simp only [tSeq, tIfS, tTest, tOp, tVar, L2.tC, tCB, tCons, tNil, tRet, tAsg, gName, gSub, tNot, tOr, tAnd, tFld, tB, tTru, tLM, tCallS, tMethW, tMakeW, tDrop, tNext, tUn, tTup, tLst, sFld, tChain, tAndV, tOrV, tNotV, tIf, tDNewK,
 qAddI, qAddS, qAddL, qMulI, qMulL, qSubI, qI, qUI, qEqS, qNeS, scNI, scIN, scNS, scSN, scNB, scBN, scNN, scII, scSS, scBB, scIS, scSI, scBS, scSB, qInL, qInT, qNiL, qNiT, qInDs, qNiDs, qInDi, qNiDi, qIxL, qIxT, qIxDs, qIxDi, qIxS, qSetL, qSetDs, qSetDi, qLenS, qLenL, qLenT, qLenD, qIs, okInt, okStr, okBool, okList, okTup, okDict, tyNon, tyBl, tyInt, tyStr, qTN, qTB, qTI, qTS, qTL, qLtI, qLeI, qGtI, qGeI, qApp, qCnt, qIdx, flN, flI, flS, flB, qIsL,
 isT_NoneType_int, isT_NoneType_str, isT_NoneType_bool, isT_NoneType_list, isT_NoneType_tuple, isT_NoneType_dict, isT_bool_int, isT_bool_str, isT_bool_bool, isT_bool_list, isT_bool_tuple, isT_bool_dict, isT_int_int, isT_int_str, isT_int_bool, isT_int_list, isT_int_tuple, isT_int_dict, isT_str_int, isT_str_str, isT_str_bool, isT_str_list, isT_str_tuple, isT_str_dict, isT_list_int, isT_list_str, isT_list_bool, isT_list_list, isT_list_tuple, isT_list_dict, isT_tuple_int, isT_tuple_str, isT_tuple_bool, isT_tuple_list, isT_tuple_tuple, isT_tuple_dict, isT_dict_int, isT_dict_str, isT_dict_bool, isT_dict_list, isT_dict_tuple, isT_dict_dict, cxB_K, WF, WE, List.getElem?_cons_zero, List.getElem?_cons_succ, Option.some.injEq, exists_eq_left', exists_eq_left, V.ref.injEq, V.int.injEq, V.str.injEq, V.bl.injEq, HO.ins.injEq, List.cons.injEq, and_true, true_and, exists_and_left, and_assoc, reduceCtorEq, false_and, and_false, exists_false, or_false, false_or, if_true, if_false, Bool.false_eq_true, Bool.not_true, Bool.not_false, ite_true, ite_false, List.mem_singleton, forall_eq, L2.start, List.map_cons, List.map_nil, List.length_cons, List.length_nil, List.replicate, List.cons_append, List.nil_append, Nat.sub_self, Nat.reduceAdd, Nat.reduceSub, List.set_cons_zero, List.set_cons_succ, L2.wipe, tYes, gCons, gNil, tCont, tAndF, tOrF, false_implies, L2.tSl, tNoPart, tPart, tBM, tyVs, Int.reduceLT, Int.reduceLE, CDiv, qSlS, tAug, qIpI, Int.zero_add, decide_true, decide_false, sz1, sz2, sz3, sz0, sz4, sz5, sz6, sz7, sz8, sz9, sz10, sz11, sz12, kV_s, kV_i, Nat.reduceLT, Nat.reduceLeDiff, true_implies, Option.isSome_some, Option.isSome_none, String.reduceBEq, Bool.or_false, Bool.or_true, Bool.false_or, Bool.true_or, Bool.and_true, Bool.and_false, Bool.true_and, Bool.false_and, qIxL hb2, ix, optV]
          intro q hq0
          refine hC rfl _ _ (same_upd hq0) ⟨q, rfl, ?_⟩
          rw [upd_same]; simp
    · intro D H2 ys hD s2 e2 p2
      have pp2 : Paired (IsPair H2) (slotsOf t.rows) ps := paired_imp pp fun x y ⟨q, e, _, h⟩ => ⟨q, e, s2 _ _ h⟩
      have pD : Paired (IsPair H2) (slotsOf t.rows) ys := paired_map p2
      refine ne_D (pairs_dp (s2 _ _ e1) pp2) (pairs_dp e2 pD) (pairs_shaped _) (pairs_shaped _) ?_
      rw [eqv_rfl (pairs_shaped _)]
      simp only [tSeq, tIfS, tTest, tOp, tVar, L2.tC, tCB, tCons, tNil, tRet, tAsg, gName, gSub, tNot, tOr, tAnd, tFld, tB, tTru, tLM, tCallS, tMethW, tMakeW, tDrop, tNext, tUn, tTup, tLst, sFld, tChain, tAndV, tOrV, tNotV, tIf, tDNewK,
 qAddI, qAddS, qAddL, qMulI, qMulL, qSubI, qI, qUI, qEqS, qNeS, scNI, scIN, scNS, scSN, scNB, scBN, scNN, scII, scSS, scBB, scIS, scSI, scBS, scSB, qInL, qInT, qNiL, qNiT, qInDs, qNiDs, qInDi, qNiDi, qIxL, qIxT, qIxDs, qIxDi, qIxS, qSetL, qSetDs, qSetDi, qLenS, qLenL, qLenT, qLenD, qIs, okInt, okStr, okBool, okList, okTup, okDict, tyNon, tyBl, tyInt, tyStr, qTN, qTB, qTI, qTS, qTL, qLtI, qLeI, qGtI, qGeI, qApp, qCnt, qIdx, flN, flI, flS, flB, qIsL,
 isT_NoneType_int, isT_NoneType_str, isT_NoneType_bool, isT_NoneType_list, isT_NoneType_tuple, isT_NoneType_dict, isT_bool_int, isT_bool_str, isT_bool_bool, isT_bool_list, isT_bool_tuple, isT_bool_dict, isT_int_int, isT_int_str, isT_int_bool, isT_int_list, isT_int_tuple, isT_int_dict, isT_str_int, isT_str_str, isT_str_bool, isT_str_list, isT_str_tuple, isT_str_dict, isT_list_int, isT_list_str, isT_list_bool, isT_list_list, isT_list_tuple, isT_list_dict, isT_tuple_int, isT_tuple_str, isT_tuple_bool, isT_tuple_list, isT_tuple_tuple, isT_tuple_dict, isT_dict_int, isT_dict_str, isT_dict_bool, isT_dict_list, isT_dict_tuple, isT_dict_dict, cxB_K, WF, WE, List.getElem?_cons_zero, List.getElem?_cons_succ, Option.some.injEq, exists_eq_left', exists_eq_left, V.ref.injEq, V.int.injEq, V.str.injEq, V.bl.injEq, HO.ins.injEq, List.cons.injEq, and_true, true_and, exists_and_left, and_assoc, reduceCtorEq, false_and, and_false, exists_false, or_false, false_or, if_true, if_false, Bool.false_eq_true, Bool.not_true, Bool.not_false, ite_true, ite_false, List.mem_singleton, forall_eq, L2.start, List.map_cons, List.map_nil, List.length_cons, List.length_nil, List.replicate, List.cons_append, List.nil_append, Nat.sub_self, Nat.reduceAdd, Nat.reduceSub, List.set_cons_zero, List.set_cons_succ, L2.wipe, tYes, gCons, gNil, tCont, tAndF, tOrF, false_implies, L2.tSl, tNoPart, tPart, tBM, tyVs, Int.reduceLT, Int.reduceLE, CDiv, qSlS, tAug, qIpI, Int.zero_add, decide_true, decide_false, sz1, sz2, sz3, sz0, sz4, sz5, sz6, sz7, sz8, sz9, sz10, sz11, sz12, kV_s, kV_i, Nat.reduceLT, Nat.reduceLeDiff, true_implies, Option.isSome_some, Option.isSome_none, String.reduceBEq, Bool.or_false, Bool.or_true, Bool.false_or, Bool.true_or, Bool.and_true, Bool.and_false, Bool.true_and, Bool.false_and, tFor_eq, tLc_eq, iList, iTup, iVals, iItems, iKeysM, iRng1, iRng2, iEnum, iStr, iRev, iZip]
      refine ⟨⟨ps, .inl (.inl (s2 _ _ e1))⟩, ?_⟩
      refine for_W (walk_list (xs := ps)) (fun i σ' H' => ∃ x5, σ' = [some (.ref (A .tI)), some (.str z), some (.ref b), some (.ref h), some (.ref f), x5, none] ∧ H' = H2) ⟨none, rfl, rfl⟩ ?_ ?_ ?_
      · rintro i σ' H' hi ⟨x5, rfl, rfl⟩
        exact .inl (.inl (s2 _ _ e1))
      · rintro i x σ' H' H'' hi ⟨x5, rfl, rfl⟩ ⟨rfl, hx⟩
        obtain ⟨a, ha, q, rfl, hq0⟩ := paired_getR pp2 hx
        simp only [tSeq, tIfS, tTest, tOp, tVar, L2.tC, tCB, tCons, tNil, tRet, tAsg, gName, gSub, tNot, tOr, tAnd, tFld, tB, tTru, tLM, tCallS, tMethW, tMakeW, tDrop, tNext, tUn, tTup, tLst, sFld, tChain, tAndV, tOrV, tNotV, tIf, tDNewK,
 qAddI, qAddS, qAddL, qMulI, qMulL, qSubI, qI, qUI, qEqS, qNeS, scNI, scIN, scNS, scSN, scNB, scBN, scNN, scII, scSS, scBB, scIS, scSI, scBS, scSB, qInL, qInT, qNiL, qNiT, qInDs, qNiDs, qInDi, qNiDi, qIxL, qIxT, qIxDs, qIxDi, qIxS, qSetL, qSetDs, qSetDi, qLenS, qLenL, qLenT, qLenD, qIs, okInt, okStr, okBool, okList, okTup, okDict, tyNon, tyBl, tyInt, tyStr, qTN, qTB, qTI, qTS, qTL, qLtI, qLeI, qGtI, qGeI, qApp, qCnt, qIdx, flN, flI, flS, flB, qIsL,
 isT_NoneType_int, isT_NoneType_str, isT_NoneType_bool, isT_NoneType_list, isT_NoneType_tuple, isT_NoneType_dict, isT_bool_int, isT_bool_str, isT_bool_bool, isT_bool_list, isT_bool_tuple, isT_bool_dict, isT_int_int, isT_int_str, isT_int_bool, isT_int_list, isT_int_tuple, isT_int_dict, isT_str_int, isT_str_str, isT_str_bool, isT_str_list, isT_str_tuple, isT_str_dict, isT_list_int, isT_list_str, isT_list_bool, isT_list_list, isT_list_tuple, isT_list_dict, isT_tuple_int, isT_tuple_str, isT_tuple_bool, isT_tuple_list, isT_tuple_tuple, isT_tuple_dict, isT_dict_int, isT_dict_str, isT_dict_bool, isT_dict_list, isT_dict_tuple, isT_dict_dict, cxB_K, WF, WE, List.getElem?_cons_zero, List.getElem?_cons_succ, Option.some.injEq, exists_eq_left', exists_eq_left, V.ref.injEq, V.int.injEq, V.str.injEq, V.bl.injEq, HO.ins.injEq, List.cons.injEq, and_true, true_and, exists_and_left, and_assoc, reduceCtorEq, false_and, and_false, exists_false, or_false, false_or, if_true, if_false, Bool.false_eq_true, Bool.not_true, Bool.not_false, ite_true, ite_false, List.mem_singleton, forall_eq, L2.start, List.map_cons, List.map_nil, List.length_cons, List.length_nil, List.replicate, List.cons_append, List.nil_append, Nat.sub_self, Nat.reduceAdd, Nat.reduceSub, List.set_cons_zero, List.set_cons_succ, L2.wipe, tYes, gCons, gNil, tCont, tAndF, tOrF, false_implies, L2.tSl, tNoPart, tPart, tBM, tyVs, Int.reduceLT, Int.reduceLE, CDiv, qSlS, tAug, qIpI, Int.zero_add, decide_true, decide_false, sz1, sz2, sz3, sz0, sz4, sz5, sz6, sz7, sz8, sz9, sz10, sz11, sz12, kV_s, kV_i, Nat.reduceLT, Nat.reduceLeDiff, true_implies, Option.isSome_some, Option.isSome_none, String.reduceBEq, Bool.or_false, Bool.or_true, Bool.false_or, Bool.true_or, Bool.and_true, Bool.and_false, Bool.true_and, Bool.false_and, tyTup hq0, qIxT hq0]
        refine ⟨_, rfl, wh_use (v := .int _) rfl ?_⟩
        simp only [tSeq, tIfS, tTest, tOp, tVar, L2.tC, tCB, tCons, tNil, tRet, tAsg, gName, gSub, tNot, tOr, tAnd, tFld, tB, tTru, tLM, tCallS, tMethW, tMakeW, tDrop, tNext, tUn, tTup, tLst, sFld, tChain, tAndV, tOrV, tNotV, tIf, tDNewK,
 qAddI, qAddS, qAddL, qMulI, qMulL, qSubI, qI, qUI, qEqS, qNeS, scNI, scIN, scNS, scSN, scNB, scBN, scNN, scII, scSS, scBB, scIS, scSI, scBS, scSB, qInL, qInT, qNiL, qNiT, qInDs, qNiDs, qInDi, qNiDi, qIxL, qIxT, qIxDs, qIxDi, qIxS, qSetL, qSetDs, qSetDi, qLenS, qLenL, qLenT, qLenD, qIs, okInt, okStr, okBool, okList, okTup, okDict, tyNon, tyBl, tyInt, tyStr, qTN, qTB, qTI, qTS, qTL, qLtI, qLeI, qGtI, qGeI, qApp, qCnt, qIdx, flN, flI, flS, flB, qIsL,
 isT_NoneType_int, isT_NoneType_str, isT_NoneType_bool, isT_NoneType_list, isT_NoneType_tuple, isT_NoneType_dict, isT_bool_int, isT_bool_str, isT_bool_bool, isT_bool_list, isT_bool_tuple, isT_bool_dict, isT_int_int, isT_int_str, isT_int_bool, isT_int_list, isT_int_tuple, isT_int_dict, isT_str_int, isT_str_str, isT_str_bool, isT_str_list, isT_str_tuple, isT_str_dict, isT_list_int, isT_list_str, isT_list_bool, isT_list_list, isT_list_tuple, isT_list_dict, isT_tuple_int, isT_tuple_str, isT_tuple_bool, isT_tuple_list, isT_tuple_tuple, isT_tuple_dict, isT_dict_int, isT_dict_str, isT_dict_bool, isT_dict_list, isT_dict_tuple, isT_dict_dict, cxB_K, WF, WE, List.getElem?_cons_zero, List.getElem?_cons_succ, Option.some.injEq, exists_eq_left', exists_eq_left, V.ref.injEq, V.int.injEq, V.str.injEq, V.bl.injEq, HO.ins.injEq, List.cons.injEq, and_true, true_and, exists_and_left, and_assoc, reduceCtorEq, false_and, and_false, exists_false, or_false, false_or, if_true, if_false, Bool.false_eq_true, Bool.not_true, Bool.not_false, ite_true, ite_false, List.mem_singleton, forall_eq, L2.start, List.map_cons, List.map_nil, List.length_cons, List.length_nil, List.replicate, List.cons_append, List.nil_append, Nat.sub_self, Nat.reduceAdd, Nat.reduceSub, List.set_cons_zero, List.set_cons_succ, L2.wipe, tYes, gCons, gNil, tCont, tAndF, tOrF, false_implies, L2.tSl, tNoPart, tPart, tBM, tyVs, Int.reduceLT, Int.reduceLE, CDiv, qSlS, tAug, qIpI, Int.zero_add, decide_true, decide_false, sz1, sz2, sz3, sz0, sz4, sz5, sz6, sz7, sz8, sz9, sz10, sz11, sz12, kV_s, kV_i, Nat.reduceLT, Nat.reduceLeDiff, true_implies, Option.isSome_some, Option.isSome_none, String.reduceBEq, Bool.or_false, Bool.or_true, Bool.false_or, Bool.true_or, Bool.and_true, Bool.and_false, Bool.true_and, Bool.false_and, isInt, qIxT hq0]
        refine ⟨_, rfl, wh_use (v := .int _) rfl ?_⟩
        simp only [tSeq, tIfS, tTest, tOp, tVar, L2.tC, tCB, tCons, tNil, tRet, tAsg, gName, gSub, tNot, tOr, tAnd, tFld, tB, tTru, tLM, tCallS, tMethW, tMakeW, tDrop, tNext, tUn, tTup, tLst, sFld, tChain, tAndV, tOrV, tNotV, tIf, tDNewK,
 qAddI, qAddS, qAddL, qMulI, qMulL, qSubI, qI, qUI, qEqS, qNeS, scNI, scIN, scNS, scSN, scNB, scBN, scNN, scII, scSS, scBB, scIS, scSI, scBS, scSB, qInL, qInT, qNiL, qNiT, qInDs, qNiDs, qInDi, qNiDi, qIxL, qIxT, qIxDs, qIxDi, qIxS, qSetL, qSetDs, qSetDi, qLenS, qLenL, qLenT, qLenD, qIs, okInt, okStr, okBool, okList, okTup, okDict, tyNon, tyBl, tyInt, tyStr, qTN, qTB, qTI, qTS, qTL, qLtI, qLeI, qGtI, qGeI, qApp, qCnt, qIdx, flN, flI, flS, flB, qIsL,
 isT_NoneType_int, isT_NoneType_str, isT_NoneType_bool, isT_NoneType_list, isT_NoneType_tuple, isT_NoneType_dict, isT_bool_int, isT_bool_str, isT_bool_bool, isT_bool_list, isT_bool_tuple, isT_bool_dict, isT_int_int, isT_int_str, isT_int_bool, isT_int_list, isT_int_tuple, isT_int_dict, isT_str_int, isT_str_str, isT_str_bool, isT_str_list, isT_str_tuple, isT_str_dict, isT_list_int, isT_list_str, isT_list_bool, isT_list_list, isT_list_tuple, isT_list_dict, isT_tuple_int, isT_tuple_str, isT_tuple_bool, isT_tuple_list, isT_tuple_tuple, isT_tuple_dict, isT_dict_int, isT_dict_str, isT_dict_bool, isT_dict_list, isT_dict_tuple, isT_dict_dict, cxB_K, WF, WE, List.getElem?_cons_zero, List.getElem?_cons_succ, Option.some.injEq, exists_eq_left', exists_eq_left, V.ref.injEq, V.int.injEq, V.str.injEq, V.bl.injEq, HO.ins.injEq, List.cons.injEq, and_true, true_and, exists_and_left, and_assoc, reduceCtorEq, false_and, and_false, exists_false, or_false, false_or, if_true, if_false, Bool.false_eq_true, Bool.not_true, Bool.not_false, ite_true, ite_false, List.mem_singleton, forall_eq, L2.start, List.map_cons, List.map_nil, List.length_cons, List.length_nil, List.replicate, List.cons_append, List.nil_append, Nat.sub_self, Nat.reduceAdd, Nat.reduceSub, List.set_cons_zero, List.set_cons_succ, L2.wipe, tYes, gCons, gNil, tCont, tAndF, tOrF, false_implies, L2.tSl, tNoPart, tPart, tBM, tyVs, Int.reduceLT, Int.reduceLE, CDiv, qSlS, tAug, qIpI, Int.zero_add, decide_true, decide_false, sz1, sz2, sz3, sz0, sz4, sz5, sz6, sz7, sz8, sz9, sz10, sz11, sz12, kV_s, kV_i, Nat.reduceLT, Nat.reduceLeDiff, true_implies, Option.isSome_some, Option.isSome_none, String.reduceBEq, Bool.or_false, Bool.or_true, Bool.false_or, Bool.true_or, Bool.and_true, Bool.and_false, Bool.true_and, Bool.false_and, isInt]
      · rintro σ' H' ⟨x5, rfl, rfl⟩
        simp only [tSeq, tIfS, tTest, tOp, tVar, L2.tC, tCB, tCons, tNil, tRet, tAsg, gName, gSub, tNot, tOr, tAnd, tFld, tB, tTru, tLM, tCallS, tMethW, tMakeW, tDrop, tNext, tUn, tTup, tLst, sFld, tChain, tAndV, tOrV, tNotV, tIf, tDNewK,
 qAddI, qAddS, qAddL, qMulI, qMulL, qSubI, qI, qUI, qEqS, qNeS, scNI, scIN, scNS, scSN, scNB, scBN, scNN, scII, scSS, scBB, scIS, scSI, scBS, scSB, qInL, qInT, qNiL, qNiT, qInDs, qNiDs, qInDi, qNiDi, qIxL, qIxT, qIxDs, qIxDi, qIxS, qSetL, qSetDs, qSetDi, qLenS, qLenL, qLenT, qLenD, qIs, okInt, okStr, okBool, okList, okTup, okDict, tyNon, tyBl, tyInt, tyStr, qTN, qTB, qTI, qTS, qTL, qLtI, qLeI, qGtI, qGeI, qApp, qCnt, qIdx, flN, flI, flS, flB, qIsL,
 isT_NoneType_int, isT_NoneType_str, isT_NoneType_bool, isT_NoneType_list, isT_NoneType_tuple, isT_NoneType_dict, isT_bool_int, isT_bool_str, isT_bool_bool, isT_bool_list, isT_bool_tuple, isT_bool_dict, isT_int_int, isT_int_str, isT_int_bool, isT_int_list, isT_int_tuple, isT_int_dict, isT_str_int, isT_str_str, isT_str_bool, isT_str_list, isT_str_tuple, isT_str_dict, isT_list_int, isT_list_str, isT_list_bool, isT_list_list, isT_list_tuple, isT_list_dict, isT_tuple_int, isT_tuple_str, isT_tuple_bool, isT_tuple_list, isT_tuple_tuple, isT_tuple_dict, isT_dict_int, isT_dict_str, isT_dict_bool, isT_dict_list, isT_dict_tuple, isT_dict_dict, cxB_K, WF, WE, List.getElem?_cons_zero, List.getElem?_cons_succ, Option.some.injEq, exists_eq_left', exists_eq_left, V.ref.injEq, V.int.injEq, V.str.injEq, V.bl.injEq, HO.ins.injEq, List.cons.injEq, and_true, true_and, exists_and_left, and_assoc, reduceCtorEq, false_and, and_false, exists_false, or_false, false_or, if_true, if_false, Bool.false_eq_true, Bool.not_true, Bool.not_false, ite_true, ite_false, List.mem_singleton, forall_eq, L2.start, List.map_cons, List.map_nil, List.length_cons, List.length_nil, List.replicate, List.cons_append, List.nil_append, Nat.sub_self, Nat.reduceAdd, Nat.reduceSub, List.set_cons_zero, List.set_cons_succ, L2.wipe, tYes, gCons, gNil, tCont, tAndF, tOrF, false_implies, L2.tSl, tNoPart, tPart, tBM, tyVs, Int.reduceLT, Int.reduceLE, CDiv, qSlS, tAug, qIpI, Int.zero_add, decide_true, decide_false, sz1, sz2, sz3, sz0, sz4, sz5, sz6, sz7, sz8, sz9, sz10, sz11, sz12, kV_s, kV_i, Nat.reduceLT, Nat.reduceLeDiff, true_implies, Option.isSome_some, Option.isSome_none, String.reduceBEq, Bool.or_false, Bool.or_true, Bool.false_or, Bool.true_or, Bool.and_true, Bool.and_false, Bool.true_and, Bool.false_and, tFor_eq, tLc_eq, iList, iTup, iVals, iItems, iKeysM, iRng1, iRng2, iEnum, iStr, iRev, iZip]
        have hh2 := s2 _ _ (s1 _ _ hh)
        simp only [tSeq, tIfS, tTest, tOp, tVar, L2.tC, tCB, tCons, tNil, tRet, tAsg, gName, gSub, tNot, tOr, tAnd, tFld, tB, tTru, tLM, tCallS, tMethW, tMakeW, tDrop, tNext, tUn, tTup, tLst, sFld, tChain, tAndV, tOrV, tNotV, tIf, tDNewK,
 qAddI, qAddS, qAddL, qMulI, qMulL, qSubI, qI, qUI, qEqS, qNeS, scNI, scIN, scNS, scSN, scNB, scBN, scNN, scII, scSS, scBB, scIS, scSI, scBS, scSB, qInL, qInT, qNiL, qNiT, qInDs, qNiDs, qInDi, qNiDi, qIxL, qIxT, qIxDs, qIxDi, qIxS, qSetL, qSetDs, qSetDi, qLenS, qLenL, qLenT, qLenD, qIs, okInt, okStr, okBool, okList, okTup, okDict, tyNon, tyBl, tyInt, tyStr, qTN, qTB, qTI, qTS, qTL, qLtI, qLeI, qGtI, qGeI, qApp, qCnt, qIdx, flN, flI, flS, flB, qIsL,
 isT_NoneType_int, isT_NoneType_str, isT_NoneType_bool, isT_NoneType_list, isT_NoneType_tuple, isT_NoneType_dict, isT_bool_int, isT_bool_str, isT_bool_bool, isT_bool_list, isT_bool_tuple, isT_bool_dict, isT_int_int, isT_int_str, isT_int_bool, isT_int_list, isT_int_tuple, isT_int_dict, isT_str_int, isT_str_str, isT_str_bool, isT_str_list, isT_str_tuple, isT_str_dict, isT_list_int, isT_list_str, isT_list_bool, isT_list_list, isT_list_tuple, isT_list_dict, isT_tuple_int, isT_tuple_str, isT_tuple_bool, isT_tuple_list, isT_tuple_tuple, isT_tuple_dict, isT_dict_int, isT_dict_str, isT_dict_bool, isT_dict_list, isT_dict_tuple, isT_dict_dict, cxB_K, WF, WE, List.getElem?_cons_zero, List.getElem?_cons_succ, Option.some.injEq, exists_eq_left', exists_eq_left, V.ref.injEq, V.int.injEq, V.str.injEq, V.bl.injEq, HO.ins.injEq, List.cons.injEq, and_true, true_and, exists_and_left, and_assoc, reduceCtorEq, false_and, and_false, exists_false, or_false, false_or, if_true, if_false, Bool.false_eq_true, Bool.not_true, Bool.not_false, ite_true, ite_false, List.mem_singleton, forall_eq, L2.start, List.map_cons, List.map_nil, List.length_cons, List.length_nil, List.replicate, List.cons_append, List.nil_append, Nat.sub_self, Nat.reduceAdd, Nat.reduceSub, List.set_cons_zero, List.set_cons_succ, L2.wipe, tYes, gCons, gNil, tCont, tAndF, tOrF, false_implies, L2.tSl, tNoPart, tPart, tBM, tyVs, Int.reduceLT, Int.reduceLE, CDiv, qSlS, tAug, qIpI, Int.zero_add, decide_true, decide_false, sz1, sz2, sz3, sz0, sz4, sz5, sz6, sz7, sz8, sz9, sz10, sz11, sz12, kV_s, kV_i, Nat.reduceLT, Nat.reduceLeDiff, true_implies, Option.isSome_some, Option.isSome_none, String.reduceBEq, Bool.or_false, Bool.or_true, Bool.false_or, Bool.true_or, Bool.and_true, Bool.and_false, Bool.true_and, Bool.false_and, isLst, hh2]
        refine li_L (s2 _ _ e1) ?_
        intro c hc0 p hp0
        obtain ⟨npc, hp1⟩ := fresh hp0
        have nhc : h ≠ c := ne_of_none hh2 hc0
        have nhp : h ≠ p := ne_of_none hh2 hp1
        have e3 : (upd (upd H' c (.lst ps)) p (.tup [.ref f, .ref c])) h = some (.lst hs) := by rw [upd_ne nhp, upd_ne nhc]; exact hh2
        have hl : hs.length < sizeLine := by rw [sizeLine_eq]; omega
        simp only [tSeq, tIfS, tTest, tOp, tVar, L2.tC, tCB, tCons, tNil, tRet, tAsg, gName, gSub, tNot, tOr, tAnd, tFld, tB, tTru, tLM, tCallS, tMethW, tMakeW, tDrop, tNext, tUn, tTup, tLst, sFld, tChain, tAndV, tOrV, tNotV, tIf, tDNewK,
 qAddI, qAddS, qAddL, qMulI, qMulL, qSubI, qI, qUI, qEqS, qNeS, scNI, scIN, scNS, scSN, scNB, scBN, scNN, scII, scSS, scBB, scIS, scSI, scBS, scSB, qInL, qInT, qNiL, qNiT, qInDs, qNiDs, qInDi, qNiDi, qIxL, qIxT, qIxDs, qIxDi, qIxS, qSetL, qSetDs, qSetDi, qLenS, qLenL, qLenT, qLenD, qIs, okInt, okStr, okBool, okList, okTup, okDict, tyNon, tyBl, tyInt, tyStr, qTN, qTB, qTI, qTS, qTL, qLtI, qLeI, qGtI, qGeI, qApp, qCnt, qIdx, flN, flI, flS, flB, qIsL,
 isT_NoneType_int, isT_NoneType_str, isT_NoneType_bool, isT_NoneType_list, isT_NoneType_tuple, isT_NoneType_dict, isT_bool_int, isT_bool_str, isT_bool_bool, isT_bool_list, isT_bool_tuple, isT_bool_dict, isT_int_int, isT_int_str, isT_int_bool, isT_int_list, isT_int_tuple, isT_int_dict, isT_str_int, isT_str_str, isT_str_bool, isT_str_list, isT_str_tuple, isT_str_dict, isT_list_int, isT_list_str, isT_list_bool, isT_list_list, isT_list_tuple, isT_list_dict, isT_tuple_int, isT_tuple_str, isT_tuple_bool, isT_tuple_list, isT_tuple_tuple, isT_tuple_dict, isT_dict_int, isT_dict_str, isT_dict_bool, isT_dict_list, isT_dict_tuple, isT_dict_dict, cxB_K, WF, WE, List.getElem?_cons_zero, List.getElem?_cons_succ, Option.some.injEq, exists_eq_left', exists_eq_left, V.ref.injEq, V.int.injEq, V.str.injEq, V.bl.injEq, HO.ins.injEq, List.cons.injEq, and_true, true_and, exists_and_left, and_assoc, reduceCtorEq, false_and, and_false, exists_false, or_false, false_or, if_true, if_false, Bool.false_eq_true, Bool.not_true, Bool.not_false, ite_true, ite_false, List.mem_singleton, forall_eq, L2.start, List.map_cons, List.map_nil, List.length_cons, List.length_nil, List.replicate, List.cons_append, List.nil_append, Nat.sub_self, Nat.reduceAdd, Nat.reduceSub, List.set_cons_zero, List.set_cons_succ, L2.wipe, tYes, gCons, gNil, tCont, tAndF, tOrF, false_implies, L2.tSl, tNoPart, tPart, tBM, tyVs, Int.reduceLT, Int.reduceLE, CDiv, qSlS, tAug, qIpI, Int.zero_add, decide_true, decide_false, sz1, sz2, sz3, sz0, sz4, sz5, sz6, sz7, sz8, sz9, sz10, sz11, sz12, kV_s, kV_i, Nat.reduceLT, Nat.reduceLeDiff, true_implies, Option.isSome_some, Option.isSome_none, String.reduceBEq, Bool.or_false, Bool.or_true, Bool.false_or, Bool.true_or, Bool.and_true, Bool.and_false, Bool.true_and, Bool.false_and, qApp e3, hl]
        generalize eHc : upd (upd (upd H' c (.lst ps)) p (.tup [.ref f, .ref c])) h (.lst (hs ++ [.ref p])) = Hc
        have k3 : ∀ b o, b ≠ h → H' b = some o → Hc b = some o := fun b o n e => by
          rw [← eHc, upd_ne n, upd_ne (ne_of_none e hp1), upd_ne (ne_of_none e hc0)]; exact e
        have RC : RepT K none A ts Hc := R.keep fun a o fa e => k3 a o (fun z => nh (by rw [← z]; exact fa)) (s2 _ _ (s1 _ _ e))
        simp only [tSeq, tIfS, tTest, tOp, tVar, L2.tC, tCB, tCons, tNil, tRet, tAsg, gName, gSub, tNot, tOr, tAnd, tFld, tB, tTru, tLM, tCallS, tMethW, tMakeW, tDrop, tNext, tUn, tTup, tLst, sFld, tChain, tAndV, tOrV, tNotV, tIf, tDNewK,
 qAddI, qAddS, qAddL, qMulI, qMulL, qSubI, qI, qUI, qEqS, qNeS, scNI, scIN, scNS, scSN, scNB, scBN, scNN, scII, scSS, scBB, scIS, scSI, scBS, scSB, qInL, qInT, qNiL, qNiT, qInDs, qNiDs, qInDi, qNiDi, qIxL, qIxT, qIxDs, qIxDi, qIxS, qSetL, qSetDs, qSetDi, qLenS, qLenL, qLenT, qLenD, qIs, okInt, okStr, okBool, okList, okTup, okDict, tyNon, tyBl, tyInt, tyStr, qTN, qTB, qTI, qTS, qTL, qLtI, qLeI, qGtI, qGeI, qApp, qCnt, qIdx, flN, flI, flS, flB, qIsL,
 isT_NoneType_int, isT_NoneType_str, isT_NoneType_bool, isT_NoneType_list, isT_NoneType_tuple, isT_NoneType_dict, isT_bool_int, isT_bool_str, isT_bool_bool, isT_bool_list, isT_bool_tuple, isT_bool_dict, isT_int_int, isT_int_str, isT_int_bool, isT_int_list, isT_int_tuple, isT_int_dict, isT_str_int, isT_str_str, isT_str_bool, isT_str_list, isT_str_tuple, isT_str_dict, isT_list_int, isT_list_str, isT_list_bool, isT_list_list, isT_list_tuple, isT_list_dict, isT_tuple_int, isT_tuple_str, isT_tuple_bool, isT_tuple_list, isT_tuple_tuple, isT_tuple_dict, isT_dict_int, isT_dict_str, isT_dict_bool, isT_dict_list, isT_dict_tuple, isT_dict_dict, cxB_K, WF, WE, List.getElem?_cons_zero, List.getElem?_cons_succ, Option.some.injEq, exists_eq_left', exists_eq_left, V.ref.injEq, V.int.injEq, V.str.injEq, V.bl.injEq, HO.ins.injEq, List.cons.injEq, and_true, true_and, exists_and_left, and_assoc, reduceCtorEq, false_and, and_false, exists_false, or_false, false_or, if_true, if_false, Bool.false_eq_true, Bool.not_true, Bool.not_false, ite_true, ite_false, List.mem_singleton, forall_eq, L2.start, List.map_cons, List.map_nil, List.length_cons, List.length_nil, List.replicate, List.cons_append, List.nil_append, Nat.sub_self, Nat.reduceAdd, Nat.reduceSub, List.set_cons_zero, List.set_cons_succ, L2.wipe, tYes, gCons, gNil, tCont, tAndF, tOrF, false_implies, L2.tSl, tNoPart, tPart, tBM, tyVs, Int.reduceLT, Int.reduceLE, CDiv, qSlS, tAug, qIpI, Int.zero_add, decide_true, decide_false, sz1, sz2, sz3, sz0, sz4, sz5, sz6, sz7, sz8, sz9, sz10, sz11, sz12, kV_s, kV_i, Nat.reduceLT, Nat.reduceLeDiff, true_implies, Option.isSome_some, Option.isSome_none, String.reduceBEq, Bool.or_false, Bool.or_true, Bool.false_or, Bool.true_or, Bool.and_true, Bool.and_false, Bool.true_and, Bool.false_and, RC.tI, T.c_Tasks, T.na_Tasks_known, lk_known]
        refine ⟨rfl, (A .tI, .str z), rfl, none, A, ts, RC, rfl, rfl, fun hn => (by dsimp only at hn; rw [hi] at hn; cases hn), fun i' t' hi' et' f2 ps2 H4 hf2 s4 e4 pp4 => ?_⟩
        simp only [tSeq, tIfS, tTest, tOp, tVar, L2.tC, tCB, tCons, tNil, tRet, tAsg, gName, gSub, tNot, tOr, tAnd, tFld, tB, tTru, tLM, tCallS, tMethW, tMakeW, tDrop, tNext, tUn, tTup, tLst, sFld, tChain, tAndV, tOrV, tNotV, tIf, tDNewK,
 qAddI, qAddS, qAddL, qMulI, qMulL, qSubI, qI, qUI, qEqS, qNeS, scNI, scIN, scNS, scSN, scNB, scBN, scNN, scII, scSS, scBB, scIS, scSI, scBS, scSB, qInL, qInT, qNiL, qNiT, qInDs, qNiDs, qInDi, qNiDi, qIxL, qIxT, qIxDs, qIxDi, qIxS, qSetL, qSetDs, qSetDi, qLenS, qLenL, qLenT, qLenD, qIs, okInt, okStr, okBool, okList, okTup, okDict, tyNon, tyBl, tyInt, tyStr, qTN, qTB, qTI, qTS, qTL, qLtI, qLeI, qGtI, qGeI, qApp, qCnt, qIdx, flN, flI, flS, flB, qIsL,
 isT_NoneType_int, isT_NoneType_str, isT_NoneType_bool, isT_NoneType_list, isT_NoneType_tuple, isT_NoneType_dict, isT_bool_int, isT_bool_str, isT_bool_bool, isT_bool_list, isT_bool_tuple, isT_bool_dict, isT_int_int, isT_int_str, isT_int_bool, isT_int_list, isT_int_tuple, isT_int_dict, isT_str_int, isT_str_str, isT_str_bool, isT_str_list, isT_str_tuple, isT_str_dict, isT_list_int, isT_list_str, isT_list_bool, isT_list_list, isT_list_tuple, isT_list_dict, isT_tuple_int, isT_tuple_str, isT_tuple_bool, isT_tuple_list, isT_tuple_tuple, isT_tuple_dict, isT_dict_int, isT_dict_str, isT_dict_bool, isT_dict_list, isT_dict_tuple, isT_dict_dict, cxB_K, WF, WE, List.getElem?_cons_zero, List.getElem?_cons_succ, Option.some.injEq, exists_eq_left', exists_eq_left, V.ref.injEq, V.int.injEq, V.str.injEq, V.bl.injEq, HO.ins.injEq, List.cons.injEq, and_true, true_and, exists_and_left, and_assoc, reduceCtorEq, false_and, and_false, exists_false, or_false, false_or, if_true, if_false, Bool.false_eq_true, Bool.not_true, Bool.not_false, ite_true, ite_false, List.mem_singleton, forall_eq, L2.start, List.map_cons, List.map_nil, List.length_cons, List.length_nil, List.replicate, List.cons_append, List.nil_append, Nat.sub_self, Nat.reduceAdd, Nat.reduceSub, List.set_cons_zero, List.set_cons_succ, L2.wipe, tYes, gCons, gNil, tCont, tAndF, tOrF, false_implies, L2.tSl, tNoPart, tPart, tBM, tyVs, Int.reduceLT, Int.reduceLE, CDiv, qSlS, tAug, qIpI, Int.zero_add, decide_true, decide_false, sz1, sz2, sz3, sz0, sz4, sz5, sz6, sz7, sz8, sz9, sz10, sz11, sz12, kV_s, kV_i, Nat.reduceLT, Nat.reduceLeDiff, true_implies, Option.isSome_some, Option.isSome_none, String.reduceBEq, Bool.or_false, Bool.or_true, Bool.false_or, Bool.true_or, Bool.and_true, Bool.and_false, Bool.true_and, Bool.false_and, isLst, e4]
        intro p2 hp2
        have nf2 : f2 ≠ p2 := ne_of_none e4 hp2
        have e5 : (upd H4 p2 (.tup [.int 0, .int 0])) f2 = some (.lst ps2) := by rw [upd_ne nf2]; exact e4
        have hl2 : ps2.length < sizeLine := by
          have := Paired.length pp4
          have h3 : (slotsOf t'.rows).length ≤ t'.rows.length := by
            unfold slotsOf
            rw [List.length_map]
            exact Nat.le_trans (List.length_filter_le _ _) (by simp)
          have h4 := R.wf.rows t' (List.mem_of_getElem? et')
          rw [sizeLine_eq]; omega
        simp only [tSeq, tIfS, tTest, tOp, tVar, L2.tC, tCB, tCons, tNil, tRet, tAsg, gName, gSub, tNot, tOr, tAnd, tFld, tB, tTru, tLM, tCallS, tMethW, tMakeW, tDrop, tNext, tUn, tTup, tLst, sFld, tChain, tAndV, tOrV, tNotV, tIf, tDNewK,
 qAddI, qAddS, qAddL, qMulI, qMulL, qSubI, qI, qUI, qEqS, qNeS, scNI, scIN, scNS, scSN, scNB, scBN, scNN, scII, scSS, scBB, scIS, scSI, scBS, scSB, qInL, qInT, qNiL, qNiT, qInDs, qNiDs, qInDi, qNiDi, qIxL, qIxT, qIxDs, qIxDi, qIxS, qSetL, qSetDs, qSetDi, qLenS, qLenL, qLenT, qLenD, qIs, okInt, okStr, okBool, okList, okTup, okDict, tyNon, tyBl, tyInt, tyStr, qTN, qTB, qTI, qTS, qTL, qLtI, qLeI, qGtI, qGeI, qApp, qCnt, qIdx, flN, flI, flS, flB, qIsL,
 isT_NoneType_int, isT_NoneType_str, isT_NoneType_bool, isT_NoneType_list, isT_NoneType_tuple, isT_NoneType_dict, isT_bool_int, isT_bool_str, isT_bool_bool, isT_bool_list, isT_bool_tuple, isT_bool_dict, isT_int_int, isT_int_str, isT_int_bool, isT_int_list, isT_int_tuple, isT_int_dict, isT_str_int, isT_str_str, isT_str_bool, isT_str_list, isT_str_tuple, isT_str_dict, isT_list_int, isT_list_str, isT_list_bool, isT_list_list, isT_list_tuple, isT_list_dict, isT_tuple_int, isT_tuple_str, isT_tuple_bool, isT_tuple_list, isT_tuple_tuple, isT_tuple_dict, isT_dict_int, isT_dict_str, isT_dict_bool, isT_dict_list, isT_dict_tuple, isT_dict_dict, cxB_K, WF, WE, List.getElem?_cons_zero, List.getElem?_cons_succ, Option.some.injEq, exists_eq_left', exists_eq_left, V.ref.injEq, V.int.injEq, V.str.injEq, V.bl.injEq, HO.ins.injEq, List.cons.injEq, and_true, true_and, exists_and_left, and_assoc, reduceCtorEq, false_and, and_false, exists_false, or_false, false_or, if_true, if_false, Bool.false_eq_true, Bool.not_true, Bool.not_false, ite_true, ite_false, List.mem_singleton, forall_eq, L2.start, List.map_cons, List.map_nil, List.length_cons, List.length_nil, List.replicate, List.cons_append, List.nil_append, Nat.sub_self, Nat.reduceAdd, Nat.reduceSub, List.set_cons_zero, List.set_cons_succ, L2.wipe, tYes, gCons, gNil, tCont, tAndF, tOrF, false_implies, L2.tSl, tNoPart, tPart, tBM, tyVs, Int.reduceLT, Int.reduceLE, CDiv, qSlS, tAug, qIpI, Int.zero_add, decide_true, decide_false, sz1, sz2, sz3, sz0, sz4, sz5, sz6, sz7, sz8, sz9, sz10, sz11, sz12, kV_s, kV_i, Nat.reduceLT, Nat.reduceLeDiff, true_implies, Option.isSome_some, Option.isSome_none, String.reduceBEq, Bool.or_false, Bool.or_true, Bool.false_or, Bool.true_or, Bool.and_true, Bool.and_false, Bool.true_and, Bool.false_and, qApp e5, hl2]
        have k6 : ∀ b o, Hc b = some o → (upd (upd H4 p2 (.tup [.int 0, .int 0])) f2 (.lst (ps2 ++ [.ref p2]))) b = some o := fun b o e => by
          rw [upd_ne (ne_of_none e hf2), upd_ne (ne_of_none (s4 _ _ e) hp2)]; exact s4 _ _ e
        have kn : ∀ {q}, H q = none → q ≠ h := fun {q} e z => by rw [z, hh] at e; cases e
        have f0 := kn hf
        have ff := s2 _ _ e1
        have c0 : H c = none := none_of (s1.trans s2) hc0
        have p0 : H p = none := none_of (s1.trans s2) hp1
        refine hq _ (.ref p) (fun b o n e => k6 _ _ (k3 b o n (s2 _ _ (s1 _ _ e)))) (k6 _ _ (by rw [← eHc, upd_same])) ?_
        refine ⟨p, f, c, slotsOf t.rows, ps, rfl, p0, hf, c0, k6 _ _ ?_, k6 _ _ (k3 _ _ f0 ff), k6 _ _ ?_, paired_imp pp fun x y ⟨q, e, e0, e1⟩ => ⟨q, e, e0, k6 _ _ (k3 _ _ (kn e0) (s2 _ _ e1))⟩⟩
        · rw [← eHc, upd_ne nhp.symm, upd_same]
        · rw [← eHc, upd_ne nhc.symm, upd_ne npc.symm, upd_same]
end
end Pk

namespace Pk
open PySem PySem.Spec PyProof.Rows L2
/-- from H to H' the held list grew by at most m, all else stays -/
def Grown (H : Hp) (h : Addr) (hs : List V) (m : Nat) (H' : Hp) : Prop := (∀ b o, b ≠ h → H b = some o → H' b = some o) ∧ ∃ vs, H' h = some (.lst (hs ++ vs)) ∧ vs.length ≤ m ∧ ∀ v, v ∈ vs → HeldN H H' v
section
variable {H H1 H2 : Hp} {h : Addr} {hs : List V} {m : Nat} {v : V}
theorem Grown.none (g : Grown H h hs m H1) {b : Addr} (e : H1 b = none) : H b = none := by
  cases e2 : H b with
  | none => rfl
  | some o =>
    obtain ⟨k, vs, e3, _⟩ := g
    by_cases z : b = h
    · rw [z, e3] at e; cases e
    · rw [k b o z e2] at e; cases e
theorem HeldN.fwd (he : ∃ o, H h = some o) (x : HeldN H H1 v) (k : ∀ b o, b ≠ h → H1 b = some o → H2 b = some o) : HeldN H H2 v := by
  obtain ⟨p, f, c, l, ys, e, p0, f0, c0, e1, e2, e3, pp⟩ := x
  obtain ⟨o, ho⟩ := he
  have n : ∀ {q}, H q = Option.none → q ≠ h := fun {q} e z => by rw [z, ho] at e; cases e
  exact ⟨p, f, c, l, ys, e, p0, f0, c0, k _ _ (n p0) e1, k _ _ (n f0) e2, k _ _ (n c0) e3, paired_imp pp fun x y ⟨q, e, q0, e1⟩ => ⟨q, e, q0, k _ _ (n q0) e1⟩⟩
theorem Grown.refl (e : H h = some (.lst hs)) : Grown H h hs 0 H := ⟨fun _ _ _ e => e, [], by rw [List.append_nil]; exact e, Nat.le_refl _, fun v hv => by cases hv⟩
theorem Grown.same (he : ∃ o, H h = some o) (g : Grown H h hs m H1) (s : Same H1 H2) : Grown H h hs m H2 := by
  obtain ⟨k, vs, e, l, a⟩ := g
  exact ⟨fun b o n e => s _ _ (k b o n e), vs, s _ _ e, l, fun v hv => (a v hv).fwd he fun b o _ e => s _ _ e⟩
theorem Grown.mono {m' : Nat} (g : Grown H h hs m H1) (l : m ≤ m') : Grown H h hs m' H1 := by
  obtain ⟨k, vs, e, l1, a⟩ := g
  exact ⟨k, vs, e, Nat.le_trans l1 l, a⟩
theorem Grown.step (he : ∃ o, H h = some o) (g : Grown H h hs m H1) {hs1 : List V} (e1 : H1 h = some (.lst hs1)) (k2 : ∀ b o, b ≠ h → H1 b = some o → H2 b = some o) (e2 : H2 h = some (.lst (hs1 ++ [v]))) (x : HeldN H1 H2 v) : Grown H h hs (m + 1) H2 := by
  have gn := fun {b} => g.none (b := b)
  obtain ⟨k, vs, e, l, a⟩ := g
  rw [e] at e1
  cases e1
  refine ⟨fun b o n e => k2 b o n (k b o n e), vs ++ [v], by rw [← List.append_assoc]; exact e2, by simp; omega, fun u hu => ?_⟩
  rcases List.mem_append.mp hu with hu | hu
  · exact (a u hu).fwd he k2
  · simp at hu
    subst hu
    obtain ⟨p, f, c, l, ys, e, p0, f0, c0, r⟩ := x
    obtain ⟨r1, r2, r3, pp⟩ := r
    exact ⟨p, f, c, l, ys, e, gn p0, gn f0, gn c0, r1, r2, r3, paired_imp pp fun x y ⟨q, e, q0, e1⟩ => ⟨q, e, gn q0, e1⟩⟩
end
section
variable {P : Program} {w : World} {K : PySem.W.Frag} {mg : Str → Option Value} {base : Heap}
theorem runIx_all {ts : List TaskS} (nd : (ts.map (·.name)).Nodup) (ru : ∀ t, t ∈ ts → t.runs = true) {i : Nat} {t : TaskS} (e : ts[i]? = some t) : runIx ts (.str t.name) = some i := by
  have h1 := findT_nd nd e
  have h2 := ru t (List.mem_of_getElem? e)
  simp [runIx, h1, e, h2]
theorem mod2 (n : Int) : n % 2 = 0 ∨ n % 2 = 1 := by omega
def sp_looked (K : PySem.W.Frag) : Sp := Sp.of (fun a : Addr × Addr × Addr × Int => [.ref a.1, .ref a.2.1, .ref a.2.2.1, .int a.2.2.2]) fun a H Q E => ∃ A B ts hs, RepT K none A ts H ∧ a.1 = A .tI ∧ RepL a.2.1 B ts H ∧ (∀ t, t ∈ ts → t.runs = true) ∧
  H a.2.2.1 = some (.lst hs) ∧ hs.length + 2 * ts.length < 10000 ∧ ¬ FT A ts.length a.2.2.1 ∧ ¬ FL a.2.1 B ts.length a.2.2.1 ∧ ∀ H', Grown H a.2.2.1 hs (2 * ts.length) H' → Q (.bl true) H'
theorem ok__law_looked (T : Tx K mg) : Fw P w K mg base 4 (ga K "_law_looked") (sp_looked K) :=
  Fw.mk_of (T.d__law_looked) sc__law_looked (fun _ _ _ _ _ _ us hl => match us, hl with | [_, _, _, _], _ => rfl) (fun _ => rfl) fun cdv Ar outer s H a Q E hr hb => by
    have hu := hr.units
    refine ⟨_, (pss_cons (ps_for poF rfl (pi_list (pe_ix (ix_F hu) (pe_lst (pa_cons (pe_callTy (call_listU rfl) (by rfl) T.n_list (by decide +kernel) (pa_cons (pv 1) pa_nil)) (pa_cons (pe_listRev rfl (by rfl) T.n_list (by rfl) T.n_reversed (pv 1)) pa_nil))) (pe_op op_mod (pv 3) pe_int) (fun _ _ => rfl))) (pg_name (i := 4) sc__law_looked.nd rfl (by first | exact Or.inl rfl | exact Or.inr rfl)) (pss_one (ps_for poF rfl (pi_tup (pe_ix (ix_F hu) (pe_lst (pa_cons (pe_tup (pa_cons pe_int (pa_cons pe_int pa_nil))) (pa_cons (pe_tup (pa_cons pe_int (pa_cons pe_int pa_nil))) pa_nil))) (pe_op op_mod (pe_op op_fdiv (pv 3) pe_int) pe_int) (fun _ _ => rfl))) (pg_name (i := 5) sc__law_looked.nd rfl (by first | exact Or.inl rfl | exact Or.inr rfl)) (pss_consC (ps_if (PW.pt (pw_and (pt_cmpR (op_eqF hu) (pv 5) pe_int (nomark _)) (pw_and1 (pt_not (pt_truF (pe_callW (ok__law_pairs T) (hr.mono (by decide)) T.g__law_pairs (fun σ => L2N.passAt tkF σ) (pa_cons (pv 0) (pa_cons (pv 4) (pa_cons (pe_ix (ix_F hu) (pv 1) (pv 4) (fun _ _ => rfl)) (pa_cons (pv 2) pa_nil))))) (by intro _; rfl)))))) (pss_one (ps_ret pe_bl)) pss_nil)
    (pss_one (ps_if (PW.pt (pw_and (pt_cmpR (op_eqF hu) (pv 5) pe_int (nomark _)) (pw_and1 (pt_not (pt_truF (pe_callW (ok__law_free T) (hr.mono (by decide)) T.g__law_free (fun σ => L2N.passAt tkF σ) (pa_cons (pv 0) (pa_cons (pv 4) (pa_cons (pe_ix (ix_F hu) (pv 1) (pv 4) (fun _ _ => rfl)) pa_nil)))) (by intro _; rfl)))))) (pss_one (ps_ret pe_bl)) pss_nil))))))
    (pss_one (ps_ret pe_bl))), ?_⟩
    obtain ⟨p, d, h, n⟩ := a
    obtain ⟨A, B, ts, hs, R, hp, RL, ru, hh, hlen, nh, nl, hq⟩ := hb
    dsimp only at hp RL hh nh nl hq
    subst hp
    simp only [tSeq, tIfS, tTest, tOp, tVar, L2.tC, tCB, tCons, tNil, tRet, tAsg, gName, gSub, tNot, tOr, tAnd, tFld, tB, tTru, tLM, tCallS, tMethW, tMakeW, tDrop, tNext, tUn, tTup, tLst, sFld, tChain, tAndV, tOrV, tNotV, tIf, tDNewK,
 qAddI, qAddS, qAddL, qMulI, qMulL, qSubI, qI, qUI, qEqS, qNeS, scNI, scIN, scNS, scSN, scNB, scBN, scNN, scII, scSS, scBB, scIS, scSI, scBS, scSB, qInL, qInT, qNiL, qNiT, qInDs, qNiDs, qInDi, qNiDi, qIxL, qIxT, qIxDs, qIxDi, qIxS, qSetL, qSetDs, qSetDi, qLenS, qLenL, qLenT, qLenD, qIs, okInt, okStr, okBool, okList, okTup, okDict, tyNon, tyBl, tyInt, tyStr, qTN, qTB, qTI, qTS, qTL, qLtI, qLeI, qGtI, qGeI, qApp, qCnt, qIdx, flN, flI, flS, flB, qIsL,
 isT_NoneType_int, isT_NoneType_str, isT_NoneType_bool, isT_NoneType_list, isT_NoneType_tuple, isT_NoneType_dict, isT_bool_int, isT_bool_str, isT_bool_bool, isT_bool_list, isT_bool_tuple, isT_bool_dict, isT_int_int, isT_int_str, isT_int_bool, isT_int_list, isT_int_tuple, isT_int_dict, isT_str_int, isT_str_str, isT_str_bool, isT_str_list, isT_str_tuple, isT_str_dict, isT_list_int, isT_list_str, isT_list_bool, isT_list_list, isT_list_tuple, isT_list_dict, isT_tuple_int, isT_tuple_str, isT_tuple_bool, isT_tuple_list, isT_tuple_tuple, isT_tuple_dict, isT_dict_int, isT_dict_str, isT_dict_bool, isT_dict_list, isT_dict_tuple, isT_dict_dict, cxB_K, WF, WE, List.getElem?_cons_zero, List.getElem?_cons_succ, Option.some.injEq, exists_eq_left', exists_eq_left, V.ref.injEq, V.int.injEq, V.str.injEq, V.bl.injEq, HO.ins.injEq, List.cons.injEq, and_true, true_and, exists_and_left, and_assoc, reduceCtorEq, false_and, and_false, exists_false, or_false, false_or, if_true, if_false, Bool.false_eq_true, Bool.not_true, Bool.not_false, ite_true, ite_false, List.mem_singleton, forall_eq, L2.start, List.map_cons, List.map_nil, List.length_cons, List.length_nil, List.replicate, List.cons_append, List.nil_append, Nat.sub_self, Nat.reduceAdd, Nat.reduceSub, List.set_cons_zero, List.set_cons_succ, L2.wipe, tYes, gCons, gNil, tCont, tAndF, tOrF, false_implies, L2.tSl, tNoPart, tPart, tBM, tyVs, Int.reduceLT, Int.reduceLE, CDiv, qSlS, tAug, qIpI, Int.zero_add, decide_true, decide_false, sz1, sz2, sz3, sz0, sz4, sz5, sz6, sz7, sz8, sz9, sz10, sz11, sz12, kV_s, kV_i, Nat.reduceLT, Nat.reduceLeDiff, true_implies, Option.isSome_some, Option.isSome_none, String.reduceBEq, Bool.or_false, Bool.or_true, Bool.false_or, Bool.true_or, Bool.and_true, Bool.and_false, Bool.true_and, Bool.false_and, tFor_eq, tLc_eq, iList, iTup, iVals, iItems, iKeysM, iRng1, iRng2, iEnum, iStr, iRev, iZip, tLRev]
    refine li_D (.inl RL.dk) ?_
    intro l1 hl1
    have s1 := same_upd (o := .lst ((lKvs B ts).map fun kv => kV kv.1)) hl1
    refine ⟨lKvs B ts, .inl (s1 _ _ RL.dk), by have := R.wf.few; simp [lKvs, tKvs]; omega, ?_⟩
    intro l2 hl2 l3 hl3
    have s2 := same_upd (o := .lst ((lKvs B ts).reverse.map fun kv => kV kv.1)) hl2
    have s3 := same_upd (o := .lst [.ref l1, .ref l2]) hl3
    have e3 := upd_same (H := upd (upd H l1 (.lst ((lKvs B ts).map fun kv => kV kv.1))) l2 (.lst ((lKvs B ts).reverse.map fun kv => kV kv.1))) (a := l3) (o := .lst [.ref l1, .ref l2])
    have e1 := s3 _ _ (s2 _ _ (upd_same (H := H) (a := l1) (o := .lst ((lKvs B ts).map fun kv => kV kv.1))))
    have e2 := s3 _ _ (upd_same (H := upd H l1 (.lst ((lKvs B ts).map fun kv => kV kv.1))) (a := l2) (o := .lst ((lKvs B ts).reverse.map fun kv => kV kv.1)))
    have sH := (s1.trans s2).trans s3
    have n1 : H l1 = none := hl1
    have n2 : H l2 = none := none_of s1 hl2
    generalize upd (upd (upd H l1 (.lst ((lKvs B ts).map fun kv => kV kv.1))) l2 (.lst ((lKvs B ts).reverse.map fun kv => kV kv.1))) l3 (.lst [.ref l1, .ref l2]) = Hc at e1 e2 e3 sH ⊢
    have kn : ((lKvs B ts).map fun kv => kV kv.1) = (ts.map (·.name)).map V.str := by
      rw [keys_tKvs, List.map_map]; rfl
    rw [List.map_reverse, kn, ← List.map_reverse] at e2
    rw [kn] at e1
    have pick : ∃ (a : Addr) (L : List Str), atI [V.ref l1, V.ref l2] (n % 2) = some (.ref a) ∧ Hc a = some (.lst (L.map V.str)) ∧ H a = none ∧ L.length = ts.length ∧ ∀ z, z ∈ L → z ∈ ts.map (·.name) := by
      rcases mod2 n with z | z
      · exact ⟨l1, _, by rw [z]; rfl, e1, n1, by simp, fun _ h => h⟩
      · exact ⟨l2, _, by rw [z]; rfl, e2, n2, by simp, fun _ h => List.mem_reverse.mp h⟩
    obtain ⟨a, L, ea, hL, na, hlen2, mem⟩ := pick
    rw [qIxL e3]
    refine ⟨_, ea, a, rfl, ⟨_, .inl (.inl hL)⟩, ?_⟩
    have hh1 := sH _ _ hh
    have nah : a ≠ h := fun z => by rw [z, hh] at na; cases na
    have RT := R.same sH
    have RB := RL.same sH
    refine for_W (walk_list (xs := L.map V.str)) (fun i σ' H' => ∃ x4 x5, σ' = [some (.ref (A .tI)), some (.ref d), some (.ref h), some (.int n), x4, x5] ∧ Grown Hc h hs (2 * i) H') ⟨none, none, rfl, Grown.refl hh1⟩ ?_ ?_ ?_
    · rintro i σ' H' hi ⟨x4, x5, _, g⟩
      exact .inl (.inl (g.1 _ _ nah hL))
    · rintro i x σ' H' H'' hi ⟨x4, x5, rfl, g⟩ ⟨rfl, hx⟩
      rw [List.getElem?_map] at hx
      obtain ⟨z, hz, rfl⟩ := Option.map_eq_some_iff.mp hx
      obtain ⟨t, ht, rfl⟩ := List.mem_map.mp (mem z (List.mem_of_getElem? hz))
      obtain ⟨it, et⟩ := List.mem_iff_getElem?.mp ht
      have hrun := runIx_all R.wf.nd ru et
      simp only [tSeq, tIfS, tTest, tOp, tVar, L2.tC, tCB, tCons, tNil, tRet, tAsg, gName, gSub, tNot, tOr, tAnd, tFld, tB, tTru, tLM, tCallS, tMethW, tMakeW, tDrop, tNext, tUn, tTup, tLst, sFld, tChain, tAndV, tOrV, tNotV, tIf, tDNewK,
 qAddI, qAddS, qAddL, qMulI, qMulL, qSubI, qI, qUI, qEqS, qNeS, scNI, scIN, scNS, scSN, scNB, scBN, scNN, scII, scSS, scBB, scIS, scSI, scBS, scSB, qInL, qInT, qNiL, qNiT, qInDs, qNiDs, qInDi, qNiDi, qIxL, qIxT, qIxDs, qIxDi, qIxS, qSetL, qSetDs, qSetDi, qLenS, qLenL, qLenT, qLenD, qIs, okInt, okStr, okBool, okList, okTup, okDict, tyNon, tyBl, tyInt, tyStr, qTN, qTB, qTI, qTS, qTL, qLtI, qLeI, qGtI, qGeI, qApp, qCnt, qIdx, flN, flI, flS, flB, qIsL,
 isT_NoneType_int, isT_NoneType_str, isT_NoneType_bool, isT_NoneType_list, isT_NoneType_tuple, isT_NoneType_dict, isT_bool_int, isT_bool_str, isT_bool_bool, isT_bool_list, isT_bool_tuple, isT_bool_dict, isT_int_int, isT_int_str, isT_int_bool, isT_int_list, isT_int_tuple, isT_int_dict, isT_str_int, isT_str_str, isT_str_bool, isT_str_list, isT_str_tuple, isT_str_dict, isT_list_int, isT_list_str, isT_list_bool, isT_list_list, isT_list_tuple, isT_list_dict, isT_tuple_int, isT_tuple_str, isT_tuple_bool, isT_tuple_list, isT_tuple_tuple, isT_tuple_dict, isT_dict_int, isT_dict_str, isT_dict_bool, isT_dict_list, isT_dict_tuple, isT_dict_dict, cxB_K, WF, WE, List.getElem?_cons_zero, List.getElem?_cons_succ, Option.some.injEq, exists_eq_left', exists_eq_left, V.ref.injEq, V.int.injEq, V.str.injEq, V.bl.injEq, HO.ins.injEq, List.cons.injEq, and_true, true_and, exists_and_left, and_assoc, reduceCtorEq, false_and, and_false, exists_false, or_false, false_or, if_true, if_false, Bool.false_eq_true, Bool.not_true, Bool.not_false, ite_true, ite_false, List.mem_singleton, forall_eq, L2.start, List.map_cons, List.map_nil, List.length_cons, List.length_nil, List.replicate, List.cons_append, List.nil_append, Nat.sub_self, Nat.reduceAdd, Nat.reduceSub, List.set_cons_zero, List.set_cons_succ, L2.wipe, tYes, gCons, gNil, tCont, tAndF, tOrF, false_implies, L2.tSl, tNoPart, tPart, tBM, tyVs, Int.reduceLT, Int.reduceLE, CDiv, qSlS, tAug, qIpI, Int.zero_add, decide_true, decide_false, sz1, sz2, sz3, sz0, sz4, sz5, sz6, sz7, sz8, sz9, sz10, sz11, sz12, kV_s, kV_i, Nat.reduceLT, Nat.reduceLeDiff, true_implies, Option.isSome_some, Option.isSome_none, String.reduceBEq, Bool.or_false, Bool.or_true, Bool.false_or, Bool.true_or, Bool.and_true, Bool.and_false, Bool.true_and, Bool.false_and, tFor_eq, tLc_eq, iList, iTup, iVals, iItems, iKeysM, iRng1, iRng2, iEnum, iStr, iRev, iZip]
      intro q1 hq1 q2 hq2 q3 hq3
      have t1 := same_upd (o := .tup [.int 0, .int 1]) hq1
      have t2 := same_upd (o := .tup [.int 1, .int 0]) hq2
      have t3 := same_upd (o := .lst [.ref q1, .ref q2]) hq3
      have f3 := upd_same (H := upd (upd H'' q1 (.tup [.int 0, .int 1])) q2 (.tup [.int 1, .int 0])) (a := q3) (o := .lst [.ref q1, .ref q2])
      have f1 := t3 _ _ (t2 _ _ (upd_same (H := H'') (a := q1) (o := .tup [.int 0, .int 1])))
      have f2 := t3 _ _ (upd_same (H := upd H'' q1 (.tup [.int 0, .int 1])) (a := q2) (o := .tup [.int 1, .int 0]))
      have sI := (t1.trans t2).trans t3
      have m1 : H'' q1 = none := hq1
      have m2 : H'' q2 = none := none_of t1 hq2
      generalize upd (upd (upd H'' q1 (.tup [.int 0, .int 1])) q2 (.tup [.int 1, .int 0])) q3 (.lst [.ref q1, .ref q2]) = Hd at f1 f2 f3 sI ⊢
      have g1 := g.same ⟨_, hh1⟩ sI
      have pick2 : ∃ b w0 w1, atI [V.ref q1, V.ref q2] (n / 2 % 2) = some (.ref b) ∧ Hd b = some (.tup [.int w0, .int w1]) ∧ H'' b = none ∧ (w0 = 0 ∨ w0 = 1) ∧ (w1 = 0 ∨ w1 = 1) := by
        rcases mod2 (n / 2) with z | z
        · exact ⟨q1, 0, 1, by rw [z]; rfl, f1, m1, .inl rfl, .inr rfl⟩
        · exact ⟨q2, 1, 0, by rw [z]; rfl, f2, m2, .inr rfl, .inl rfl⟩
      obtain ⟨b, w0, w1, eb, hb2, nb, hw0, hw1⟩ := pick2
      rw [qIxL f3]
      refine ⟨_, eb, b, rfl, ⟨_, .inl (.inl hb2)⟩, ?_⟩
      have nbh : b ≠ h := fun z => by
        obtain ⟨_, vs, e, _⟩ := g
        rw [z, e] at nb; cases nb
      have kb : ∀ {H3 m}, Grown Hc h hs m H3 → (∀ c o, c ≠ h → Hd c = some o → H3 c = some o) → H3 b = some (.tup [.int w0, .int w1]) := fun g k => k _ _ nbh hb2
      refine for_W (walk_tup (xs := [.int w0, .int w1])) (fun j σ' H' => ∃ x5, σ' = [some (.ref (A .tI)), some (.ref d), some (.ref h), some (.int n), some (.str t.name), x5] ∧ Grown Hc h hs (2 * i + j) H' ∧ ∀ c o, c ≠ h → Hd c = some o → H' c = some o)
        ⟨x5, rfl, g1, fun _ _ _ e => e⟩ ?_ ?_ ?_
      · rintro j σ' H3 hj ⟨x5, _, g, k⟩
        exact .inl (.inl (kb g k))
      · rintro j x σ' H3 H4 hj ⟨x5, rfl, g, k⟩ ⟨rfl, hx⟩
        have hw : ∃ v : Int, x = .int v ∧ (v = 0 ∨ v = 1) := by
          match j, hx with
          | 0, hx => cases hx; exact ⟨_, rfl, hw0⟩
          | 1, hx => cases hx; exact ⟨_, rfl, hw1⟩
        obtain ⟨v, rfl, hv⟩ := hw
        have fr := g.1
        have RT4 : RepT K none A ts H4 := RT.keep fun c o fc e => fr c o (fun z => nh (by rw [← z]; exact fc)) e
        have RB4 : RepL d B ts H4 := RB.keep fun c o fc e => fr c o (fun z => nl (by rw [← z]; exact fc)) e
        have vk := RB4.val t.name
        rw [findT_nd R.wf.nd et, Option.map_some] at vk
        have hrow := RB4.at_ it t et
        rcases hv with rfl | rfl
        · refine cut_at (fun σ' H' => σ' = [some (.ref (A .tI)), some (.ref d), some (.ref h), some (.int n), some (.str t.name), some (.int 0)] ∧ Grown Hc h hs (2 * i + (j + 1)) H' ∧ ∀ c o, c ≠ h → Hd c = some o → H' c = some o) (fun N hN => ?_) ?_
          · simp only [tSeq, tIfS, tTest, tOp, tVar, L2.tC, tCB, tCons, tNil, tRet, tAsg, gName, gSub, tNot, tOr, tAnd, tFld, tB, tTru, tLM, tCallS, tMethW, tMakeW, tDrop, tNext, tUn, tTup, tLst, sFld, tChain, tAndV, tOrV, tNotV, tIf, tDNewK,
 qAddI, qAddS, qAddL, qMulI, qMulL, qSubI, qI, qUI, qEqS, qNeS, scNI, scIN, scNS, scSN, scNB, scBN, scNN, scII, scSS, scBB, scIS, scSI, scBS, scSB, qInL, qInT, qNiL, qNiT, qInDs, qNiDs, qInDi, qNiDi, qIxL, qIxT, qIxDs, qIxDi, qIxS, qSetL, qSetDs, qSetDi, qLenS, qLenL, qLenT, qLenD, qIs, okInt, okStr, okBool, okList, okTup, okDict, tyNon, tyBl, tyInt, tyStr, qTN, qTB, qTI, qTS, qTL, qLtI, qLeI, qGtI, qGeI, qApp, qCnt, qIdx, flN, flI, flS, flB, qIsL,
 isT_NoneType_int, isT_NoneType_str, isT_NoneType_bool, isT_NoneType_list, isT_NoneType_tuple, isT_NoneType_dict, isT_bool_int, isT_bool_str, isT_bool_bool, isT_bool_list, isT_bool_tuple, isT_bool_dict, isT_int_int, isT_int_str, isT_int_bool, isT_int_list, isT_int_tuple, isT_int_dict, isT_str_int, isT_str_str, isT_str_bool, isT_str_list, isT_str_tuple, isT_str_dict, isT_list_int, isT_list_str, isT_list_bool, isT_list_list, isT_list_tuple, isT_list_dict, isT_tuple_int, isT_tuple_str, isT_tuple_bool, isT_tuple_list, isT_tuple_tuple, isT_tuple_dict, isT_dict_int, isT_dict_str, isT_dict_bool, isT_dict_list, isT_dict_tuple, isT_dict_dict, cxB_K, WF, WE, List.getElem?_cons_zero, List.getElem?_cons_succ, Option.some.injEq, exists_eq_left', exists_eq_left, V.ref.injEq, V.int.injEq, V.str.injEq, V.bl.injEq, HO.ins.injEq, List.cons.injEq, and_true, true_and, exists_and_left, and_assoc, reduceCtorEq, false_and, and_false, exists_false, or_false, false_or, if_true, if_false, Bool.false_eq_true, Bool.not_true, Bool.not_false, ite_true, ite_false, List.mem_singleton, forall_eq, L2.start, List.map_cons, List.map_nil, List.length_cons, List.length_nil, List.replicate, List.cons_append, List.nil_append, Nat.sub_self, Nat.reduceAdd, Nat.reduceSub, List.set_cons_zero, List.set_cons_succ, L2.wipe, tYes, gCons, gNil, tCont, tAndF, tOrF, false_implies, L2.tSl, tNoPart, tPart, tBM, tyVs, Int.reduceLT, Int.reduceLE, CDiv, qSlS, tAug, qIpI, Int.zero_add, decide_true, decide_false, sz1, sz2, sz3, sz0, sz4, sz5, sz6, sz7, sz8, sz9, sz10, sz11, sz12, kV_s, kV_i, Nat.reduceLT, Nat.reduceLeDiff, true_implies, Option.isSome_some, Option.isSome_none, String.reduceBEq, Bool.or_false, Bool.or_true, Bool.false_or, Bool.true_or, Bool.and_true, Bool.and_false, Bool.true_and, Bool.false_and, qIxDs (.inl RB4.dk), vk]
            obtain ⟨_, vs, e, l, al⟩ := id g
            refine ⟨(A .tI, t.name, B it, h), rfl, A, ts, it, t, hs ++ vs, RT4, rfl, hrun, et, hrow, e, ?_, nh, fun H5 u fr5 e5 hu => ?_⟩
            · have hi3 : i < L.length := (List.getElem?_eq_some_iff.mp hz).1
              have hj2 : j < 2 := hj
              simp
              omega
            · simp only [tSeq, tIfS, tTest, tOp, tVar, L2.tC, tCB, tCons, tNil, tRet, tAsg, gName, gSub, tNot, tOr, tAnd, tFld, tB, tTru, tLM, tCallS, tMethW, tMakeW, tDrop, tNext, tUn, tTup, tLst, sFld, tChain, tAndV, tOrV, tNotV, tIf, tDNewK,
 qAddI, qAddS, qAddL, qMulI, qMulL, qSubI, qI, qUI, qEqS, qNeS, scNI, scIN, scNS, scSN, scNB, scBN, scNN, scII, scSS, scBB, scIS, scSI, scBS, scSB, qInL, qInT, qNiL, qNiT, qInDs, qNiDs, qInDi, qNiDi, qIxL, qIxT, qIxDs, qIxDi, qIxS, qSetL, qSetDs, qSetDi, qLenS, qLenL, qLenT, qLenD, qIs, okInt, okStr, okBool, okList, okTup, okDict, tyNon, tyBl, tyInt, tyStr, qTN, qTB, qTI, qTS, qTL, qLtI, qLeI, qGtI, qGeI, qApp, qCnt, qIdx, flN, flI, flS, flB, qIsL,
 isT_NoneType_int, isT_NoneType_str, isT_NoneType_bool, isT_NoneType_list, isT_NoneType_tuple, isT_NoneType_dict, isT_bool_int, isT_bool_str, isT_bool_bool, isT_bool_list, isT_bool_tuple, isT_bool_dict, isT_int_int, isT_int_str, isT_int_bool, isT_int_list, isT_int_tuple, isT_int_dict, isT_str_int, isT_str_str, isT_str_bool, isT_str_list, isT_str_tuple, isT_str_dict, isT_list_int, isT_list_str, isT_list_bool, isT_list_list, isT_list_tuple, isT_list_dict, isT_tuple_int, isT_tuple_str, isT_tuple_bool, isT_tuple_list, isT_tuple_tuple, isT_tuple_dict, isT_dict_int, isT_dict_str, isT_dict_bool, isT_dict_list, isT_dict_tuple, isT_dict_dict, cxB_K, WF, WE, List.getElem?_cons_zero, List.getElem?_cons_succ, Option.some.injEq, exists_eq_left', exists_eq_left, V.ref.injEq, V.int.injEq, V.str.injEq, V.bl.injEq, HO.ins.injEq, List.cons.injEq, and_true, true_and, exists_and_left, and_assoc, reduceCtorEq, false_and, and_false, exists_false, or_false, false_or, if_true, if_false, Bool.false_eq_true, Bool.not_true, Bool.not_false, ite_true, ite_false, List.mem_singleton, forall_eq, L2.start, List.map_cons, List.map_nil, List.length_cons, List.length_nil, List.replicate, List.cons_append, List.nil_append, Nat.sub_self, Nat.reduceAdd, Nat.reduceSub, List.set_cons_zero, List.set_cons_succ, L2.wipe, tYes, gCons, gNil, tCont, tAndF, tOrF, false_implies, L2.tSl, tNoPart, tPart, tBM, tyVs, Int.reduceLT, Int.reduceLE, CDiv, qSlS, tAug, qIpI, Int.zero_add, decide_true, decide_false, sz1, sz2, sz3, sz0, sz4, sz5, sz6, sz7, sz8, sz9, sz10, sz11, sz12, kV_s, kV_i, Nat.reduceLT, Nat.reduceLeDiff, true_implies, Option.isSome_some, Option.isSome_none, String.reduceBEq, Bool.or_false, Bool.or_true, Bool.false_or, Bool.true_or, Bool.and_true, Bool.and_false, Bool.true_and, Bool.false_and]
              exact hN _ _ ⟨rfl, g.step ⟨_, hh1⟩ e fr5 e5 hu, fun c o n e => fr5 c o n (k c o n e)⟩
          · rintro σ' H5 ⟨rfl, g5, k5⟩
            simp only [tSeq, tIfS, tTest, tOp, tVar, L2.tC, tCB, tCons, tNil, tRet, tAsg, gName, gSub, tNot, tOr, tAnd, tFld, tB, tTru, tLM, tCallS, tMethW, tMakeW, tDrop, tNext, tUn, tTup, tLst, sFld, tChain, tAndV, tOrV, tNotV, tIf, tDNewK,
 qAddI, qAddS, qAddL, qMulI, qMulL, qSubI, qI, qUI, qEqS, qNeS, scNI, scIN, scNS, scSN, scNB, scBN, scNN, scII, scSS, scBB, scIS, scSI, scBS, scSB, qInL, qInT, qNiL, qNiT, qInDs, qNiDs, qInDi, qNiDi, qIxL, qIxT, qIxDs, qIxDi, qIxS, qSetL, qSetDs, qSetDi, qLenS, qLenL, qLenT, qLenD, qIs, okInt, okStr, okBool, okList, okTup, okDict, tyNon, tyBl, tyInt, tyStr, qTN, qTB, qTI, qTS, qTL, qLtI, qLeI, qGtI, qGeI, qApp, qCnt, qIdx, flN, flI, flS, flB, qIsL,
 isT_NoneType_int, isT_NoneType_str, isT_NoneType_bool, isT_NoneType_list, isT_NoneType_tuple, isT_NoneType_dict, isT_bool_int, isT_bool_str, isT_bool_bool, isT_bool_list, isT_bool_tuple, isT_bool_dict, isT_int_int, isT_int_str, isT_int_bool, isT_int_list, isT_int_tuple, isT_int_dict, isT_str_int, isT_str_str, isT_str_bool, isT_str_list, isT_str_tuple, isT_str_dict, isT_list_int, isT_list_str, isT_list_bool, isT_list_list, isT_list_tuple, isT_list_dict, isT_tuple_int, isT_tuple_str, isT_tuple_bool, isT_tuple_list, isT_tuple_tuple, isT_tuple_dict, isT_dict_int, isT_dict_str, isT_dict_bool, isT_dict_list, isT_dict_tuple, isT_dict_dict, cxB_K, WF, WE, List.getElem?_cons_zero, List.getElem?_cons_succ, Option.some.injEq, exists_eq_left', exists_eq_left, V.ref.injEq, V.int.injEq, V.str.injEq, V.bl.injEq, HO.ins.injEq, List.cons.injEq, and_true, true_and, exists_and_left, and_assoc, reduceCtorEq, false_and, and_false, exists_false, or_false, false_or, if_true, if_false, Bool.false_eq_true, Bool.not_true, Bool.not_false, ite_true, ite_false, List.mem_singleton, forall_eq, L2.start, List.map_cons, List.map_nil, List.length_cons, List.length_nil, List.replicate, List.cons_append, List.nil_append, Nat.sub_self, Nat.reduceAdd, Nat.reduceSub, List.set_cons_zero, List.set_cons_succ, L2.wipe, tYes, gCons, gNil, tCont, tAndF, tOrF, false_implies, L2.tSl, tNoPart, tPart, tBM, tyVs, Int.reduceLT, Int.reduceLE, CDiv, qSlS, tAug, qIpI, Int.zero_add, decide_true, decide_false, sz1, sz2, sz3, sz0, sz4, sz5, sz6, sz7, sz8, sz9, sz10, sz11, sz12, kV_s, kV_i, Nat.reduceLT, Nat.reduceLeDiff, true_implies, Option.isSome_some, Option.isSome_none, String.reduceBEq, Bool.or_false, Bool.or_true, Bool.false_or, Bool.true_or, Bool.and_true, Bool.and_false, Bool.true_and, Bool.false_and]
            exact ⟨g5, k5⟩
        · refine cut_at (fun σ' H' => σ' = [some (.ref (A .tI)), some (.ref d), some (.ref h), some (.int n), some (.str t.name), some (.int 1)] ∧ H' = H4) (fun N hN => ?_) ?_
          · simp only [tSeq, tIfS, tTest, tOp, tVar, L2.tC, tCB, tCons, tNil, tRet, tAsg, gName, gSub, tNot, tOr, tAnd, tFld, tB, tTru, tLM, tCallS, tMethW, tMakeW, tDrop, tNext, tUn, tTup, tLst, sFld, tChain, tAndV, tOrV, tNotV, tIf, tDNewK,
 qAddI, qAddS, qAddL, qMulI, qMulL, qSubI, qI, qUI, qEqS, qNeS, scNI, scIN, scNS, scSN, scNB, scBN, scNN, scII, scSS, scBB, scIS, scSI, scBS, scSB, qInL, qInT, qNiL, qNiT, qInDs, qNiDs, qInDi, qNiDi, qIxL, qIxT, qIxDs, qIxDi, qIxS, qSetL, qSetDs, qSetDi, qLenS, qLenL, qLenT, qLenD, qIs, okInt, okStr, okBool, okList, okTup, okDict, tyNon, tyBl, tyInt, tyStr, qTN, qTB, qTI, qTS, qTL, qLtI, qLeI, qGtI, qGeI, qApp, qCnt, qIdx, flN, flI, flS, flB, qIsL,
 isT_NoneType_int, isT_NoneType_str, isT_NoneType_bool, isT_NoneType_list, isT_NoneType_tuple, isT_NoneType_dict, isT_bool_int, isT_bool_str, isT_bool_bool, isT_bool_list, isT_bool_tuple, isT_bool_dict, isT_int_int, isT_int_str, isT_int_bool, isT_int_list, isT_int_tuple, isT_int_dict, isT_str_int, isT_str_str, isT_str_bool, isT_str_list, isT_str_tuple, isT_str_dict, isT_list_int, isT_list_str, isT_list_bool, isT_list_list, isT_list_tuple, isT_list_dict, isT_tuple_int, isT_tuple_str, isT_tuple_bool, isT_tuple_list, isT_tuple_tuple, isT_tuple_dict, isT_dict_int, isT_dict_str, isT_dict_bool, isT_dict_list, isT_dict_tuple, isT_dict_dict, cxB_K, WF, WE, List.getElem?_cons_zero, List.getElem?_cons_succ, Option.some.injEq, exists_eq_left', exists_eq_left, V.ref.injEq, V.int.injEq, V.str.injEq, V.bl.injEq, HO.ins.injEq, List.cons.injEq, and_true, true_and, exists_and_left, and_assoc, reduceCtorEq, false_and, and_false, exists_false, or_false, false_or, if_true, if_false, Bool.false_eq_true, Bool.not_true, Bool.not_false, ite_true, ite_false, List.mem_singleton, forall_eq, L2.start, List.map_cons, List.map_nil, List.length_cons, List.length_nil, List.replicate, List.cons_append, List.nil_append, Nat.sub_self, Nat.reduceAdd, Nat.reduceSub, List.set_cons_zero, List.set_cons_succ, L2.wipe, tYes, gCons, gNil, tCont, tAndF, tOrF, false_implies, L2.tSl, tNoPart, tPart, tBM, tyVs, Int.reduceLT, Int.reduceLE, CDiv, qSlS, tAug, qIpI, Int.zero_add, decide_true, decide_false, sz1, sz2, sz3, sz0, sz4, sz5, sz6, sz7, sz8, sz9, sz10, sz11, sz12, kV_s, kV_i, Nat.reduceLT, Nat.reduceLeDiff, true_implies, Option.isSome_some, Option.isSome_none, String.reduceBEq, Bool.or_false, Bool.or_true, Bool.false_or, Bool.true_or, Bool.and_true, Bool.and_false, Bool.true_and, Bool.false_and]
            exact hN _ _ ⟨rfl, rfl⟩
          · rintro σ' H5 ⟨rfl, rfl⟩
            simp only [tSeq, tIfS, tTest, tOp, tVar, L2.tC, tCB, tCons, tNil, tRet, tAsg, gName, gSub, tNot, tOr, tAnd, tFld, tB, tTru, tLM, tCallS, tMethW, tMakeW, tDrop, tNext, tUn, tTup, tLst, sFld, tChain, tAndV, tOrV, tNotV, tIf, tDNewK,
 qAddI, qAddS, qAddL, qMulI, qMulL, qSubI, qI, qUI, qEqS, qNeS, scNI, scIN, scNS, scSN, scNB, scBN, scNN, scII, scSS, scBB, scIS, scSI, scBS, scSB, qInL, qInT, qNiL, qNiT, qInDs, qNiDs, qInDi, qNiDi, qIxL, qIxT, qIxDs, qIxDi, qIxS, qSetL, qSetDs, qSetDi, qLenS, qLenL, qLenT, qLenD, qIs, okInt, okStr, okBool, okList, okTup, okDict, tyNon, tyBl, tyInt, tyStr, qTN, qTB, qTI, qTS, qTL, qLtI, qLeI, qGtI, qGeI, qApp, qCnt, qIdx, flN, flI, flS, flB, qIsL,
 isT_NoneType_int, isT_NoneType_str, isT_NoneType_bool, isT_NoneType_list, isT_NoneType_tuple, isT_NoneType_dict, isT_bool_int, isT_bool_str, isT_bool_bool, isT_bool_list, isT_bool_tuple, isT_bool_dict, isT_int_int, isT_int_str, isT_int_bool, isT_int_list, isT_int_tuple, isT_int_dict, isT_str_int, isT_str_str, isT_str_bool, isT_str_list, isT_str_tuple, isT_str_dict, isT_list_int, isT_list_str, isT_list_bool, isT_list_list, isT_list_tuple, isT_list_dict, isT_tuple_int, isT_tuple_str, isT_tuple_bool, isT_tuple_list, isT_tuple_tuple, isT_tuple_dict, isT_dict_int, isT_dict_str, isT_dict_bool, isT_dict_list, isT_dict_tuple, isT_dict_dict, cxB_K, WF, WE, List.getElem?_cons_zero, List.getElem?_cons_succ, Option.some.injEq, exists_eq_left', exists_eq_left, V.ref.injEq, V.int.injEq, V.str.injEq, V.bl.injEq, HO.ins.injEq, List.cons.injEq, and_true, true_and, exists_and_left, and_assoc, reduceCtorEq, false_and, and_false, exists_false, or_false, false_or, if_true, if_false, Bool.false_eq_true, Bool.not_true, Bool.not_false, ite_true, ite_false, List.mem_singleton, forall_eq, L2.start, List.map_cons, List.map_nil, List.length_cons, List.length_nil, List.replicate, List.cons_append, List.nil_append, Nat.sub_self, Nat.reduceAdd, Nat.reduceSub, List.set_cons_zero, List.set_cons_succ, L2.wipe, tYes, gCons, gNil, tCont, tAndF, tOrF, false_implies, L2.tSl, tNoPart, tPart, tBM, tyVs, Int.reduceLT, Int.reduceLE, CDiv, qSlS, tAug, qIpI, Int.zero_add, decide_true, decide_false, sz1, sz2, sz3, sz0, sz4, sz5, sz6, sz7, sz8, sz9, sz10, sz11, sz12, kV_s, kV_i, Nat.reduceLT, Nat.reduceLeDiff, true_implies, Option.isSome_some, Option.isSome_none, String.reduceBEq, Bool.or_false, Bool.or_true, Bool.false_or, Bool.true_or, Bool.and_true, Bool.and_false, Bool.true_and, Bool.false_and, qIxDs (.inl RB4.dk), vk]
            refine ⟨(A .tI, t.name, B it), rfl, none, A, ts, it, t, RT4, rfl, hrun, et, hrow, ?_⟩
            simp only [tSeq, tIfS, tTest, tOp, tVar, L2.tC, tCB, tCons, tNil, tRet, tAsg, gName, gSub, tNot, tOr, tAnd, tFld, tB, tTru, tLM, tCallS, tMethW, tMakeW, tDrop, tNext, tUn, tTup, tLst, sFld, tChain, tAndV, tOrV, tNotV, tIf, tDNewK,
 qAddI, qAddS, qAddL, qMulI, qMulL, qSubI, qI, qUI, qEqS, qNeS, scNI, scIN, scNS, scSN, scNB, scBN, scNN, scII, scSS, scBB, scIS, scSI, scBS, scSB, qInL, qInT, qNiL, qNiT, qInDs, qNiDs, qInDi, qNiDi, qIxL, qIxT, qIxDs, qIxDi, qIxS, qSetL, qSetDs, qSetDi, qLenS, qLenL, qLenT, qLenD, qIs, okInt, okStr, okBool, okList, okTup, okDict, tyNon, tyBl, tyInt, tyStr, qTN, qTB, qTI, qTS, qTL, qLtI, qLeI, qGtI, qGeI, qApp, qCnt, qIdx, flN, flI, flS, flB, qIsL,
 isT_NoneType_int, isT_NoneType_str, isT_NoneType_bool, isT_NoneType_list, isT_NoneType_tuple, isT_NoneType_dict, isT_bool_int, isT_bool_str, isT_bool_bool, isT_bool_list, isT_bool_tuple, isT_bool_dict, isT_int_int, isT_int_str, isT_int_bool, isT_int_list, isT_int_tuple, isT_int_dict, isT_str_int, isT_str_str, isT_str_bool, isT_str_list, isT_str_tuple, isT_str_dict, isT_list_int, isT_list_str, isT_list_bool, isT_list_list, isT_list_tuple, isT_list_dict, isT_tuple_int, isT_tuple_str, isT_tuple_bool, isT_tuple_list, isT_tuple_tuple, isT_tuple_dict, isT_dict_int, isT_dict_str, isT_dict_bool, isT_dict_list, isT_dict_tuple, isT_dict_dict, cxB_K, WF, WE, List.getElem?_cons_zero, List.getElem?_cons_succ, Option.some.injEq, exists_eq_left', exists_eq_left, V.ref.injEq, V.int.injEq, V.str.injEq, V.bl.injEq, HO.ins.injEq, List.cons.injEq, and_true, true_and, exists_and_left, and_assoc, reduceCtorEq, false_and, and_false, exists_false, or_false, false_or, if_true, if_false, Bool.false_eq_true, Bool.not_true, Bool.not_false, ite_true, ite_false, List.mem_singleton, forall_eq, L2.start, List.map_cons, List.map_nil, List.length_cons, List.length_nil, List.replicate, List.cons_append, List.nil_append, Nat.sub_self, Nat.reduceAdd, Nat.reduceSub, List.set_cons_zero, List.set_cons_succ, L2.wipe, tYes, gCons, gNil, tCont, tAndF, tOrF, false_implies, L2.tSl, tNoPart, tPart, tBM, tyVs, Int.reduceLT, Int.reduceLE, CDiv, qSlS, tAug, qIpI, Int.zero_add, decide_true, decide_false, sz1, sz2, sz3, sz0, sz4, sz5, sz6, sz7, sz8, sz9, sz10, sz11, sz12, kV_s, kV_i, Nat.reduceLT, Nat.reduceLeDiff, true_implies, Option.isSome_some, Option.isSome_none, String.reduceBEq, Bool.or_false, Bool.or_true, Bool.false_or, Bool.true_or, Bool.and_true, Bool.and_false, Bool.true_and, Bool.false_and]
            exact ⟨g.mono (by omega), k⟩
      · rintro σ' H3 ⟨x5, rfl, g, k⟩
        exact ⟨_, _, rfl, g⟩
    · rintro σ' H' ⟨x4, x5, rfl, g⟩
      simp only [tSeq, tIfS, tTest, tOp, tVar, L2.tC, tCB, tCons, tNil, tRet, tAsg, gName, gSub, tNot, tOr, tAnd, tFld, tB, tTru, tLM, tCallS, tMethW, tMakeW, tDrop, tNext, tUn, tTup, tLst, sFld, tChain, tAndV, tOrV, tNotV, tIf, tDNewK,
 qAddI, qAddS, qAddL, qMulI, qMulL, qSubI, qI, qUI, qEqS, qNeS, scNI, scIN, scNS, scSN, scNB, scBN, scNN, scII, scSS, scBB, scIS, scSI, scBS, scSB, qInL, qInT, qNiL, qNiT, qInDs, qNiDs, qInDi, qNiDi, qIxL, qIxT, qIxDs, qIxDi, qIxS, qSetL, qSetDs, qSetDi, qLenS, qLenL, qLenT, qLenD, qIs, okInt, okStr, okBool, okList, okTup, okDict, tyNon, tyBl, tyInt, tyStr, qTN, qTB, qTI, qTS, qTL, qLtI, qLeI, qGtI, qGeI, qApp, qCnt, qIdx, flN, flI, flS, flB, qIsL,
 isT_NoneType_int, isT_NoneType_str, isT_NoneType_bool, isT_NoneType_list, isT_NoneType_tuple, isT_NoneType_dict, isT_bool_int, isT_bool_str, isT_bool_bool, isT_bool_list, isT_bool_tuple, isT_bool_dict, isT_int_int, isT_int_str, isT_int_bool, isT_int_list, isT_int_tuple, isT_int_dict, isT_str_int, isT_str_str, isT_str_bool, isT_str_list, isT_str_tuple, isT_str_dict, isT_list_int, isT_list_str, isT_list_bool, isT_list_list, isT_list_tuple, isT_list_dict, isT_tuple_int, isT_tuple_str, isT_tuple_bool, isT_tuple_list, isT_tuple_tuple, isT_tuple_dict, isT_dict_int, isT_dict_str, isT_dict_bool, isT_dict_list, isT_dict_tuple, isT_dict_dict, cxB_K, WF, WE, List.getElem?_cons_zero, List.getElem?_cons_succ, Option.some.injEq, exists_eq_left', exists_eq_left, V.ref.injEq, V.int.injEq, V.str.injEq, V.bl.injEq, HO.ins.injEq, List.cons.injEq, and_true, true_and, exists_and_left, and_assoc, reduceCtorEq, false_and, and_false, exists_false, or_false, false_or, if_true, if_false, Bool.false_eq_true, Bool.not_true, Bool.not_false, ite_true, ite_false, List.mem_singleton, forall_eq, L2.start, List.map_cons, List.map_nil, List.length_cons, List.length_nil, List.replicate, List.cons_append, List.nil_append, Nat.sub_self, Nat.reduceAdd, Nat.reduceSub, List.set_cons_zero, List.set_cons_succ, L2.wipe, tYes, gCons, gNil, tCont, tAndF, tOrF, false_implies, L2.tSl, tNoPart, tPart, tBM, tyVs, Int.reduceLT, Int.reduceLE, CDiv, qSlS, tAug, qIpI, Int.zero_add, decide_true, decide_false, sz1, sz2, sz3, sz0, sz4, sz5, sz6, sz7, sz8, sz9, sz10, sz11, sz12, kV_s, kV_i, Nat.reduceLT, Nat.reduceLeDiff, true_implies, Option.isSome_some, Option.isSome_none, String.reduceBEq, Bool.or_false, Bool.or_true, Bool.false_or, Bool.true_or, Bool.and_true, Bool.and_false, Bool.true_and, Bool.false_and]
      rw [List.length_map, hlen2] at g
      have ho : ∃ o, H h = some o := ⟨_, hh⟩
      obtain ⟨k, vs, e, l, al⟩ := g
      exact hq H' ⟨fun b o n e => k b o n (sH _ _ e), vs, e, l, fun v hv => by
        obtain ⟨p, f, c, l, ys, e, p0, f0, c0, r1, r2, r3, pp⟩ := al v hv
        exact ⟨p, f, c, l, ys, e, none_of sH p0, none_of sH f0, none_of sH c0, r1, r2, r3, paired_imp pp fun x y ⟨q, e, q0, e1⟩ => ⟨q, e, none_of sH q0, e1⟩⟩⟩
end
end Pk

namespace Pk
open PySem PySem.Spec PyProof.Rows L2
/-- one of a list, the place by a remainder -/
theorem at_mod {α : Type} (xs : List α) (n : Int) (m : Nat) (h : xs.length = m) (hm : 0 < m) : ∃ v, atI xs (n % (m : Int)) = some v ∧ v ∈ xs := by
  have h0 := Int.emod_nonneg n (show (m : Int) ≠ 0 by omega)
  have h1 := Int.emod_lt_of_pos n (show (0 : Int) < m by omega)
  have h2 : (n % (m : Int)).toNat < xs.length := by omega
  refine ⟨xs[(n % (m : Int)).toNat], ?_, List.getElem_mem h2⟩
  unfold atI ixN
  rw [if_pos h0, if_pos (by omega)]
  exact List.getElem?_eq_getElem h2
theorem names_set {ts : List TaskS} {i : Nat} {t t' : TaskS} (e : ts[i]? = some t) (hn : t'.name = t.name) : (ts.set i t').map (·.name) = ts.map (·.name) := by
  rw [List.map_set, hn]
  exact set_same (by rw [List.getElem?_map, e]; rfl)
theorem runs_set {ts : List TaskS} {i : Nat} {t t' : TaskS} (e : ts[i]? = some t) (ru : ∀ t, t ∈ ts → t.runs = true) (h : t'.runs = true) : ∀ u, u ∈ ts.set i t' → u.runs = true := fun u hu => by
  rcases List.mem_or_eq_of_mem_set hu with z | z
  · exact ru u z
  · rw [z]; exact h
def IsTxt (v : V) : Prop := (∃ k, v = .int k) ∨ ∃ y, v = .str y
section
variable {P : Program} {w : World} {K : PySem.W.Frag} {mg : Str → Option Value} {base : Heap}
theorem m_Tasks_taken_out (T : Tx K mg) : ∀ D, D ∈ [ga K "Tasks"] → MethW P w K mg base 1 "taken_out" D ((fun _ => sp_taken_out K) D) := one_cls T.c_Tasks T.me_Tasks_taken_out (ok_Tasks_taken_out T)
theorem m_Tasks_added (T : Tx K mg) : ∀ D, D ∈ [ga K "Tasks"] → MethW P w K mg base 3 "added" D ((fun _ => sp_added K) D) := one_cls T.c_Tasks T.me_Tasks_added (ok_Tasks_added T)
def FA (A : TR → Addr) (d : Addr) (B : Nat → Addr) (n : Nat) : Addr → Prop := fun a => FT A n a ∨ FL d B n a
def sp_deed (K : PySem.W.Frag) : Sp := Sp.of (fun a : Addr × Addr × Str × Int × Int => [.ref a.1, .ref a.2.1, .str a.2.2.1, .int a.2.2.2.1, .int a.2.2.2.2]) fun a H Q E => ∃ (A : TR → Addr) (B : Nat → Addr) (ts : List TaskS) (i : Nat) (t : TaskS), RepT K none A ts H ∧ a.1 = A .tI ∧ RepL a.2.1 B ts H ∧ (∀ t : TaskS, t ∈ ts → t.runs = true) ∧
  (∀ b, FT A ts.length b → ¬ FL a.2.1 B ts.length b) ∧ ts[i]? = some t ∧ t.name = a.2.2.1 ∧
  ∀ (H' : Hp) (p : Addr) (B' : Nat → Addr) (ts' : List TaskS) (v : V), H' p = some (.tup [v, v]) → IsTxt v → RepT K none A ts' H' → RepL a.2.1 B' ts' H' → ts'.map (·.name) = ts.map (·.name) → (∀ t : TaskS, t ∈ ts' → t.runs = true) → Upd H (FA A a.2.1 B ts.length) H' (FA A a.2.1 B' ts.length) →
    (∀ b, FT A ts.length b → ¬ FL a.2.1 B' ts.length b) → Q (.ref p) H'
theorem ok__law_deed (T : Tx K mg) : Fw P w K mg base 4 (ga K "_law_deed") (sp_deed K) :=
  Fw.mk_of (T.d__law_deed) sc__law_deed (fun _ _ _ _ _ _ us hl => match us, hl with | [_, _, _, _, _], _ => rfl) (fun _ => rfl) fun cdv Ar outer s H a Q E hr hb => by
    have hu := hr.units
    refine ⟨_, (pss_cons (ps_set (i := 5) sc__law_deed.nd rfl (by first | exact Or.inl rfl | exact Or.inr rfl) (pe_op op_mod (pv 3) pe_int))
    (pss_cons (ps_if (pt_cmpR op_ltF (pv 5) pe_int (nomark _)) (pss_cons (ps_set (i := 6) sc__law_deed.nd rfl (by first | exact Or.inl rfl | exact Or.inr rfl) (pe_op op_mod (pv 4) (pe_ix (ix_F hu) (pe_lst (pa_cons pe_int (pa_cons pe_int (pa_cons (pe_op op_pow pe_int pe_int) pa_nil)))) (pe_op op_mod (pe_op op_fdiv (pv 3) pe_int) pe_int) (fun _ _ => rfl))))
    (pss_cons (ps_set (i := 7) sc__law_deed.nd rfl (by first | exact Or.inl rfl | exact Or.inr rfl) (pe_callW (ok__law_put T) (hr.mono (by decide)) T.g__law_put (fun σ => L2N.passAt tkF σ) (pa_cons (pv 0) (pa_cons (pv 2) (pa_cons (pv 6) pa_nil)))))
    (pss_one (ps_ret (pe_tup (pa_cons (pv 7) (pa_cons (pe_callW (ok__law_put_due T) (hr.mono (by decide)) T.g__law_put_due (fun σ => L2N.passAt tkF σ) (pa_cons (pv 1) (pa_cons (pv 2) (pa_cons (pv 6) pa_nil)))) pa_nil))))))) pss_nil)
    (pss_cons (ps_if (pt_cmpR op_ltF (pv 5) pe_int (nomark _)) (pss_cons (ps_set (i := 8) sc__law_deed.nd rfl (by first | exact Or.inl rfl | exact Or.inr rfl) (pe_lst (pa_cons (pe_op op_mod (pv 4) pe_int) (pa_cons (pe_op op_mod (pv 4) pe_int) (pa_cons (pe_op op_mod (pv 4) pe_int) (pa_cons (pe_op op_mod (pv 4) pe_int) (pa_cons (pe_op op_sub pe_int pe_int) (pa_cons pe_int (pa_cons pe_bl (pa_cons pe_bl (pa_cons pe_non (pa_cons pe_str (pa_cons (pe_lst (pa_cons pe_int pa_nil)) (pa_cons (pe_op op_addF pe_int (pe_op op_mod (pv 4) pe_int)) pa_nil))))))))))))))
    (pss_cons (ps_set (i := 9) sc__law_deed.nd rfl (by first | exact Or.inl rfl | exact Or.inr rfl) (pe_ix (ix_F hu) (pv 8) (pe_op op_mod (pe_op op_fdiv (pv 3) pe_int) pe_int) (fun _ _ => rfl)))
    (pss_one (ps_ret (pe_tup (pa_cons (pe_callW (ok__law_at T) (hr.mono (by decide)) T.g__law_at (fun σ => L2N.passAt tkF σ) (pa_cons (pv 0) (pa_cons (pv 2) (pa_cons (pv 9) pa_nil)))) (pa_cons (pe_callW (ok__law_at_due T) (hr.mono (by decide)) T.g__law_at_due (fun σ => L2N.passAt tkF σ) (pa_cons (pv 1) (pa_cons (pv 2) (pa_cons (pv 9) pa_nil)))) pa_nil))))))) pss_nil)
    (pss_cons (ps_set (i := 6) sc__law_deed.nd rfl (by first | exact Or.inl rfl | exact Or.inr rfl) (pe_op op_mod (pv 4) (pe_ix (ix_F hu) (pe_lst (pa_cons pe_int (pa_cons pe_int pa_nil))) (pe_op op_mod (pe_op op_fdiv (pv 3) pe_int) pe_int) (fun _ _ => rfl))))
    (pss_one (ps_ret (pe_tup (pa_cons (pe_methW (pv 0) (m_Tasks_taken_out T) (hr.mono (by decide)) (fun σ => L2N.passAt tkF σ) (pa_cons (pv 6) pa_nil)) (pa_cons (pe_callW (ok__law_out T) (hr.mono (by decide)) T.g__law_out (fun σ => L2N.passAt tkF σ) (pa_cons (pv 1) (pa_cons (pv 6) pa_nil))) pa_nil))))))))), ?_⟩
    obtain ⟨p, d, z, n, m⟩ := a
    obtain ⟨A, B, ts, i, t, R, hp, RL, ru, dj, et, rfl, hq⟩ := hb
    dsimp only at hp RL dj hq
    subst hp
    have hrun := runIx_all R.wf.nd ru et
    have hfind := findT_nd R.wf.nd et
    have rn : ∀ {i' t'}, runIx ts (.str t.name) = some i' → ts[i']? = some t' → i' = i ∧ t' = t := fun {i' t'} h1 h2 => by
      rw [hrun] at h1
      cases h1
      rw [et] at h2
      cases h2
      exact ⟨rfl, rfl⟩
    have h16 := R.wf.rows t (List.mem_of_getElem? et)
    by_cases h6 : n % 9 < 6
    · simp only [tSeq, tIfS, tTest, tOp, tVar, L2.tC, tCB, tCons, tNil, tRet, tAsg, gName, gSub, tNot, tOr, tAnd, tFld, tB, tTru, tLM, tCallS, tMethW, tMakeW, tDrop, tNext, tUn, tTup, tLst, sFld, tChain, tAndV, tOrV, tNotV, tIf, tDNewK,
 qAddI, qAddS, qAddL, qMulI, qMulL, qSubI, qI, qUI, qEqS, qNeS, scNI, scIN, scNS, scSN, scNB, scBN, scNN, scII, scSS, scBB, scIS, scSI, scBS, scSB, qInL, qInT, qNiL, qNiT, qInDs, qNiDs, qInDi, qNiDi, qIxL, qIxT, qIxDs, qIxDi, qIxS, qSetL, qSetDs, qSetDi, qLenS, qLenL, qLenT, qLenD, qIs, okInt, okStr, okBool, okList, okTup, okDict, tyNon, tyBl, tyInt, tyStr, qTN, qTB, qTI, qTS, qTL, qLtI, qLeI, qGtI, qGeI, qApp, qCnt, qIdx, flN, flI, flS, flB, qIsL,
 isT_NoneType_int, isT_NoneType_str, isT_NoneType_bool, isT_NoneType_list, isT_NoneType_tuple, isT_NoneType_dict, isT_bool_int, isT_bool_str, isT_bool_bool, isT_bool_list, isT_bool_tuple, isT_bool_dict, isT_int_int, isT_int_str, isT_int_bool, isT_int_list, isT_int_tuple, isT_int_dict, isT_str_int, isT_str_str, isT_str_bool, isT_str_list, isT_str_tuple, isT_str_dict, isT_list_int, isT_list_str, isT_list_bool, isT_list_list, isT_list_tuple, isT_list_dict, isT_tuple_int, isT_tuple_str, isT_tuple_bool, isT_tuple_list, isT_tuple_tuple, isT_tuple_dict, isT_dict_int, isT_dict_str, isT_dict_bool, isT_dict_list, isT_dict_tuple, isT_dict_dict, cxB_K, WF, WE, List.getElem?_cons_zero, List.getElem?_cons_succ, Option.some.injEq, exists_eq_left', exists_eq_left, V.ref.injEq, V.int.injEq, V.str.injEq, V.bl.injEq, HO.ins.injEq, List.cons.injEq, and_true, true_and, exists_and_left, and_assoc, reduceCtorEq, false_and, and_false, exists_false, or_false, false_or, if_true, if_false, Bool.false_eq_true, Bool.not_true, Bool.not_false, ite_true, ite_false, List.mem_singleton, forall_eq, L2.start, List.map_cons, List.map_nil, List.length_cons, List.length_nil, List.replicate, List.cons_append, List.nil_append, Nat.sub_self, Nat.reduceAdd, Nat.reduceSub, List.set_cons_zero, List.set_cons_succ, L2.wipe, tYes, gCons, gNil, tCont, tAndF, tOrF, false_implies, L2.tSl, tNoPart, tPart, tBM, tyVs, Int.reduceLT, Int.reduceLE, CDiv, qSlS, tAug, qIpI, Int.zero_add, decide_true, decide_false, sz1, sz2, sz3, sz0, sz4, sz5, sz6, sz7, sz8, sz9, sz10, sz11, sz12, kV_s, kV_i, Nat.reduceLT, Nat.reduceLeDiff, true_implies, Option.isSome_some, Option.isSome_none, String.reduceBEq, Bool.or_false, Bool.or_true, Bool.false_or, Bool.true_or, Bool.and_true, Bool.and_false, Bool.true_and, Bool.false_and, h6]
      refine ⟨⟨by decide, by decide, by decide⟩, ?_⟩
      intro l hl
      obtain ⟨x, ex, mx⟩ := at_mod [V.int 6, V.int 41, V.int (10 ^ Int.toNat 9)] (n / 9) 3 rfl (by decide)
      have hx : ∃ k : Int, x = .int k ∧ 0 < k := by
        simp only [List.mem_cons, List.not_mem_nil, or_false] at mx
        rcases mx with rfl | rfl | rfl
        · exact ⟨_, rfl, by decide⟩
        · exact ⟨_, rfl, by decide⟩
        · exact ⟨_, rfl, by decide⟩
      obtain ⟨k, rfl, hk⟩ := hx
      rw [qIxL upd_same]
      refine ⟨_, ex, ?_⟩
      have s0 := same_upd (o := .lst [V.int 6, V.int 41, V.int (10 ^ Int.toNat 9)]) hl
      generalize upd H l (.lst [V.int 6, V.int 41, V.int (10 ^ Int.toNat 9)]) = H0 at s0 ⊢
      have R0 := R.same s0
      have L0 := RL.same s0
      simp only [tSeq, tIfS, tTest, tOp, tVar, L2.tC, tCB, tCons, tNil, tRet, tAsg, gName, gSub, tNot, tOr, tAnd, tFld, tB, tTru, tLM, tCallS, tMethW, tMakeW, tDrop, tNext, tUn, tTup, tLst, sFld, tChain, tAndV, tOrV, tNotV, tIf, tDNewK,
 qAddI, qAddS, qAddL, qMulI, qMulL, qSubI, qI, qUI, qEqS, qNeS, scNI, scIN, scNS, scSN, scNB, scBN, scNN, scII, scSS, scBB, scIS, scSI, scBS, scSB, qInL, qInT, qNiL, qNiT, qInDs, qNiDs, qInDi, qNiDi, qIxL, qIxT, qIxDs, qIxDi, qIxS, qSetL, qSetDs, qSetDi, qLenS, qLenL, qLenT, qLenD, qIs, okInt, okStr, okBool, okList, okTup, okDict, tyNon, tyBl, tyInt, tyStr, qTN, qTB, qTI, qTS, qTL, qLtI, qLeI, qGtI, qGeI, qApp, qCnt, qIdx, flN, flI, flS, flB, qIsL,
 isT_NoneType_int, isT_NoneType_str, isT_NoneType_bool, isT_NoneType_list, isT_NoneType_tuple, isT_NoneType_dict, isT_bool_int, isT_bool_str, isT_bool_bool, isT_bool_list, isT_bool_tuple, isT_bool_dict, isT_int_int, isT_int_str, isT_int_bool, isT_int_list, isT_int_tuple, isT_int_dict, isT_str_int, isT_str_str, isT_str_bool, isT_str_list, isT_str_tuple, isT_str_dict, isT_list_int, isT_list_str, isT_list_bool, isT_list_list, isT_list_tuple, isT_list_dict, isT_tuple_int, isT_tuple_str, isT_tuple_bool, isT_tuple_list, isT_tuple_tuple, isT_tuple_dict, isT_dict_int, isT_dict_str, isT_dict_bool, isT_dict_list, isT_dict_tuple, isT_dict_dict, cxB_K, WF, WE, List.getElem?_cons_zero, List.getElem?_cons_succ, Option.some.injEq, exists_eq_left', exists_eq_left, V.ref.injEq, V.int.injEq, V.str.injEq, V.bl.injEq, HO.ins.injEq, List.cons.injEq, and_true, true_and, exists_and_left, and_assoc, reduceCtorEq, false_and, and_false, exists_false, or_false, false_or, if_true, if_false, Bool.false_eq_true, Bool.not_true, Bool.not_false, ite_true, ite_false, List.mem_singleton, forall_eq, L2.start, List.map_cons, List.map_nil, List.length_cons, List.length_nil, List.replicate, List.cons_append, List.nil_append, Nat.sub_self, Nat.reduceAdd, Nat.reduceSub, List.set_cons_zero, List.set_cons_succ, L2.wipe, tYes, gCons, gNil, tCont, tAndF, tOrF, false_implies, L2.tSl, tNoPart, tPart, tBM, tyVs, Int.reduceLT, Int.reduceLE, CDiv, qSlS, tAug, qIpI, Int.zero_add, decide_true, decide_false, sz1, sz2, sz3, sz0, sz4, sz5, sz6, sz7, sz8, sz9, sz10, sz11, sz12, kV_s, kV_i, Nat.reduceLT, Nat.reduceLeDiff, true_implies, Option.isSome_some, Option.isSome_none, String.reduceBEq, Bool.or_false, Bool.or_true, Bool.false_or, Bool.true_or, Bool.and_true, Bool.and_false, Bool.true_and, Bool.false_and, hk]
      refine ⟨(A .tI, .str t.name, m % k), rfl, none, A, ts, R0, rfl, rfl, fun hn => (by dsimp only at hn; rw [hrun] at hn; cases hn), fun i' t' hi et' => ?_⟩
      obtain ⟨rfl, rfl⟩ := rn hi et'
      refine ⟨fun hf H1 s1 => ?_, fun j hj => ?_⟩
      · refine ⟨(d, t'.name, m % k), rfl, B, ts, i', t', L0.same s1, hfind, et, fun _ => ?_, fun j hj => (by rw [hf] at hj; cases hj)⟩
        intro p hp
        have s2 := (s0.trans s1).trans (same_upd (o := .tup [.str "TooMany", .str "TooMany"]) hp)
        exact hq _ p B ts _ upd_same (.inr ⟨_, rfl⟩) (R.same s2) (RL.same s2) rfl ru (Upd.of_same s2) dj
      · have fr := FT.row (A := A) et
        have fl := FL.row (d := d) (B := B) et
        have hlen : (t'.rows.set j (some (m % k))).length = 16 := by rw [List.length_set]; exact h16
        have R2 := R0.upRow et hlen
        have L2 : RepL d B ts (upd H0 (A (.aR i')) (.lst ((t'.rows.set j (some (m % k))).map optV))) := L0.keep fun a o fa e => by rw [upd_ne (fun z => dj _ fr (by rw [← z]; exact fa))]; exact e
        refine ⟨(d, t'.name, m % k), rfl, B, ts, i', t', L2, hfind, et, fun hf => (by rw [hf] at hj; cases hj), fun j' hj' => ?_⟩
        rw [hj] at hj'
        cases hj'
        intro p hp
        have L3 := L2.upRow et (t'.rows.set j (some (m % k)))
        have R3 : RepT K none A (ts.set i' { t' with rows := t'.rows.set j (some (m % k)) }) (upd (upd H0 (A (.aR i')) (.lst ((t'.rows.set j (some (m % k))).map optV))) (B i') (.lst ((t'.rows.set j (some (m % k))).map optV))) :=
          R2.keep fun a o fa e => by rw [upd_ne (fun z => dj (B i') (by rw [← z]; rw [List.length_set] at fa; exact fa) fl)]; exact e
        have s3 := same_upd (o := .tup [.int j, .int j]) hp
        refine hq _ p B (ts.set i' { t' with rows := t'.rows.set j (some (m % k)) }) _ upd_same (.inl ⟨_, rfl⟩) (R3.same s3) (L3.same s3) (names_set et rfl) (runs_set et ru (ru t' (List.mem_of_getElem? et))) ?_ dj
        exact (((Upd.of_same s0).trans (upd_owned (.inl fr))).trans (upd_owned (.inr fl))).trans (Upd.of_same s3)
    · by_cases h8 : n % 9 < 8
      · simp only [tSeq, tIfS, tTest, tOp, tVar, L2.tC, tCB, tCons, tNil, tRet, tAsg, gName, gSub, tNot, tOr, tAnd, tFld, tB, tTru, tLM, tCallS, tMethW, tMakeW, tDrop, tNext, tUn, tTup, tLst, sFld, tChain, tAndV, tOrV, tNotV, tIf, tDNewK,
 qAddI, qAddS, qAddL, qMulI, qMulL, qSubI, qI, qUI, qEqS, qNeS, scNI, scIN, scNS, scSN, scNB, scBN, scNN, scII, scSS, scBB, scIS, scSI, scBS, scSB, qInL, qInT, qNiL, qNiT, qInDs, qNiDs, qInDi, qNiDi, qIxL, qIxT, qIxDs, qIxDi, qIxS, qSetL, qSetDs, qSetDi, qLenS, qLenL, qLenT, qLenD, qIs, okInt, okStr, okBool, okList, okTup, okDict, tyNon, tyBl, tyInt, tyStr, qTN, qTB, qTI, qTS, qTL, qLtI, qLeI, qGtI, qGeI, qApp, qCnt, qIdx, flN, flI, flS, flB, qIsL,
 isT_NoneType_int, isT_NoneType_str, isT_NoneType_bool, isT_NoneType_list, isT_NoneType_tuple, isT_NoneType_dict, isT_bool_int, isT_bool_str, isT_bool_bool, isT_bool_list, isT_bool_tuple, isT_bool_dict, isT_int_int, isT_int_str, isT_int_bool, isT_int_list, isT_int_tuple, isT_int_dict, isT_str_int, isT_str_str, isT_str_bool, isT_str_list, isT_str_tuple, isT_str_dict, isT_list_int, isT_list_str, isT_list_bool, isT_list_list, isT_list_tuple, isT_list_dict, isT_tuple_int, isT_tuple_str, isT_tuple_bool, isT_tuple_list, isT_tuple_tuple, isT_tuple_dict, isT_dict_int, isT_dict_str, isT_dict_bool, isT_dict_list, isT_dict_tuple, isT_dict_dict, cxB_K, WF, WE, List.getElem?_cons_zero, List.getElem?_cons_succ, Option.some.injEq, exists_eq_left', exists_eq_left, V.ref.injEq, V.int.injEq, V.str.injEq, V.bl.injEq, HO.ins.injEq, List.cons.injEq, and_true, true_and, exists_and_left, and_assoc, reduceCtorEq, false_and, and_false, exists_false, or_false, false_or, if_true, if_false, Bool.false_eq_true, Bool.not_true, Bool.not_false, ite_true, ite_false, List.mem_singleton, forall_eq, L2.start, List.map_cons, List.map_nil, List.length_cons, List.length_nil, List.replicate, List.cons_append, List.nil_append, Nat.sub_self, Nat.reduceAdd, Nat.reduceSub, List.set_cons_zero, List.set_cons_succ, L2.wipe, tYes, gCons, gNil, tCont, tAndF, tOrF, false_implies, L2.tSl, tNoPart, tPart, tBM, tyVs, Int.reduceLT, Int.reduceLE, CDiv, qSlS, tAug, qIpI, Int.zero_add, decide_true, decide_false, sz1, sz2, sz3, sz0, sz4, sz5, sz6, sz7, sz8, sz9, sz10, sz11, sz12, kV_s, kV_i, Nat.reduceLT, Nat.reduceLeDiff, true_implies, Option.isSome_some, Option.isSome_none, String.reduceBEq, Bool.or_false, Bool.or_true, Bool.false_or, Bool.true_or, Bool.and_true, Bool.and_false, Bool.true_and, Bool.false_and, h6, h8]
        intro q hq0 l hl
        have s1 := same_upd (o := .lst [.int 0]) hq0
        have eq0 : (upd H q (.lst [.int 0])) q = some (.lst [.int 0]) := upd_same
        obtain ⟨x, ex, mx⟩ := at_mod [V.int (m % 16), V.int (m % 4), V.int (m % 16), V.int (m % 8), V.int (0 - 1), V.int 16, V.bl true, V.bl false, V.non, V.str "0", V.ref q, V.int (16 + m % 99)] (n / 9) 12 rfl (by decide)
        have s2 := same_upd (o := .lst [V.int (m % 16), V.int (m % 4), V.int (m % 16), V.int (m % 8), V.int (0 - 1), V.int 16, V.bl true, V.bl false, V.non, V.str "0", V.ref q, V.int (16 + m % 99)]) hl
        rw [qIxL upd_same]
        refine ⟨_, ex, ?_⟩
        have eq1 := s2 _ _ eq0
        have s0 := s1.trans s2
        generalize upd (upd H q (.lst [.int 0])) l (.lst [V.int (m % 16), V.int (m % 4), V.int (m % 16), V.int (m % 8), V.int (0 - 1), V.int 16, V.bl true, V.bl false, V.non, V.str "0", V.ref q, V.int (16 + m % 99)]) = H0 at s0 eq1 ⊢
        have hx : ∀ H1, Same H0 H1 → (tyName H1 x).isSome = true := fun H1 s => by
          simp only [List.mem_cons, List.not_mem_nil, or_false] at mx
          rcases mx with rfl | rfl | rfl | rfl | rfl | rfl | rfl | rfl | rfl | rfl | rfl | rfl <;> first | rfl | (rw [tyLst (s _ _ eq1)]; rfl)
        have R0 := R.same s0
        have L0 := RL.same s0
        refine ⟨(A .tI, .str t.name, x), rfl, none, A, ts, R0, rfl, rfl, hx _ (Same.refl _), fun hn => (by dsimp only at hn; rw [hrun] at hn; cases hn), fun i' t' hi et' => ?_⟩
        obtain ⟨rfl, rfl⟩ := rn hi et'
        refine ⟨fun hf H1 s1 => ?_, fun k hk => ?_⟩
        · refine ⟨(d, t'.name, x), rfl, B, ts, i', t', L0.same s1, hfind, et, h16, hx _ s1, fun _ => ?_, fun k hk => (by rw [hf] at hk; cases hk)⟩
          intro p hp
          have s2 := (s0.trans s1).trans (same_upd (o := .tup [.str "NoHandle", .str "NoHandle"]) hp)
          exact hq _ p B ts _ upd_same (.inr ⟨_, rfl⟩) (R.same s2) (RL.same s2) rfl ru (Upd.of_same s2) dj
        · refine ⟨(d, t'.name, x), rfl, B, ts, i', t', L0, hfind, et, h16, hx _ (Same.refl _), fun hf => (by rw [hf] at hk; cases hk), fun k' hk' => ?_⟩
          rw [hk] at hk'
          cases hk'
          intro p hp
          have s2 := s0.trans (same_upd (o := .tup [.int k, .int k]) hp)
          exact hq _ p B ts _ upd_same (.inl ⟨_, rfl⟩) (R.same s2) (RL.same s2) rfl ru (Upd.of_same s2) dj
      · simp only [tSeq, tIfS, tTest, tOp, tVar, L2.tC, tCB, tCons, tNil, tRet, tAsg, gName, gSub, tNot, tOr, tAnd, tFld, tB, tTru, tLM, tCallS, tMethW, tMakeW, tDrop, tNext, tUn, tTup, tLst, sFld, tChain, tAndV, tOrV, tNotV, tIf, tDNewK,
 qAddI, qAddS, qAddL, qMulI, qMulL, qSubI, qI, qUI, qEqS, qNeS, scNI, scIN, scNS, scSN, scNB, scBN, scNN, scII, scSS, scBB, scIS, scSI, scBS, scSB, qInL, qInT, qNiL, qNiT, qInDs, qNiDs, qInDi, qNiDi, qIxL, qIxT, qIxDs, qIxDi, qIxS, qSetL, qSetDs, qSetDi, qLenS, qLenL, qLenT, qLenD, qIs, okInt, okStr, okBool, okList, okTup, okDict, tyNon, tyBl, tyInt, tyStr, qTN, qTB, qTI, qTS, qTL, qLtI, qLeI, qGtI, qGeI, qApp, qCnt, qIdx, flN, flI, flS, flB, qIsL,
 isT_NoneType_int, isT_NoneType_str, isT_NoneType_bool, isT_NoneType_list, isT_NoneType_tuple, isT_NoneType_dict, isT_bool_int, isT_bool_str, isT_bool_bool, isT_bool_list, isT_bool_tuple, isT_bool_dict, isT_int_int, isT_int_str, isT_int_bool, isT_int_list, isT_int_tuple, isT_int_dict, isT_str_int, isT_str_str, isT_str_bool, isT_str_list, isT_str_tuple, isT_str_dict, isT_list_int, isT_list_str, isT_list_bool, isT_list_list, isT_list_tuple, isT_list_dict, isT_tuple_int, isT_tuple_str, isT_tuple_bool, isT_tuple_list, isT_tuple_tuple, isT_tuple_dict, isT_dict_int, isT_dict_str, isT_dict_bool, isT_dict_list, isT_dict_tuple, isT_dict_dict, cxB_K, WF, WE, List.getElem?_cons_zero, List.getElem?_cons_succ, Option.some.injEq, exists_eq_left', exists_eq_left, V.ref.injEq, V.int.injEq, V.str.injEq, V.bl.injEq, HO.ins.injEq, List.cons.injEq, and_true, true_and, exists_and_left, and_assoc, reduceCtorEq, false_and, and_false, exists_false, or_false, false_or, if_true, if_false, Bool.false_eq_true, Bool.not_true, Bool.not_false, ite_true, ite_false, List.mem_singleton, forall_eq, L2.start, List.map_cons, List.map_nil, List.length_cons, List.length_nil, List.replicate, List.cons_append, List.nil_append, Nat.sub_self, Nat.reduceAdd, Nat.reduceSub, List.set_cons_zero, List.set_cons_succ, L2.wipe, tYes, gCons, gNil, tCont, tAndF, tOrF, false_implies, L2.tSl, tNoPart, tPart, tBM, tyVs, Int.reduceLT, Int.reduceLE, CDiv, qSlS, tAug, qIpI, Int.zero_add, decide_true, decide_false, sz1, sz2, sz3, sz0, sz4, sz5, sz6, sz7, sz8, sz9, sz10, sz11, sz12, kV_s, kV_i, Nat.reduceLT, Nat.reduceLeDiff, true_implies, Option.isSome_some, Option.isSome_none, String.reduceBEq, Bool.or_false, Bool.or_true, Bool.false_or, Bool.true_or, Bool.and_true, Bool.and_false, Bool.true_and, Bool.false_and, h6, h8]
        intro l hl
        obtain ⟨x, ex, mx⟩ := at_mod [V.int 6, V.int 41] (n / 9) 2 rfl (by decide)
        have hx : ∃ k : Int, x = .int k ∧ 0 < k := by
          simp only [List.mem_cons, List.not_mem_nil, or_false] at mx
          rcases mx with rfl | rfl
          · exact ⟨_, rfl, by decide⟩
          · exact ⟨_, rfl, by decide⟩
        obtain ⟨k, rfl, hk⟩ := hx
        rw [qIxL upd_same]
        refine ⟨_, ex, ?_⟩
        have s0 := same_upd (o := .lst [V.int 6, V.int 41]) hl
        generalize upd H l (.lst [V.int 6, V.int 41]) = H0 at s0 ⊢
        have R0 := R.same s0
        have L0 := RL.same s0
        simp only [tSeq, tIfS, tTest, tOp, tVar, L2.tC, tCB, tCons, tNil, tRet, tAsg, gName, gSub, tNot, tOr, tAnd, tFld, tB, tTru, tLM, tCallS, tMethW, tMakeW, tDrop, tNext, tUn, tTup, tLst, sFld, tChain, tAndV, tOrV, tNotV, tIf, tDNewK,
 qAddI, qAddS, qAddL, qMulI, qMulL, qSubI, qI, qUI, qEqS, qNeS, scNI, scIN, scNS, scSN, scNB, scBN, scNN, scII, scSS, scBB, scIS, scSI, scBS, scSB, qInL, qInT, qNiL, qNiT, qInDs, qNiDs, qInDi, qNiDi, qIxL, qIxT, qIxDs, qIxDi, qIxS, qSetL, qSetDs, qSetDi, qLenS, qLenL, qLenT, qLenD, qIs, okInt, okStr, okBool, okList, okTup, okDict, tyNon, tyBl, tyInt, tyStr, qTN, qTB, qTI, qTS, qTL, qLtI, qLeI, qGtI, qGeI, qApp, qCnt, qIdx, flN, flI, flS, flB, qIsL,
 isT_NoneType_int, isT_NoneType_str, isT_NoneType_bool, isT_NoneType_list, isT_NoneType_tuple, isT_NoneType_dict, isT_bool_int, isT_bool_str, isT_bool_bool, isT_bool_list, isT_bool_tuple, isT_bool_dict, isT_int_int, isT_int_str, isT_int_bool, isT_int_list, isT_int_tuple, isT_int_dict, isT_str_int, isT_str_str, isT_str_bool, isT_str_list, isT_str_tuple, isT_str_dict, isT_list_int, isT_list_str, isT_list_bool, isT_list_list, isT_list_tuple, isT_list_dict, isT_tuple_int, isT_tuple_str, isT_tuple_bool, isT_tuple_list, isT_tuple_tuple, isT_tuple_dict, isT_dict_int, isT_dict_str, isT_dict_bool, isT_dict_list, isT_dict_tuple, isT_dict_dict, cxB_K, WF, WE, List.getElem?_cons_zero, List.getElem?_cons_succ, Option.some.injEq, exists_eq_left', exists_eq_left, V.ref.injEq, V.int.injEq, V.str.injEq, V.bl.injEq, HO.ins.injEq, List.cons.injEq, and_true, true_and, exists_and_left, and_assoc, reduceCtorEq, false_and, and_false, exists_false, or_false, false_or, if_true, if_false, Bool.false_eq_true, Bool.not_true, Bool.not_false, ite_true, ite_false, List.mem_singleton, forall_eq, L2.start, List.map_cons, List.map_nil, List.length_cons, List.length_nil, List.replicate, List.cons_append, List.nil_append, Nat.sub_self, Nat.reduceAdd, Nat.reduceSub, List.set_cons_zero, List.set_cons_succ, L2.wipe, tYes, gCons, gNil, tCont, tAndF, tOrF, false_implies, L2.tSl, tNoPart, tPart, tBM, tyVs, Int.reduceLT, Int.reduceLE, CDiv, qSlS, tAug, qIpI, Int.zero_add, decide_true, decide_false, sz1, sz2, sz3, sz0, sz4, sz5, sz6, sz7, sz8, sz9, sz10, sz11, sz12, kV_s, kV_i, Nat.reduceLT, Nat.reduceLeDiff, true_implies, Option.isSome_some, Option.isSome_none, String.reduceBEq, Bool.or_false, Bool.or_true, Bool.false_or, Bool.true_or, Bool.and_true, Bool.and_false, Bool.true_and, Bool.false_and, hk, R0.tI]
        refine ⟨rfl, (A .tI, m % k), rfl, A, ts, R0, rfl, fun H1 R1 U1 => ?_⟩
        have L1 : RepL d B ts H1 := L0.keep fun a o fa e => U1.keep a o e fun fa2 => dj a fa2 fa
        refine ⟨(d, m % k), rfl, B, ts, L1, R.wf, fun B' H2 L2 U2 => ?_⟩
        intro p hp
        have dj2 : ∀ b, FT A ts.length b → ¬ FL d B' ts.length b := fun b fb fb2 => by
          rcases U2.grow b fb2 with g | g
          · exact dj b fb g
          · have : FT A (ts.map (outT (m % k))).length b := by rw [List.length_map]; exact fb
            exact R1.live this g
        have R2 : RepT K none A (ts.map (outT (m % k))) H2 := R1.keep fun a o fa e => U2.keep a o e fun fa2 => dj a (by rw [List.length_map] at fa; exact fa) fa2
        have s3 := same_upd (o := .tup [.int (outs (m % k) ts : Nat), .int (outs (m % k) ts : Nat)]) hp
        refine hq _ p B' (ts.map (outT (m % k))) _ upd_same (.inl ⟨_, rfl⟩) (R2.same s3) (L2.same s3) (by rw [List.map_map]; rfl) (fun u hu => ?_) ?_ dj2
        · obtain ⟨v, hv, rfl⟩ := List.mem_map.mp hu
          exact ru v hv
        · have V1 : Upd H0 (FA A d B ts.length) H1 (FA A d B ts.length) := ⟨fun b o e n => U1.keep b o e fun f => n (.inl f), fun b h => .inl h⟩
          have V2 : Upd H1 (FA A d B ts.length) H2 (FA A d B' ts.length) := ⟨fun b o e n => U2.keep b o e fun f => n (.inr f), fun b h => by
            rcases h with h | h
            · exact .inl (.inl h)
            · exact (U2.grow b h).imp .inr id⟩
          exact (((Upd.of_same s0).trans V1).trans V2).trans (Upd.of_same s3)
end
end Pk

namespace Pk
open PySem PySem.Spec PyProof.Rows L2
/-! ### the names: names, no two alike -/
theorem nameL_len (ns : List Int) (k : Int) : 1 ≤ (nameL ns k).length ∧ (nameL ns k).length ≤ 8 := by
  have h0 := sizeN_lo ns
  have h1 := sizeN_hi ns
  have h2 := atN_lo ns
  have h3 := atN_hi ns
  have hb := baseL_len ns
  have e1 := Int.emod_nonneg (k + sizeN ns) (show (8 : Int) ≠ 0 by decide)
  have e2 := Int.emod_lt_of_pos (k + sizeN ns) (show (0 : Int) < 8 by decide)
  unfold nameL
  split <;> simp [hb] <;> omega
theorem baseL_mem {ns : List Int} {c : Nat} (h : c ∈ baseL ns) : c ∈ letters := by
  obtain ⟨j, _, rfl⟩ := List.mem_map.mp h
  exact letN_mem _
theorem nameL_mem {ns : List Int} {k : Int} {c : Nat} (h : c ∈ nameL ns k) : c ∈ letters := by
  unfold nameL at h
  split at h
  · rcases List.mem_append.mp h with h | h
    · rcases List.mem_append.mp h with h | h
      · exact baseL_mem (List.mem_of_mem_take h)
      · simp at h; subst h; exact letN_mem _
    · exact baseL_mem (List.mem_of_mem_drop (List.mem_of_mem_take h))
  · rcases List.mem_append.mp h with h | h
    · simp at h; subst h; exact letN_mem _
    · exact baseL_mem (List.mem_of_mem_take h)
theorem nameL_name (ns : List Int) (k : Int) : isName (.str (strL (nameL ns k))) = true := by
  obtain ⟨h1, h2⟩ := nameL_len ns k
  show (decide (1 ≤ (strL (nameL ns k)).length) && decide ((strL (nameL ns k)).length ≤ 8) && (strL (nameL ns k)).cps.toList.all fun c => decide (c ∈ letters)) = true
  rw [strL_len, strL_tl]
  simp only [Bool.and_eq_true, decide_eq_true_eq, List.all_eq_true]
  exact ⟨⟨h1, h2⟩, fun c hc => nameL_mem hc⟩
/-- the sign that tells them apart stands at one place -/
theorem nameL_sign (ns : List Int) : ∃ j : Nat, ∀ k : Int, (nameL ns k)[j]? = some (letN ((mixP ns 1 + k) % 26)) := by
  have h2 := atN_lo ns
  have h3 := atN_hi ns
  have h1 := sizeN_hi ns
  have hb := baseL_len ns
  by_cases hc : 0 < mixP ns 1 / 208 % 3
  · refine ⟨(atN ns).toNat, fun k => ?_⟩
    unfold nameL
    rw [if_pos hc, List.append_assoc, List.getElem?_append_right (by simp [hb]; omega)]
    simp [hb]
    have : min (atN ns).toNat 8 = (atN ns).toNat := by omega
    rw [this, Nat.sub_self]
    rfl
  · refine ⟨0, fun k => ?_⟩
    unfold nameL
    rw [if_neg hc]
    rfl
theorem nameL_ne {ns : List Int} {i j : Int} (h : (i - j) % 26 ≠ 0) : nameL ns i ≠ nameL ns j := fun e => by
  obtain ⟨p, hp⟩ := nameL_sign ns
  have h1 := hp i
  have h2 := hp j
  rw [e, h2] at h1
  have h3 := letN_inj (Int.emod_nonneg _ (by decide)) (Int.emod_lt_of_pos _ (by decide)) (Int.emod_nonneg _ (by decide)) (Int.emod_lt_of_pos _ (by decide)) (Option.some.inj h1)
  omega
/-- the tasks at the outset -/
def tsI (ns : List Int) (i : Nat) : List TaskS := (List.range i).map fun k => ⟨strL (nameL ns (k : Nat)), "", true, List.replicate 16 none⟩
theorem tsI_succ (ns : List Int) (i : Nat) : tsI ns (i + 1) = tsI ns i ++ [⟨strL (nameL ns (i : Nat)), "", true, List.replicate 16 none⟩] := by
  unfold tsI
  rw [List.range_succ, List.map_append]
  rfl
theorem tsI_len (ns : List Int) (i : Nat) : (tsI ns i).length = i := by simp [tsI]
theorem tsI_run (ns : List Int) (i : Nat) : ∀ t, t ∈ tsI ns i → t.runs = true := fun t ht => by
  obtain ⟨k, _, rfl⟩ := List.mem_map.mp ht
  rfl
theorem findT_none {ts : List TaskS} {z : Str} (h : ∀ t, t ∈ ts → t.name ≠ z) : findT ts z = none := by
  unfold findT
  rw [List.findIdx?_eq_none_iff]
  intro t ht
  simp [h t ht]
theorem tsI_name {ns : List Int} {i : Nat} {k : Int} (h : ∀ j : Nat, j < i → ((j : Int) - k) % 26 ≠ 0) : findT (tsI ns i) (strL (nameL ns k)) = none := by
  refine findT_none fun t ht e => ?_
  obtain ⟨j, hj, rfl⟩ := List.mem_map.mp ht
  exact nameL_ne (h j (List.mem_range.mp hj)) (strL_inj e)
theorem sq_keep {K : PySem.W.Frag} {H H' : Hp} {a : Addr} {xs : List V} (h : SqL K H a xs) (k : ∀ o, H a = some o → H' a = some o) : SqL K H' a xs := by
  rcases h with (h | ⟨o, h⟩) | h
  · exact .inl (.inl (k _ h))
  · exact .inl (.inr ⟨o, k _ h⟩)
  · exact .inr h
/-- which names there are, told by names alone -/
theorem findT_names {ts ts' : List TaskS} (h : ts'.map (·.name) = ts.map (·.name)) (z : Str) : findT ts' z = findT ts z := by
  have key : ∀ l : List TaskS, findT l z = (l.map (·.name)).findIdx? fun n => decide (n = z) := fun l => by
    unfold findT
    rw [List.findIdx?_map]
    rfl
  rw [key, key, h]
end Pk

namespace Pk
open PySem PySem.Spec PyProof.Rows L2
theorem addedE_I {ns : List Int} {i : Nat} (hi : i < 3) : addedE (tsI ns i) (.str (strL (nameL ns (i : Nat)))) "" = .ok (tsI ns (i + 1)) := by
  have h1 := nameL_name ns (i : Nat)
  have h2 : findT (tsI ns i) (strL (nameL ns (i : Nat))) = none := tsI_name fun j hj => by omega
  have h3 : (running (tsI ns i)).length ≤ i := by
    unfold running
    exact Nat.le_trans (List.length_filter_le _ _) (by rw [tsI_len]; exact Nat.le_refl _)
  have h4 : ¬ 12 ≤ (running (tsI ns i)).length := by omega
  rw [tsI_succ]
  simp [addedE, h1, h2, h4]
section
variable {P : Program} {w : World} {K : PySem.W.Frag} {mg : Str → Option Value} {base : Heap}
theorem nm_use {H : Hp} {p : Addr} {ns : List Int} {k : Int} {Q : VK} {E : XK} (hS : SqL K H p (ns.map V.int)) (hl : ns.length ≤ 63) (hk : 0 ≤ k) (q : ∀ H', Same H H' → Q (.str (strL (nameL ns k))) H') : sp_name K [.ref p, .int k] H Q E := ⟨(p, k), rfl, ns, hS, hl, hk, q⟩
def SS (A : TR → Addr) (d : Addr) (B : Nat → Addr) (c : Nat) (h : Addr) : Addr → Prop := fun b => FA A d B c b ∨ b = h
def HeldS (S : Addr → Prop) (H : Hp) (v : V) : Prop := ∃ p f c l ys, v = .ref p ∧ ¬ S p ∧ ¬ S f ∧ ¬ S c ∧ H p = some (.tup [.ref f, .ref c]) ∧ H f = some (.lst ys) ∧ H c = some (.lst ys) ∧
  Paired (fun (x : Int × Int) y => ∃ q, y = .ref q ∧ ¬ S q ∧ H q = some (.tup [.int x.1, .int x.2])) l ys
theorem HeldS.upd {S S' : Addr → Prop} {H H' : Hp} {v : V} (x : HeldS S H v) (u : Upd H S H' S') : HeldS S' H' v := by
  obtain ⟨p, f, c, l, ys, e, p0, f0, c0, e1, e2, e3, pp⟩ := x
  have n : ∀ {q o}, ¬ S q → H q = some o → ¬ S' q := fun {q o} h e z => by
    rcases u.grow q z with g | g
    · exact h g
    · rw [e] at g; cases g
  exact ⟨p, f, c, l, ys, e, n p0 e1, n f0 e2, n c0 e3, u.keep _ _ e1 p0, u.keep _ _ e2 f0, u.keep _ _ e3 c0, paired_imp pp fun x y ⟨q, e, q0, e1⟩ => ⟨q, e, n q0 e1, u.keep _ _ e1 q0⟩⟩
theorem HeldN.held {S : Addr → Prop} {H0 H : Hp} {v : V} (x : HeldN H0 H v) (h : ∀ b, S b → H0 b ≠ none) : HeldS S H v := by
  obtain ⟨p, f, c, l, ys, e, p0, f0, c0, r1, r2, r3, pp⟩ := x
  exact ⟨p, f, c, l, ys, e, fun z => h _ z p0, fun z => h _ z f0, fun z => h _ z c0, r1, r2, r3, paired_imp pp fun x y ⟨q, e, q0, e1⟩ => ⟨q, e, fun z => h _ z q0, e1⟩⟩
/-- behind the i-th deed -/
def LD (K : PySem.W.Frag) (Hm : Hp) (ns : List Int) (a d st h : Addr) (A : TR → Addr) (B0 : Nat → Addr) (c i : Nat) (σ' : L2.St) (H' : Hp) : Prop := ∃ x3 x6 x7 x8 x9, σ' = [some (.ref a), some (.ref (A .tI)), some (.ref d), x3, some (.ref st), some (.ref h), x6, x7, x8, x9, none] ∧
  ∃ B ts hs, RepT K none A ts H' ∧ RepL d B ts H' ∧ (∀ t : TaskS, t ∈ ts → t.runs = true) ∧ ts.map (·.name) = (tsI ns c).map (·.name) ∧ (∀ b, FT A c b → ¬ FL d B c b) ∧ H' h = some (.lst hs) ∧ hs.length ≤ 6 * i ∧ ¬ FT A c h ∧ ¬ FL d B c h ∧
  Upd Hm (SS A d B0 c h) H' (SS A d B c h) ∧ ∀ v, v ∈ hs → HeldS (SS A d B c h) H' v
/-- behind the i-th name -/
def LI (K : PySem.W.Frag) (H : Hp) (ns : List Int) (a x d : Addr) (i : Nat) (σ' : L2.St) (H' : Hp) : Prop := ∃ A B x3, σ' = [some (.ref a), some (.ref x), some (.ref d), x3, none, none, none, none, none, none, none] ∧ A .tI = x ∧ RepT K none A (tsI ns i) H' ∧ RepL d B (tsI ns i) H' ∧
      (∀ b, FT A i b → ¬ FL d B i b) ∧ Same H H' ∧ ∀ b, FT A i b ∨ FL d B i b → H b = none
def sp_law (K : PySem.W.Frag) : Sp := Sp.of (fun a : Addr => [.ref a]) fun a H Q E => ∃ ns : List Int, SqL K H a (ns.map V.int) ∧ ns.length ≤ 63 ∧ ∀ H', Q (.bl true) H'
theorem fn_law (T : Tx K mg) : ∀ fd, FunD K d_law.name d_law.qual d_law.params d_law.body d_law.scope [] [] (ga K "law") fd → FnOk P w K mg base (L2N.CX P w) 5 (ga K "law") fd ["_law_script"] (sp_law K) :=
  Fd.mk_of sc_law (fun _ => rfl) fun cdv Ar outer s H a Q E hr hb => by
    have hu := hr.units
    refine ⟨_, (pss_cons (ps_set (i := 1) sc_law.nd rfl (by first | exact Or.inl rfl | exact Or.inr rfl) (pe_makeW0 T.mk_Tasks (ok_Tasks___init__ T) (hr.mono (by decide)) T.g_Tasks (passF tkF)))
    (pss_cons (ps_set (i := 2) sc_law.nd rfl (by first | exact Or.inl rfl | exact Or.inr rfl) pe_dnewK)
    (pss_cons (ps_for poF rfl (pi_range1 (by rfl) T.n_range (pa_cons (pe_op op_addF pe_int (pe_op op_mod (pe_callW (ok__law_mix T) (hr.mono (by decide)) T.g__law_mix (fun σ => L2N.passAt tkF σ) (pa_cons (pv 0) (pa_cons pe_int pa_nil))) pe_int)) pa_nil)) (pg_name (i := 3) sc_law.nd rfl (by first | exact Or.inl rfl | exact Or.inr rfl)) (pss_cons (ps_expr (pe_methW (pv 1) (m_Tasks_added T) (hr.mono (by decide)) (fun σ => L2N.passAt tkF σ) (pa_cons (pe_callW (ok__law_name T) (hr.mono (by decide)) T.g__law_name (fun σ => L2N.passAt tkF σ) (pa_cons (pv 0) (pa_cons (pv 3) pa_nil))) (pa_cons pe_str pa_nil))))
    (pss_one (ps_asg (pe_op op_mulF (pe_lst (pa_cons pe_non pa_nil)) pe_int) (pg_sub (pv 2) (pe_callW (ok__law_name T) (hr.mono (by decide)) T.g__law_name (fun σ => L2N.passAt tkF σ) (pa_cons (pv 0) (pa_cons (pv 3) pa_nil))) (set_F hu))))))
    (pss_cons (ps_set (i := 4) sc_law.nd rfl (by first | exact Or.inl rfl | exact Or.inr rfl) (pe_lst (pa_cons (pe_callW (ok__law_name T) (hr.mono (by decide)) T.g__law_name (fun σ => L2N.passAt tkF σ) (pa_cons (pv 0) (pa_cons pe_int pa_nil))) (pa_cons pe_non (pa_cons pe_int (pa_cons (pe_lst pa_nil) (pa_cons (pe_tup pa_nil) (pa_cons pe_str (pa_cons pe_bl pa_nil)))))))))
    (pss_cons (ps_set (i := 5) sc_law.nd rfl (by first | exact Or.inl rfl | exact Or.inr rfl) (pe_lst pa_nil))
    (pss_cons (ps_for poF rfl (pi_range1 (by rfl) T.n_range (pa_cons (pe_op op_mod (pe_callW (ok__law_mix T) (hr.mono (by decide)) T.g__law_mix (fun σ => L2N.passAt tkF σ) (pa_cons (pv 0) (pa_cons pe_int pa_nil))) pe_int) pa_nil)) (pg_name (i := 3) sc_law.nd rfl (by first | exact Or.inl rfl | exact Or.inr rfl)) (pss_cons (ps_set (i := 6) sc_law.nd rfl (by first | exact Or.inl rfl | exact Or.inr rfl) (pe_callW (ok__law_mix T) (hr.mono (by decide)) T.g__law_mix (fun σ => L2N.passAt tkF σ) (pa_cons (pv 0) (pa_cons (pe_op op_addF pe_int (pe_op op_mulF pe_int (pv 3))) pa_nil))))
    (pss_cons (ps_set (i := 7) sc_law.nd rfl (by first | exact Or.inl rfl | exact Or.inr rfl) (pe_ix (ix_F hu) (pe_callTy (call_listU rfl) (by rfl) T.n_list (by decide +kernel) (pa_cons (pv 2) pa_nil)) (pe_op op_mod (pe_op op_fdiv (pv 6) pe_int) (pe_callB call_lenF (by rfl) T.n_len (by decide +kernel) (pa_cons (pv 2) pa_nil))) (fun _ _ => rfl)))
    (pss_cons (ps_if (pt_cmpR (op_eqF hu) (pe_op op_mod (pe_op op_fdiv (pv 6) pe_int) pe_int) pe_int (nomark _)) (pss_cons (ps_set (i := 7) sc_law.nd rfl (by first | exact Or.inl rfl | exact Or.inr rfl) (pe_ix (ix_F hu) (pv 4) (pe_op op_mod (pe_op op_fdiv (pv 6) pe_int) pe_int) (fun _ _ => rfl)))
    (pss_cons (ps_if (pt_cmpR (op_neF hu) (pe_callW (ok__law_refused T) (hr.mono (by decide)) T.g__law_refused (fun σ => L2N.passAt tkF σ) (pa_cons (pv 1) (pa_cons (pv 7) (pa_cons (pe_op op_mod (pv 6) pe_int) pa_nil)))) pe_str (nomark _)) (pss_one (ps_ret pe_bl)) pss_nil)
    (pss_cons (ps_if (PW.pt (pw_or (pt_cmpR (op_neF hu) (pe_callW (ok__law_at T) (hr.mono (by decide)) T.g__law_at (fun σ => L2N.passAt tkF σ) (pa_cons (pv 1) (pa_cons (pv 7) (pa_cons pe_int pa_nil)))) pe_str (nomark _)) (pw_or1 (pt_cmpR (op_neF hu) (pe_callW (ok__law_put T) (hr.mono (by decide)) T.g__law_put (fun σ => L2N.passAt tkF σ) (pa_cons (pv 1) (pa_cons (pv 7) (pa_cons pe_int pa_nil)))) pe_str (nomark _))))) (pss_one (ps_ret pe_bl)) pss_nil)
    (pss_one ps_continue)))) pss_nil)
    (pss_cons (ps_asg (pe_callW (ok__law_deed T) (hr.mono (by decide)) T.g__law_deed (fun σ => L2N.passAt tkF σ) (pa_cons (pv 1) (pa_cons (pv 2) (pa_cons (pv 7) (pa_cons (pv 6) (pa_cons (pe_callW (ok__law_mix T) (hr.mono (by decide)) T.g__law_mix (fun σ => L2N.passAt tkF σ) (pa_cons (pv 0) (pa_cons (pe_op op_addF pe_int (pe_op op_mulF pe_int (pv 3))) pa_nil))) pa_nil)))))) (pg_tupB (K := K) (n := 2) rfl rfl (pgs_cons (pg_name (i := 8) sc_law.nd rfl (by first | exact Or.inl rfl | exact Or.inr rfl)) (pgs_cons (pg_name (i := 9) sc_law.nd rfl (by first | exact Or.inl rfl | exact Or.inr rfl)) pgs_nil))))
    (pss_cons (ps_if (PW.pt (pw_or (pt_truF (pe_callB call_isF (by rfl) T.n_isinstance (by decide +kernel) (pa_cons (pv 8) (pa_cons (pe_bltn (v := .ty "bool") rfl T.n_bool (by decide +kernel) rfl) pa_nil))) (by intro _; rfl)) (pw_or (pt_cmpR op_isN (pv 8) pe_non (nomark _)) (pw_or1 (pt_cmpR (op_neF hu) (pv 8) (pv 9) (nomark _)))))) (pss_one (ps_ret pe_bl)) pss_nil)
    (pss_one (ps_if (pt_not (pt_truF (pe_callW (ok__law_looked T) (hr.mono (by decide)) T.g__law_looked (fun σ => L2N.passAt tkF σ) (pa_cons (pv 1) (pa_cons (pv 2) (pa_cons (pv 5) (pa_cons (pe_callW (ok__law_mix T) (hr.mono (by decide)) T.g__law_mix (fun σ => L2N.passAt tkF σ) (pa_cons (pv 0) (pa_cons (pe_op op_addF pe_int (pv 3)) pa_nil))) pa_nil))))) (by intro _; rfl))) (pss_one (ps_ret pe_bl)) pss_nil))))))))
    (pss_one (ps_ret (pe_callB (cr_all rfl) (by rfl) T.n_all (by decide +kernel) (pa_cons (pe_lc (by rfl) sc_law.nd (pi_list (pv 5)) (blkOk_by (own := [("_law_pair", 10)]) (N := ["_law_script", "_law_tasks", "_law_rows", "_law_k", "_law_strange", "_law_held", "_law_number", "_law_name_here", "_law_found", "_law_due", "_law_pair"]) (sc := defScope s_law) (by decide +kernel)) (fun _ _ _ _ _ => by exact (pg_name (i := 10) sc_law.nd rfl (by first | exact Or.inl rfl | exact Or.inr rfl))) (fun _ _ _ _ _ => by exact pts_nil) (fun _ _ _ _ _ => by exact (pe_cmpR (op_eqFB (K := K) rfl hu) (pe_ix (ix_F hu) (pv 10) pe_int (fun _ _ => rfl)) (pe_ix (ix_F hu) (pv 10) pe_int (fun _ _ => rfl)) (nomark _)))) pa_nil)))))))))), ?_⟩
    obtain ⟨ns, hS, hl, hq⟩ := hb
    simp only [tSeq, tIfS, tTest, tOp, tVar, L2.tC, tCB, tCons, tNil, tRet, tAsg, gName, gSub, tNot, tOr, tAnd, tFld, tB, tTru, tLM, tCallS, tMethW, tMakeW, tDrop, tNext, tUn, tTup, tLst, sFld, tChain, tAndV, tOrV, tNotV, tIf, tDNewK,
 qAddI, qAddS, qAddL, qMulI, qMulL, qSubI, qI, qUI, qEqS, qNeS, scNI, scIN, scNS, scSN, scNB, scBN, scNN, scII, scSS, scBB, scIS, scSI, scBS, scSB, qInL, qInT, qNiL, qNiT, qInDs, qNiDs, qInDi, qNiDi, qIxL, qIxT, qIxDs, qIxDi, qIxS, qSetL, qSetDs, qSetDi, qLenS, qLenL, qLenT, qLenD, qIs, okInt, okStr, okBool, okList, okTup, okDict, tyNon, tyBl, tyInt, tyStr, qTN, qTB, qTI, qTS, qTL, qLtI, qLeI, qGtI, qGeI, qApp, qCnt, qIdx, flN, flI, flS, flB, qIsL,
 isT_NoneType_int, isT_NoneType_str, isT_NoneType_bool, isT_NoneType_list, isT_NoneType_tuple, isT_NoneType_dict, isT_bool_int, isT_bool_str, isT_bool_bool, isT_bool_list, isT_bool_tuple, isT_bool_dict, isT_int_int, isT_int_str, isT_int_bool, isT_int_list, isT_int_tuple, isT_int_dict, isT_str_int, isT_str_str, isT_str_bool, isT_str_list, isT_str_tuple, isT_str_dict, isT_list_int, isT_list_str, isT_list_bool, isT_list_list, isT_list_tuple, isT_list_dict, isT_tuple_int, isT_tuple_str, isT_tuple_bool, isT_tuple_list, isT_tuple_tuple, isT_tuple_dict, isT_dict_int, isT_dict_str, isT_dict_bool, isT_dict_list, isT_dict_tuple, isT_dict_dict, cxB_K, WF, WE, List.getElem?_cons_zero, List.getElem?_cons_succ, Option.some.injEq, exists_eq_left', exists_eq_left, V.ref.injEq, V.int.injEq, V.str.injEq, V.bl.injEq, HO.ins.injEq, List.cons.injEq, and_true, true_and, exists_and_left, and_assoc, reduceCtorEq, false_and, and_false, exists_false, or_false, false_or, if_true, if_false, Bool.false_eq_true, Bool.not_true, Bool.not_false, ite_true, ite_false, List.mem_singleton, forall_eq, L2.start, List.map_cons, List.map_nil, List.length_cons, List.length_nil, List.replicate, List.cons_append, List.nil_append, Nat.sub_self, Nat.reduceAdd, Nat.reduceSub, List.set_cons_zero, List.set_cons_succ, L2.wipe, tYes, gCons, gNil, tCont, tAndF, tOrF, false_implies, L2.tSl, tNoPart, tPart, tBM, tyVs, Int.reduceLT, Int.reduceLE, CDiv, qSlS, tAug, qIpI, Int.zero_add, decide_true, decide_false, sz1, sz2, sz3, sz0, sz4, sz5, sz6, sz7, sz8, sz9, sz10, sz11, sz12, kV_s, kV_i, Nat.reduceLT, Nat.reduceLeDiff, true_implies, Option.isSome_some, Option.isSome_none, String.reduceBEq, Bool.or_false, Bool.or_true, Bool.false_or, Bool.true_or, Bool.and_true, Bool.and_false, Bool.true_and, Bool.false_and, tFor_eq, tLc_eq, iList, iTup, iVals, iItems, iKeysM, iRng1, iRng2, iEnum, iStr, iRev, iZip]
    intro x dx hx hd nd
    refine ⟨x, rfl, dx, upd_same, by rw [upd_ne nd, upd_same], fun A H1 R1 eA k1 f1 => ⟨rfl, ?_⟩⟩
    have k0 : ∀ b o, H b = some o → H1 b = some o := fun b o e => k1 b o (ne_of_none e hx) (by rw [upd_ne (ne_of_none e hx), upd_ne (ne_of_none e hd)]; exact e)
    intro d hd0
    have s1 := same_upd (o := .dK []) hd0
    have e1 := upd_same (H := H1) (a := d) (o := .dK [])
    generalize upd H1 d (.dK []) = H2 at s1 e1 ⊢
    have k2 : ∀ b o, H b = some o → H2 b = some o := fun b o e => s1 _ _ (k0 b o e)
    refine mix_use (sq_keep hS fun o => k2 a o) hl ?_
    simp only [tSeq, tIfS, tTest, tOp, tVar, L2.tC, tCB, tCons, tNil, tRet, tAsg, gName, gSub, tNot, tOr, tAnd, tFld, tB, tTru, tLM, tCallS, tMethW, tMakeW, tDrop, tNext, tUn, tTup, tLst, sFld, tChain, tAndV, tOrV, tNotV, tIf, tDNewK,
 qAddI, qAddS, qAddL, qMulI, qMulL, qSubI, qI, qUI, qEqS, qNeS, scNI, scIN, scNS, scSN, scNB, scBN, scNN, scII, scSS, scBB, scIS, scSI, scBS, scSB, qInL, qInT, qNiL, qNiT, qInDs, qNiDs, qInDi, qNiDi, qIxL, qIxT, qIxDs, qIxDi, qIxS, qSetL, qSetDs, qSetDi, qLenS, qLenL, qLenT, qLenD, qIs, okInt, okStr, okBool, okList, okTup, okDict, tyNon, tyBl, tyInt, tyStr, qTN, qTB, qTI, qTS, qTL, qLtI, qLeI, qGtI, qGeI, qApp, qCnt, qIdx, flN, flI, flS, flB, qIsL,
 isT_NoneType_int, isT_NoneType_str, isT_NoneType_bool, isT_NoneType_list, isT_NoneType_tuple, isT_NoneType_dict, isT_bool_int, isT_bool_str, isT_bool_bool, isT_bool_list, isT_bool_tuple, isT_bool_dict, isT_int_int, isT_int_str, isT_int_bool, isT_int_list, isT_int_tuple, isT_int_dict, isT_str_int, isT_str_str, isT_str_bool, isT_str_list, isT_str_tuple, isT_str_dict, isT_list_int, isT_list_str, isT_list_bool, isT_list_list, isT_list_tuple, isT_list_dict, isT_tuple_int, isT_tuple_str, isT_tuple_bool, isT_tuple_list, isT_tuple_tuple, isT_tuple_dict, isT_dict_int, isT_dict_str, isT_dict_bool, isT_dict_list, isT_dict_tuple, isT_dict_dict, cxB_K, WF, WE, List.getElem?_cons_zero, List.getElem?_cons_succ, Option.some.injEq, exists_eq_left', exists_eq_left, V.ref.injEq, V.int.injEq, V.str.injEq, V.bl.injEq, HO.ins.injEq, List.cons.injEq, and_true, true_and, exists_and_left, and_assoc, reduceCtorEq, false_and, and_false, exists_false, or_false, false_or, if_true, if_false, Bool.false_eq_true, Bool.not_true, Bool.not_false, ite_true, ite_false, List.mem_singleton, forall_eq, L2.start, List.map_cons, List.map_nil, List.length_cons, List.length_nil, List.replicate, List.cons_append, List.nil_append, Nat.sub_self, Nat.reduceAdd, Nat.reduceSub, List.set_cons_zero, List.set_cons_succ, L2.wipe, tYes, gCons, gNil, tCont, tAndF, tOrF, false_implies, L2.tSl, tNoPart, tPart, tBM, tyVs, Int.reduceLT, Int.reduceLE, CDiv, qSlS, tAug, qIpI, Int.zero_add, decide_true, decide_false, sz1, sz2, sz3, sz0, sz4, sz5, sz6, sz7, sz8, sz9, sz10, sz11, sz12, kV_s, kV_i, Nat.reduceLT, Nat.reduceLeDiff, true_implies, Option.isSome_some, Option.isSome_none, String.reduceBEq, Bool.or_false, Bool.or_true, Bool.false_or, Bool.true_or, Bool.and_true, Bool.and_false, Bool.true_and, Bool.false_and, tFor_eq, tLc_eq, iList, iTup, iVals, iItems, iKeysM, iRng1, iRng2, iEnum, iStr, iRev, iZip]
    have m2 := mod2 (mixP ns 10)
    refine ⟨by omega, by omega, ?_⟩
    have L0 : RepL d (fun _ => 0) (tsI ns 0) H2 := ⟨e1, fun i t e => (by cases e), fun i j h => (by cases h), fun i h => (by cases h)⟩
    have R2 : RepT K none A (tsI ns 0) H2 := R1.same s1
    have dj0 : ∀ b, FT A 0 b → ¬ FL d (fun _ => 0) 0 b := fun b fb fl => by
      rcases fl with rfl | ⟨i, h, _⟩
      · exact R1.live (by exact fb) hd0
      · cases h
    have fr0 : ∀ b, FT A 0 b ∨ FL d (fun _ => 0) 0 b → H b = none := fun b hb => by
      rcases hb with h | rfl | ⟨i, h, _⟩
      · rcases f1 b h with rfl | rfl | h
        · exact hx
        · exact hd
        · exact (fresh (fresh h).2).2
      · exact none_of k0 hd0
      · cases h
    obtain ⟨c, hc, hcc⟩ : ∃ c : Nat, c ≤ 3 ∧ (2 + mixP ns 10 % 2).toNat = c := ⟨_, by omega, rfl⟩
    have c2 : 2 ≤ c := by omega
    rw [hcc]
    refine for_W (walk_range (lo := 0) (n := c)) (LI K H ns a x d) ⟨A, _, none, rfl, eA, R2, L0, dj0, k2, fr0⟩ (fun _ _ _ _ _ => trivial) ?_ ?_
    · rintro i y σ' H3 H4 hi ⟨A, B, x3, rfl, rfl, R, L, dj, kp, fr⟩ ⟨rfl, rfl⟩
      simp only [tSeq, tIfS, tTest, tOp, tVar, L2.tC, tCB, tCons, tNil, tRet, tAsg, gName, gSub, tNot, tOr, tAnd, tFld, tB, tTru, tLM, tCallS, tMethW, tMakeW, tDrop, tNext, tUn, tTup, tLst, sFld, tChain, tAndV, tOrV, tNotV, tIf, tDNewK,
 qAddI, qAddS, qAddL, qMulI, qMulL, qSubI, qI, qUI, qEqS, qNeS, scNI, scIN, scNS, scSN, scNB, scBN, scNN, scII, scSS, scBB, scIS, scSI, scBS, scSB, qInL, qInT, qNiL, qNiT, qInDs, qNiDs, qInDi, qNiDi, qIxL, qIxT, qIxDs, qIxDi, qIxS, qSetL, qSetDs, qSetDi, qLenS, qLenL, qLenT, qLenD, qIs, okInt, okStr, okBool, okList, okTup, okDict, tyNon, tyBl, tyInt, tyStr, qTN, qTB, qTI, qTS, qTL, qLtI, qLeI, qGtI, qGeI, qApp, qCnt, qIdx, flN, flI, flS, flB, qIsL,
 isT_NoneType_int, isT_NoneType_str, isT_NoneType_bool, isT_NoneType_list, isT_NoneType_tuple, isT_NoneType_dict, isT_bool_int, isT_bool_str, isT_bool_bool, isT_bool_list, isT_bool_tuple, isT_bool_dict, isT_int_int, isT_int_str, isT_int_bool, isT_int_list, isT_int_tuple, isT_int_dict, isT_str_int, isT_str_str, isT_str_bool, isT_str_list, isT_str_tuple, isT_str_dict, isT_list_int, isT_list_str, isT_list_bool, isT_list_list, isT_list_tuple, isT_list_dict, isT_tuple_int, isT_tuple_str, isT_tuple_bool, isT_tuple_list, isT_tuple_tuple, isT_tuple_dict, isT_dict_int, isT_dict_str, isT_dict_bool, isT_dict_list, isT_dict_tuple, isT_dict_dict, cxB_K, WF, WE, List.getElem?_cons_zero, List.getElem?_cons_succ, Option.some.injEq, exists_eq_left', exists_eq_left, V.ref.injEq, V.int.injEq, V.str.injEq, V.bl.injEq, HO.ins.injEq, List.cons.injEq, and_true, true_and, exists_and_left, and_assoc, reduceCtorEq, false_and, and_false, exists_false, or_false, false_or, if_true, if_false, Bool.false_eq_true, Bool.not_true, Bool.not_false, ite_true, ite_false, List.mem_singleton, forall_eq, L2.start, List.map_cons, List.map_nil, List.length_cons, List.length_nil, List.replicate, List.cons_append, List.nil_append, Nat.sub_self, Nat.reduceAdd, Nat.reduceSub, List.set_cons_zero, List.set_cons_succ, L2.wipe, tYes, gCons, gNil, tCont, tAndF, tOrF, false_implies, L2.tSl, tNoPart, tPart, tBM, tyVs, Int.reduceLT, Int.reduceLE, CDiv, qSlS, tAug, qIpI, Int.zero_add, decide_true, decide_false, sz1, sz2, sz3, sz0, sz4, sz5, sz6, sz7, sz8, sz9, sz10, sz11, sz12, kV_s, kV_i, Nat.reduceLT, Nat.reduceLeDiff, true_implies, Option.isSome_some, Option.isSome_none, String.reduceBEq, Bool.or_false, Bool.or_true, Bool.false_or, Bool.true_or, Bool.and_true, Bool.and_false, Bool.true_and, Bool.false_and, tFor_eq, tLc_eq, iList, iTup, iVals, iItems, iKeysM, iRng1, iRng2, iEnum, iStr, iRev, iZip, R.tI]
      refine ⟨rfl, nm_use (sq_keep hS fun o => kp a o) hl (by omega) fun H5 s5 => ?_⟩
      refine ⟨(A .tI, .str (strL (nameL ns (i : Nat))), ""), rfl, A, tsI ns i, R.same s5, rfl, rfl, fun z e => ?_, by rw [tsI_len]; omega, fun c e => (by dsimp only at e; rw [addedE_I (by omega)] at e; cases e), fun ts' e A' H6 R6 eA6 U6 => ?_⟩
      · cases e
        rw [strL_len]
        have := (nameL_len ns (i : Nat)).2
        omega
      dsimp only at e
      rw [addedE_I (by omega)] at e
      cases e
      rw [tsI_len, tsI_len] at U6
      have L5 := L.same s5
      have L6 : RepL d B (tsI ns i) H6 := L5.keep fun a o fa e => U6.keep a o e fun fb => dj a fb (by rw [tsI_len] at fa; exact fa)
      have dj6 : ∀ b, FT A' (i + 1) b → ¬ FL d B i b := fun b fb fl => by
        rcases U6.grow b fb with g | g
        · exact dj b g fl
        · exact L5.live (by rw [tsI_len]; exact fl) g
      have kp6 : Same H H6 := fun b o e => U6.keep b o (s5 _ _ (kp b o e)) fun f => by rw [fr b (.inl f)] at e; cases e
      have fr6 : ∀ b, FT A' (i + 1) b ∨ FL d B i b → H b = none := fun b hb => by
        rcases hb with h | h
        · rcases U6.grow b h with g | g
          · exact fr b (.inl g)
          · exact none_of (kp.trans s5) g
        · exact fr b (.inr h)
      intro q hq0
      rw [qMulL upd_same]
      refine ⟨by decide, by decide, by rw [sizeLine_eq]; decide, ?_⟩
      intro p hp
      have s7 := same_upd (o := .lst [.non]) hq0
      have e8 : (List.replicate (Int.toNat 16) [V.non]).flatten = (List.replicate 16 (none : Option Int)).map optV := rfl
      rw [e8]
      have s8 := same_upd (o := .lst ((List.replicate 16 (none : Option Int)).map optV)) hp
      have e9 := upd_same (H := upd H6 q (.lst [.non])) (a := p) (o := .lst ((List.replicate 16 (none : Option Int)).map optV))
      have p6 : H6 p = none := none_of s7 hp
      have s9 := s7.trans s8
      generalize upd (upd H6 q (.lst [.non])) p (.lst ((List.replicate 16 (none : Option Int)).map optV)) = H9 at s9 e9 ⊢
      refine nm_use (sq_keep hS fun o e => s9 _ _ (kp6 a o e)) hl (by omega) fun H10 s10 => ?_
      have s11 := s9.trans s10
      have L10 := L6.same s11
      have vk := L10.val (strL (nameL ns (i : Nat)))
      rw [show findT (tsI ns i) (strL (nameL ns (i : Nat))) = none from tsI_name fun j hj => by omega, Option.map_none] at vk
      have hlen : (lKvs B (tsI ns i)).length < sizeLine := by
        rw [sizeLine_eq]; simp [lKvs, tKvs, tsI_len]; omega
      rw [qSetDs L10.dk, putK_new _ vk]
      refine ⟨hlen, ?_⟩
      have p9 : p ≠ d := fun z => by rw [z] at p6; exact L6.live (.inl rfl) p6
      have npl : ¬ FL d B (tsI ns i).length p := fun z => L6.live z p6
      have npt : ¬ FT A' (i + 1) p := fun z => R6.live (by rw [tsI_len]; exact z) p6
      have npd : ∀ b, FT A' (i + 1) b → b ≠ d := fun b fb z => dj6 b fb (.inl z)
      have kd : ∀ b o, b ≠ d → H6 b = some o → (upd H10 d (.dK (lKvs B (tsI ns i) ++ [(Sum.inr (strL (nameL ns (i : Nat))), .ref p)]))) b = some o := fun b o n e => by
        rw [upd_ne n]; exact s11 _ _ e
      have hset : ∀ b, FL d (setB B i p) (i + 1) b → b = p ∨ FL d B i b := fun b fb => by
        rcases fb with h | ⟨j, hj, h⟩
        · exact .inr (.inl h)
        · unfold setB at h
          by_cases z : j = i
          · rw [if_pos z] at h; exact .inl h
          · rw [if_neg z] at h; exact .inr (.inr ⟨j, by omega, h⟩)
      refine ⟨A', setB B i p, _, rfl, eA6, ?_, ?_, ?_, ?_, ?_⟩
      · exact R6.keep fun b o fb e => kd b o (npd b (by rw [tsI_len] at fb; exact fb)) e
      · have G := L10.grow (nm := strL (nameL ns (i : Nat))) (mk := "") (b := true) npl (rw' := List.replicate 16 none) (s10 _ _ e9)
        rw [tsI_len] at G
        rw [tsI_succ]
        exact G
      · intro b fb fl
        rcases hset b fl with rfl | h
        · exact npt fb
        · exact dj6 b fb h
      · intro b o e
        refine kd b o (fun z => ?_) (kp6 b o e)
        rw [fr6 b (.inr (.inl z))] at e; cases e
      · intro b hb
        rcases hb with h | h
        · exact fr6 b (.inl h)
        · rcases hset b h with rfl | h
          · exact none_of kp6 p6
          · exact fr6 b (.inr h)
    · rintro σ' H3 ⟨A, B, x3, rfl, rfl, R, L, dj, kp, fr⟩
      simp only [tSeq, tIfS, tTest, tOp, tVar, L2.tC, tCB, tCons, tNil, tRet, tAsg, gName, gSub, tNot, tOr, tAnd, tFld, tB, tTru, tLM, tCallS, tMethW, tMakeW, tDrop, tNext, tUn, tTup, tLst, sFld, tChain, tAndV, tOrV, tNotV, tIf, tDNewK,
 qAddI, qAddS, qAddL, qMulI, qMulL, qSubI, qI, qUI, qEqS, qNeS, scNI, scIN, scNS, scSN, scNB, scBN, scNN, scII, scSS, scBB, scIS, scSI, scBS, scSB, qInL, qInT, qNiL, qNiT, qInDs, qNiDs, qInDi, qNiDi, qIxL, qIxT, qIxDs, qIxDi, qIxS, qSetL, qSetDs, qSetDi, qLenS, qLenL, qLenT, qLenD, qIs, okInt, okStr, okBool, okList, okTup, okDict, tyNon, tyBl, tyInt, tyStr, qTN, qTB, qTI, qTS, qTL, qLtI, qLeI, qGtI, qGeI, qApp, qCnt, qIdx, flN, flI, flS, flB, qIsL,
 isT_NoneType_int, isT_NoneType_str, isT_NoneType_bool, isT_NoneType_list, isT_NoneType_tuple, isT_NoneType_dict, isT_bool_int, isT_bool_str, isT_bool_bool, isT_bool_list, isT_bool_tuple, isT_bool_dict, isT_int_int, isT_int_str, isT_int_bool, isT_int_list, isT_int_tuple, isT_int_dict, isT_str_int, isT_str_str, isT_str_bool, isT_str_list, isT_str_tuple, isT_str_dict, isT_list_int, isT_list_str, isT_list_bool, isT_list_list, isT_list_tuple, isT_list_dict, isT_tuple_int, isT_tuple_str, isT_tuple_bool, isT_tuple_list, isT_tuple_tuple, isT_tuple_dict, isT_dict_int, isT_dict_str, isT_dict_bool, isT_dict_list, isT_dict_tuple, isT_dict_dict, cxB_K, WF, WE, List.getElem?_cons_zero, List.getElem?_cons_succ, Option.some.injEq, exists_eq_left', exists_eq_left, V.ref.injEq, V.int.injEq, V.str.injEq, V.bl.injEq, HO.ins.injEq, List.cons.injEq, and_true, true_and, exists_and_left, and_assoc, reduceCtorEq, false_and, and_false, exists_false, or_false, false_or, if_true, if_false, Bool.false_eq_true, Bool.not_true, Bool.not_false, ite_true, ite_false, List.mem_singleton, forall_eq, L2.start, List.map_cons, List.map_nil, List.length_cons, List.length_nil, List.replicate, List.cons_append, List.nil_append, Nat.sub_self, Nat.reduceAdd, Nat.reduceSub, List.set_cons_zero, List.set_cons_succ, L2.wipe, tYes, gCons, gNil, tCont, tAndF, tOrF, false_implies, L2.tSl, tNoPart, tPart, tBM, tyVs, Int.reduceLT, Int.reduceLE, CDiv, qSlS, tAug, qIpI, Int.zero_add, decide_true, decide_false, sz1, sz2, sz3, sz0, sz4, sz5, sz6, sz7, sz8, sz9, sz10, sz11, sz12, kV_s, kV_i, Nat.reduceLT, Nat.reduceLeDiff, true_implies, Option.isSome_some, Option.isSome_none, String.reduceBEq, Bool.or_false, Bool.or_true, Bool.false_or, Bool.true_or, Bool.and_true, Bool.and_false, Bool.true_and, Bool.false_and, tFor_eq, tLc_eq, iList, iTup, iVals, iItems, iKeysM, iRng1, iRng2, iEnum, iStr, iRev, iZip]
      refine nm_use (sq_keep hS fun o => kp a o) hl (by omega) fun H4 s4 => ?_
      intro q1 hq1 q2 hq2 q3 hq3 q4 hq4
      have t1 := same_upd (o := .lst []) hq1
      have t2 := same_upd (o := .tup []) hq2
      have t3 := same_upd (o := .lst [.str (strL (nameL ns 20)), .non, .int 7, .ref q1, .ref q2, .str "", .bl true]) hq3
      have t4 := same_upd (o := .lst []) hq4
      have f1 := t4 _ _ (t3 _ _ (t2 _ _ (upd_same (H := H4) (a := q1) (o := .lst []))))
      have f2 := t4 _ _ (t3 _ _ (upd_same (H := upd H4 q1 (.lst [])) (a := q2) (o := .tup [])))
      have f3 := t4 _ _ (upd_same (H := upd (upd H4 q1 (.lst [])) q2 (.tup [])) (a := q3) (o := .lst [.str (strL (nameL ns 20)), .non, .int 7, .ref q1, .ref q2, .str "", .bl true]))
      have f4 := upd_same (H := upd (upd (upd H4 q1 (.lst [])) q2 (.tup [])) q3 (.lst [.str (strL (nameL ns 20)), .non, .int 7, .ref q1, .ref q2, .str "", .bl true])) (a := q4) (o := .lst [])
      have n1 : H4 q1 = none := hq1
      have n2 : H4 q2 = none := none_of t1 hq2
      have n3 : H4 q3 = none := none_of (t1.trans t2) hq3
      have n4 : H4 q4 = none := none_of ((t1.trans t2).trans t3) hq4
      have n14 : q1 ≠ q4 := ne_of_none (t3 _ _ (t2 _ _ (upd_same (H := H4) (a := q1) (o := .lst [])))) hq4
      have n24 : q2 ≠ q4 := ne_of_none (t3 _ _ (upd_same (H := upd H4 q1 (.lst [])) (a := q2) (o := .tup []))) hq4
      have n34 : q3 ≠ q4 := ne_of_none (upd_same (H := upd (upd H4 q1 (.lst [])) q2 (.tup [])) (a := q3) (o := .lst [.str (strL (nameL ns 20)), .non, .int 7, .ref q1, .ref q2, .str "", .bl true])) hq4
      have sm := ((t1.trans t2).trans t3).trans t4
      generalize upd (upd (upd (upd H4 q1 (.lst [])) q2 (.tup [])) q3 (.lst [.str (strL (nameL ns 20)), .non, .int 7, .ref q1, .ref q2, .str "", .bl true])) q4 (.lst []) = Hm at sm f1 f2 f3 f4 ⊢
      have sM := (kp.trans s4).trans sm
      have RM := (R.same s4).same sm
      have LM := (L.same s4).same sm
      have R4 := R.same s4
      have L4 := L.same s4
      have tl := tsI_len ns c
      have nS : ∀ b, H4 b = none → ¬ FA A d B c b := fun b e z => by
        rcases z with z | z
        · exact R4.live (by rw [tl]; exact z) e
        · exact L4.live (by rw [tl]; exact z) e
      refine mix_use (sq_keep hS fun o e => sM a o e) hl ?_
      simp only [tSeq, tIfS, tTest, tOp, tVar, L2.tC, tCB, tCons, tNil, tRet, tAsg, gName, gSub, tNot, tOr, tAnd, tFld, tB, tTru, tLM, tCallS, tMethW, tMakeW, tDrop, tNext, tUn, tTup, tLst, sFld, tChain, tAndV, tOrV, tNotV, tIf, tDNewK,
 qAddI, qAddS, qAddL, qMulI, qMulL, qSubI, qI, qUI, qEqS, qNeS, scNI, scIN, scNS, scSN, scNB, scBN, scNN, scII, scSS, scBB, scIS, scSI, scBS, scSB, qInL, qInT, qNiL, qNiT, qInDs, qNiDs, qInDi, qNiDi, qIxL, qIxT, qIxDs, qIxDi, qIxS, qSetL, qSetDs, qSetDi, qLenS, qLenL, qLenT, qLenD, qIs, okInt, okStr, okBool, okList, okTup, okDict, tyNon, tyBl, tyInt, tyStr, qTN, qTB, qTI, qTS, qTL, qLtI, qLeI, qGtI, qGeI, qApp, qCnt, qIdx, flN, flI, flS, flB, qIsL,
 isT_NoneType_int, isT_NoneType_str, isT_NoneType_bool, isT_NoneType_list, isT_NoneType_tuple, isT_NoneType_dict, isT_bool_int, isT_bool_str, isT_bool_bool, isT_bool_list, isT_bool_tuple, isT_bool_dict, isT_int_int, isT_int_str, isT_int_bool, isT_int_list, isT_int_tuple, isT_int_dict, isT_str_int, isT_str_str, isT_str_bool, isT_str_list, isT_str_tuple, isT_str_dict, isT_list_int, isT_list_str, isT_list_bool, isT_list_list, isT_list_tuple, isT_list_dict, isT_tuple_int, isT_tuple_str, isT_tuple_bool, isT_tuple_list, isT_tuple_tuple, isT_tuple_dict, isT_dict_int, isT_dict_str, isT_dict_bool, isT_dict_list, isT_dict_tuple, isT_dict_dict, cxB_K, WF, WE, List.getElem?_cons_zero, List.getElem?_cons_succ, Option.some.injEq, exists_eq_left', exists_eq_left, V.ref.injEq, V.int.injEq, V.str.injEq, V.bl.injEq, HO.ins.injEq, List.cons.injEq, and_true, true_and, exists_and_left, and_assoc, reduceCtorEq, false_and, and_false, exists_false, or_false, false_or, if_true, if_false, Bool.false_eq_true, Bool.not_true, Bool.not_false, ite_true, ite_false, List.mem_singleton, forall_eq, L2.start, List.map_cons, List.map_nil, List.length_cons, List.length_nil, List.replicate, List.cons_append, List.nil_append, Nat.sub_self, Nat.reduceAdd, Nat.reduceSub, List.set_cons_zero, List.set_cons_succ, L2.wipe, tYes, gCons, gNil, tCont, tAndF, tOrF, false_implies, L2.tSl, tNoPart, tPart, tBM, tyVs, Int.reduceLT, Int.reduceLE, CDiv, qSlS, tAug, qIpI, Int.zero_add, decide_true, decide_false, sz1, sz2, sz3, sz0, sz4, sz5, sz6, sz7, sz8, sz9, sz10, sz11, sz12, kV_s, kV_i, Nat.reduceLT, Nat.reduceLeDiff, true_implies, Option.isSome_some, Option.isSome_none, String.reduceBEq, Bool.or_false, Bool.or_true, Bool.false_or, Bool.true_or, Bool.and_true, Bool.and_false, Bool.true_and, Bool.false_and, tFor_eq, tLc_eq, iList, iTup, iVals, iItems, iKeysM, iRng1, iRng2, iEnum, iStr, iRev, iZip]
      have b0 := Int.emod_nonneg (mixP ns 11) (show (61 : Int) ≠ 0 by decide)
      have b1 := Int.emod_lt_of_pos (mixP ns 11) (show (0 : Int) < 61 by decide)
      refine ⟨by omega, by omega, ?_⟩
      obtain ⟨g, hg, hgg⟩ : ∃ g : Nat, g ≤ 61 ∧ (mixP ns 11 % 61).toNat = g := ⟨_, by omega, rfl⟩
      rw [hgg]
      have wfM := RM.wf
      refine for_W (walk_range (lo := 0) (n := g)) (LD K Hm ns a d q3 q4 A B c) ?_ (fun _ _ _ _ _ => trivial) ?_ ?_
      · exact ⟨_, none, none, none, none, rfl, B, tsI ns c, [], RM, LM, tsI_run ns c, rfl, dj, f4, Nat.le_refl _, fun z => nS _ n4 (.inl z), fun z => nS _ n4 (.inr z), Upd.refl _ _, fun v hv => (by cases hv)⟩
      · rintro i y σ' H5 H6 hi ⟨x3, x6, x7, x8, x9, rfl, B', ts, hs, R5, L5, ru, nms, dj5, hh, hlen, nft, nfl, U5, held⟩ ⟨rfl, rfl⟩
        have tsl : ts.length = c := by have := congrArg List.length nms; rw [List.length_map, List.length_map, tl] at this; exact this
        have kpM : ∀ b o, Hm b = some o → ¬ SS A d B c q4 b → H6 b = some o := fun b o e n => U5.keep b o e n
        have hS6 : SqL K H6 a (ns.map V.int) := sq_keep hS fun o e => kpM a o (sM _ _ e) fun z => by
          rcases z with (z | z) | z
          · rw [fr a (.inl z)] at e; cases e
          · rw [fr a (.inr z)] at e; cases e
          · rw [z, none_of (kp.trans s4) n4] at e; cases e
        have cm : CMul 2 (0 + (i : Int)) := .inl ⟨by decide, by decide⟩
        have cm2 : CMul 2 (i : Int) := .inl ⟨by decide, by decide⟩
        simp only [tSeq, tIfS, tTest, tOp, tVar, L2.tC, tCB, tCons, tNil, tRet, tAsg, gName, gSub, tNot, tOr, tAnd, tFld, tB, tTru, tLM, tCallS, tMethW, tMakeW, tDrop, tNext, tUn, tTup, tLst, sFld, tChain, tAndV, tOrV, tNotV, tIf, tDNewK,
 qAddI, qAddS, qAddL, qMulI, qMulL, qSubI, qI, qUI, qEqS, qNeS, scNI, scIN, scNS, scSN, scNB, scBN, scNN, scII, scSS, scBB, scIS, scSI, scBS, scSB, qInL, qInT, qNiL, qNiT, qInDs, qNiDs, qInDi, qNiDi, qIxL, qIxT, qIxDs, qIxDi, qIxS, qSetL, qSetDs, qSetDi, qLenS, qLenL, qLenT, qLenD, qIs, okInt, okStr, okBool, okList, okTup, okDict, tyNon, tyBl, tyInt, tyStr, qTN, qTB, qTI, qTS, qTL, qLtI, qLeI, qGtI, qGeI, qApp, qCnt, qIdx, flN, flI, flS, flB, qIsL,
 isT_NoneType_int, isT_NoneType_str, isT_NoneType_bool, isT_NoneType_list, isT_NoneType_tuple, isT_NoneType_dict, isT_bool_int, isT_bool_str, isT_bool_bool, isT_bool_list, isT_bool_tuple, isT_bool_dict, isT_int_int, isT_int_str, isT_int_bool, isT_int_list, isT_int_tuple, isT_int_dict, isT_str_int, isT_str_str, isT_str_bool, isT_str_list, isT_str_tuple, isT_str_dict, isT_list_int, isT_list_str, isT_list_bool, isT_list_list, isT_list_tuple, isT_list_dict, isT_tuple_int, isT_tuple_str, isT_tuple_bool, isT_tuple_list, isT_tuple_tuple, isT_tuple_dict, isT_dict_int, isT_dict_str, isT_dict_bool, isT_dict_list, isT_dict_tuple, isT_dict_dict, cxB_K, WF, WE, List.getElem?_cons_zero, List.getElem?_cons_succ, Option.some.injEq, exists_eq_left', exists_eq_left, V.ref.injEq, V.int.injEq, V.str.injEq, V.bl.injEq, HO.ins.injEq, List.cons.injEq, and_true, true_and, exists_and_left, and_assoc, reduceCtorEq, false_and, and_false, exists_false, or_false, false_or, if_true, if_false, Bool.false_eq_true, Bool.not_true, Bool.not_false, ite_true, ite_false, List.mem_singleton, forall_eq, L2.start, List.map_cons, List.map_nil, List.length_cons, List.length_nil, List.replicate, List.cons_append, List.nil_append, Nat.sub_self, Nat.reduceAdd, Nat.reduceSub, List.set_cons_zero, List.set_cons_succ, L2.wipe, tYes, gCons, gNil, tCont, tAndF, tOrF, false_implies, L2.tSl, tNoPart, tPart, tBM, tyVs, Int.reduceLT, Int.reduceLE, CDiv, qSlS, tAug, qIpI, Int.zero_add, decide_true, decide_false, sz1, sz2, sz3, sz0, sz4, sz5, sz6, sz7, sz8, sz9, sz10, sz11, sz12, kV_s, kV_i, Nat.reduceLT, Nat.reduceLeDiff, true_implies, Option.isSome_some, Option.isSome_none, String.reduceBEq, Bool.or_false, Bool.or_true, Bool.false_or, Bool.true_or, Bool.and_true, Bool.and_false, Bool.true_and, Bool.false_and, tFor_eq, tLc_eq, iList, iTup, iVals, iItems, iKeysM, iRng1, iRng2, iEnum, iStr, iRev, iZip, cm, cm2]
        refine mix_use hS6 hl ?_
        simp only [tSeq, tIfS, tTest, tOp, tVar, L2.tC, tCB, tCons, tNil, tRet, tAsg, gName, gSub, tNot, tOr, tAnd, tFld, tB, tTru, tLM, tCallS, tMethW, tMakeW, tDrop, tNext, tUn, tTup, tLst, sFld, tChain, tAndV, tOrV, tNotV, tIf, tDNewK,
 qAddI, qAddS, qAddL, qMulI, qMulL, qSubI, qI, qUI, qEqS, qNeS, scNI, scIN, scNS, scSN, scNB, scBN, scNN, scII, scSS, scBB, scIS, scSI, scBS, scSB, qInL, qInT, qNiL, qNiT, qInDs, qNiDs, qInDi, qNiDi, qIxL, qIxT, qIxDs, qIxDi, qIxS, qSetL, qSetDs, qSetDi, qLenS, qLenL, qLenT, qLenD, qIs, okInt, okStr, okBool, okList, okTup, okDict, tyNon, tyBl, tyInt, tyStr, qTN, qTB, qTI, qTS, qTL, qLtI, qLeI, qGtI, qGeI, qApp, qCnt, qIdx, flN, flI, flS, flB, qIsL,
 isT_NoneType_int, isT_NoneType_str, isT_NoneType_bool, isT_NoneType_list, isT_NoneType_tuple, isT_NoneType_dict, isT_bool_int, isT_bool_str, isT_bool_bool, isT_bool_list, isT_bool_tuple, isT_bool_dict, isT_int_int, isT_int_str, isT_int_bool, isT_int_list, isT_int_tuple, isT_int_dict, isT_str_int, isT_str_str, isT_str_bool, isT_str_list, isT_str_tuple, isT_str_dict, isT_list_int, isT_list_str, isT_list_bool, isT_list_list, isT_list_tuple, isT_list_dict, isT_tuple_int, isT_tuple_str, isT_tuple_bool, isT_tuple_list, isT_tuple_tuple, isT_tuple_dict, isT_dict_int, isT_dict_str, isT_dict_bool, isT_dict_list, isT_dict_tuple, isT_dict_dict, cxB_K, WF, WE, List.getElem?_cons_zero, List.getElem?_cons_succ, Option.some.injEq, exists_eq_left', exists_eq_left, V.ref.injEq, V.int.injEq, V.str.injEq, V.bl.injEq, HO.ins.injEq, List.cons.injEq, and_true, true_and, exists_and_left, and_assoc, reduceCtorEq, false_and, and_false, exists_false, or_false, false_or, if_true, if_false, Bool.false_eq_true, Bool.not_true, Bool.not_false, ite_true, ite_false, List.mem_singleton, forall_eq, L2.start, List.map_cons, List.map_nil, List.length_cons, List.length_nil, List.replicate, List.cons_append, List.nil_append, Nat.sub_self, Nat.reduceAdd, Nat.reduceSub, List.set_cons_zero, List.set_cons_succ, L2.wipe, tYes, gCons, gNil, tCont, tAndF, tOrF, false_implies, L2.tSl, tNoPart, tPart, tBM, tyVs, Int.reduceLT, Int.reduceLE, CDiv, qSlS, tAug, qIpI, Int.zero_add, decide_true, decide_false, sz1, sz2, sz3, sz0, sz4, sz5, sz6, sz7, sz8, sz9, sz10, sz11, sz12, kV_s, kV_i, Nat.reduceLT, Nat.reduceLeDiff, true_implies, Option.isSome_some, Option.isSome_none, String.reduceBEq, Bool.or_false, Bool.or_true, Bool.false_or, Bool.true_or, Bool.and_true, Bool.and_false, Bool.true_and, Bool.false_and, tFor_eq, tLc_eq, iList, iTup, iVals, iItems, iKeysM, iRng1, iRng2, iEnum, iStr, iRev, iZip]
        have hn0 := mixP_lo ns (20 + 2 * (i : Int))
        generalize mixP ns (20 + 2 * (i : Int)) = n at hn0 ⊢
        refine li_D (.inl L5.dk) ?_
        intro l hl0
        have u1 := same_upd (o := .lst ((lKvs B' ts).map fun kv => kV kv.1)) hl0
        have v1 := upd_same (H := H6) (a := l) (o := .lst ((lKvs B' ts).map fun kv => kV kv.1))
        have nl1 : H6 l = none := hl0
        generalize upd H6 l (.lst ((lKvs B' ts).map fun kv => kV kv.1)) = H7 at u1 v1 ⊢
        have L7 := L5.same u1
        have R7 := R5.same u1
        have kl : (lKvs B' ts).length = c := by simp [lKvs, tKvs, tsl]
        obtain ⟨z, ez, mz⟩ := at_mod (ts.map fun t => V.str t.name) (n / 540) c (by rw [List.length_map, tsl]) (by omega)
        obtain ⟨t, ht, rfl⟩ := List.mem_map.mp mz
        obtain ⟨it, et⟩ := List.mem_iff_getElem?.mp ht
        rw [keys_tKvs] at v1
        have cpos : (0 : Int) < c := by omega
        simp only [tSeq, tIfS, tTest, tOp, tVar, L2.tC, tCB, tCons, tNil, tRet, tAsg, gName, gSub, tNot, tOr, tAnd, tFld, tB, tTru, tLM, tCallS, tMethW, tMakeW, tDrop, tNext, tUn, tTup, tLst, sFld, tChain, tAndV, tOrV, tNotV, tIf, tDNewK,
 qAddI, qAddS, qAddL, qMulI, qMulL, qSubI, qI, qUI, qEqS, qNeS, scNI, scIN, scNS, scSN, scNB, scBN, scNN, scII, scSS, scBB, scIS, scSI, scBS, scSB, qInL, qInT, qNiL, qNiT, qInDs, qNiDs, qInDi, qNiDi, qIxL, qIxT, qIxDs, qIxDi, qIxS, qSetL, qSetDs, qSetDi, qLenS, qLenL, qLenT, qLenD, qIs, okInt, okStr, okBool, okList, okTup, okDict, tyNon, tyBl, tyInt, tyStr, qTN, qTB, qTI, qTS, qTL, qLtI, qLeI, qGtI, qGeI, qApp, qCnt, qIdx, flN, flI, flS, flB, qIsL,
 isT_NoneType_int, isT_NoneType_str, isT_NoneType_bool, isT_NoneType_list, isT_NoneType_tuple, isT_NoneType_dict, isT_bool_int, isT_bool_str, isT_bool_bool, isT_bool_list, isT_bool_tuple, isT_bool_dict, isT_int_int, isT_int_str, isT_int_bool, isT_int_list, isT_int_tuple, isT_int_dict, isT_str_int, isT_str_str, isT_str_bool, isT_str_list, isT_str_tuple, isT_str_dict, isT_list_int, isT_list_str, isT_list_bool, isT_list_list, isT_list_tuple, isT_list_dict, isT_tuple_int, isT_tuple_str, isT_tuple_bool, isT_tuple_list, isT_tuple_tuple, isT_tuple_dict, isT_dict_int, isT_dict_str, isT_dict_bool, isT_dict_list, isT_dict_tuple, isT_dict_dict, cxB_K, WF, WE, List.getElem?_cons_zero, List.getElem?_cons_succ, Option.some.injEq, exists_eq_left', exists_eq_left, V.ref.injEq, V.int.injEq, V.str.injEq, V.bl.injEq, HO.ins.injEq, List.cons.injEq, and_true, true_and, exists_and_left, and_assoc, reduceCtorEq, false_and, and_false, exists_false, or_false, false_or, if_true, if_false, Bool.false_eq_true, Bool.not_true, Bool.not_false, ite_true, ite_false, List.mem_singleton, forall_eq, L2.start, List.map_cons, List.map_nil, List.length_cons, List.length_nil, List.replicate, List.cons_append, List.nil_append, Nat.sub_self, Nat.reduceAdd, Nat.reduceSub, List.set_cons_zero, List.set_cons_succ, L2.wipe, tYes, gCons, gNil, tCont, tAndF, tOrF, false_implies, L2.tSl, tNoPart, tPart, tBM, tyVs, Int.reduceLT, Int.reduceLE, CDiv, qSlS, tAug, qIpI, Int.zero_add, decide_true, decide_false, sz1, sz2, sz3, sz0, sz4, sz5, sz6, sz7, sz8, sz9, sz10, sz11, sz12, kV_s, kV_i, Nat.reduceLT, Nat.reduceLeDiff, true_implies, Option.isSome_some, Option.isSome_none, String.reduceBEq, Bool.or_false, Bool.or_true, Bool.false_or, Bool.true_or, Bool.and_true, Bool.and_false, Bool.true_and, Bool.false_and, tFor_eq, tLc_eq, iList, iTup, iVals, iItems, iKeysM, iRng1, iRng2, iEnum, iStr, iRev, iZip, qLenD (.inl L7.dk), kl, cpos, qIxL v1, ez]
        have tz : ∀ t' : TaskS, t' ∈ tsI ns c → t'.name ≠ "" := fun t' ht' e => by
          obtain ⟨j, _, rfl⟩ := List.mem_map.mp ht'
          have h1 := (nameL_len ns (j : Nat)).1
          have h2 := congrArg Str.length e
          rw [strL_len] at h2
          have h3 : (PySem.Str.ofString "").length = 0 := rfl
          rw [h3] at h2
          omega
        have hsq : ∀ H' S', Upd Hm (SS A d B c q4) H' S' → SqL K H' a (ns.map V.int) := fun H' S' u => sq_keep hS fun o e => u.keep a o (sM _ _ e) fun z => by
          rcases z with (z | z) | z
          · rw [fr a (.inl z)] at e; cases e
          · rw [fr a (.inr z)] at e; cases e
          · rw [z, none_of (kp.trans s4) n4] at e; cases e
        have keepLD : ∀ H8 y3 y6 y7 y8 y9, Same H6 H8 → LD K Hm ns a d q3 q4 A B c (i + 1) [some (.ref a), some (.ref (A .tI)), some (.ref d), y3, some (.ref q3), some (.ref q4), y6, y7, y8, y9, none] H8 := fun H8 y3 y6 y7 y8 y9 s =>
          ⟨_, _, _, _, _, rfl, B', ts, hs, R5.same s, L5.same s, ru, nms, dj5, s _ _ hh, by omega, nft, nfl, U5.trans (Upd.of_same s), fun v hv => (held v hv).upd (Upd.of_same s)⟩
        have nSS : ∀ b, H4 b = none → b ≠ q4 → ¬ SS A d B c q4 b := fun b e n z => by
          rcases z with z | z
          · exact nS b e z
          · exact n z
        by_cases h0 : n / 4096 % 5 = 0
        · have g3 := u1 _ _ (kpM _ _ f3 (nSS _ n3 n34))
          have g1 := u1 _ _ (kpM _ _ f1 (nSS _ n1 n14))
          have g2 := u1 _ _ (kpM _ _ f2 (nSS _ n2 n24))
          obtain ⟨v, ev, mv⟩ := at_mod [V.str (strL (nameL ns 20)), .non, .int 7, .ref q1, .ref q2, .str "", .bl true] (n / 20480) 7 rfl (by decide)
          have hv : (∀ H8, Same H7 H8 → (tyName H8 v).isSome = true) ∧ runIx ts v = none := by
            simp only [List.mem_cons, List.not_mem_nil, or_false] at mv
            rcases mv with rfl | rfl | rfl | rfl | rfl | rfl | rfl
            · refine ⟨fun _ _ => rfl, ?_⟩
              have f : findT ts (strL (nameL ns 20)) = none := by rw [findT_names nms]; exact tsI_name fun j hj => by omega
              simp [runIx, f]
            · exact ⟨fun _ _ => rfl, rfl⟩
            · exact ⟨fun _ _ => rfl, rfl⟩
            · exact ⟨fun H8 s => by rw [tyLst (s _ _ g1)]; rfl, rfl⟩
            · exact ⟨fun H8 s => by rw [tyTup (s _ _ g2)]; rfl, rfl⟩
            · refine ⟨fun _ _ => rfl, ?_⟩
              have f : findT ts "" = none := by rw [findT_names nms]; exact findT_none tz
              simp [runIx, f]
            · exact ⟨fun _ _ => rfl, rfl⟩
          obtain ⟨hty, hrn⟩ := hv
          simp only [tSeq, tIfS, tTest, tOp, tVar, L2.tC, tCB, tCons, tNil, tRet, tAsg, gName, gSub, tNot, tOr, tAnd, tFld, tB, tTru, tLM, tCallS, tMethW, tMakeW, tDrop, tNext, tUn, tTup, tLst, sFld, tChain, tAndV, tOrV, tNotV, tIf, tDNewK,
 qAddI, qAddS, qAddL, qMulI, qMulL, qSubI, qI, qUI, qEqS, qNeS, scNI, scIN, scNS, scSN, scNB, scBN, scNN, scII, scSS, scBB, scIS, scSI, scBS, scSB, qInL, qInT, qNiL, qNiT, qInDs, qNiDs, qInDi, qNiDi, qIxL, qIxT, qIxDs, qIxDi, qIxS, qSetL, qSetDs, qSetDi, qLenS, qLenL, qLenT, qLenD, qIs, okInt, okStr, okBool, okList, okTup, okDict, tyNon, tyBl, tyInt, tyStr, qTN, qTB, qTI, qTS, qTL, qLtI, qLeI, qGtI, qGeI, qApp, qCnt, qIdx, flN, flI, flS, flB, qIsL,
 isT_NoneType_int, isT_NoneType_str, isT_NoneType_bool, isT_NoneType_list, isT_NoneType_tuple, isT_NoneType_dict, isT_bool_int, isT_bool_str, isT_bool_bool, isT_bool_list, isT_bool_tuple, isT_bool_dict, isT_int_int, isT_int_str, isT_int_bool, isT_int_list, isT_int_tuple, isT_int_dict, isT_str_int, isT_str_str, isT_str_bool, isT_str_list, isT_str_tuple, isT_str_dict, isT_list_int, isT_list_str, isT_list_bool, isT_list_list, isT_list_tuple, isT_list_dict, isT_tuple_int, isT_tuple_str, isT_tuple_bool, isT_tuple_list, isT_tuple_tuple, isT_tuple_dict, isT_dict_int, isT_dict_str, isT_dict_bool, isT_dict_list, isT_dict_tuple, isT_dict_dict, cxB_K, WF, WE, List.getElem?_cons_zero, List.getElem?_cons_succ, Option.some.injEq, exists_eq_left', exists_eq_left, V.ref.injEq, V.int.injEq, V.str.injEq, V.bl.injEq, HO.ins.injEq, List.cons.injEq, and_true, true_and, exists_and_left, and_assoc, reduceCtorEq, false_and, and_false, exists_false, or_false, false_or, if_true, if_false, Bool.false_eq_true, Bool.not_true, Bool.not_false, ite_true, ite_false, List.mem_singleton, forall_eq, L2.start, List.map_cons, List.map_nil, List.length_cons, List.length_nil, List.replicate, List.cons_append, List.nil_append, Nat.sub_self, Nat.reduceAdd, Nat.reduceSub, List.set_cons_zero, List.set_cons_succ, L2.wipe, tYes, gCons, gNil, tCont, tAndF, tOrF, false_implies, L2.tSl, tNoPart, tPart, tBM, tyVs, Int.reduceLT, Int.reduceLE, CDiv, qSlS, tAug, qIpI, Int.zero_add, decide_true, decide_false, sz1, sz2, sz3, sz0, sz4, sz5, sz6, sz7, sz8, sz9, sz10, sz11, sz12, kV_s, kV_i, Nat.reduceLT, Nat.reduceLeDiff, true_implies, Option.isSome_some, Option.isSome_none, String.reduceBEq, Bool.or_false, Bool.or_true, Bool.false_or, Bool.true_or, Bool.and_true, Bool.and_false, Bool.true_and, Bool.false_and, h0, qIxL g3]
          refine ⟨_, ev, ?_⟩
          refine ⟨(A .tI, v, n % 2), rfl, none, A, ts, R7, rfl, hty _ (Same.refl _), hrn, fun H8 s8 => ?_⟩
          simp only [tSeq, tIfS, tTest, tOp, tVar, L2.tC, tCB, tCons, tNil, tRet, tAsg, gName, gSub, tNot, tOr, tAnd, tFld, tB, tTru, tLM, tCallS, tMethW, tMakeW, tDrop, tNext, tUn, tTup, tLst, sFld, tChain, tAndV, tOrV, tNotV, tIf, tDNewK,
 qAddI, qAddS, qAddL, qMulI, qMulL, qSubI, qI, qUI, qEqS, qNeS, scNI, scIN, scNS, scSN, scNB, scBN, scNN, scII, scSS, scBB, scIS, scSI, scBS, scSB, qInL, qInT, qNiL, qNiT, qInDs, qNiDs, qInDi, qNiDi, qIxL, qIxT, qIxDs, qIxDi, qIxS, qSetL, qSetDs, qSetDi, qLenS, qLenL, qLenT, qLenD, qIs, okInt, okStr, okBool, okList, okTup, okDict, tyNon, tyBl, tyInt, tyStr, qTN, qTB, qTI, qTS, qTL, qLtI, qLeI, qGtI, qGeI, qApp, qCnt, qIdx, flN, flI, flS, flB, qIsL,
 isT_NoneType_int, isT_NoneType_str, isT_NoneType_bool, isT_NoneType_list, isT_NoneType_tuple, isT_NoneType_dict, isT_bool_int, isT_bool_str, isT_bool_bool, isT_bool_list, isT_bool_tuple, isT_bool_dict, isT_int_int, isT_int_str, isT_int_bool, isT_int_list, isT_int_tuple, isT_int_dict, isT_str_int, isT_str_str, isT_str_bool, isT_str_list, isT_str_tuple, isT_str_dict, isT_list_int, isT_list_str, isT_list_bool, isT_list_list, isT_list_tuple, isT_list_dict, isT_tuple_int, isT_tuple_str, isT_tuple_bool, isT_tuple_list, isT_tuple_tuple, isT_tuple_dict, isT_dict_int, isT_dict_str, isT_dict_bool, isT_dict_list, isT_dict_tuple, isT_dict_dict, cxB_K, WF, WE, List.getElem?_cons_zero, List.getElem?_cons_succ, Option.some.injEq, exists_eq_left', exists_eq_left, V.ref.injEq, V.int.injEq, V.str.injEq, V.bl.injEq, HO.ins.injEq, List.cons.injEq, and_true, true_and, exists_and_left, and_assoc, reduceCtorEq, false_and, and_false, exists_false, or_false, false_or, if_true, if_false, Bool.false_eq_true, Bool.not_true, Bool.not_false, ite_true, ite_false, List.mem_singleton, forall_eq, L2.start, List.map_cons, List.map_nil, List.length_cons, List.length_nil, List.replicate, List.cons_append, List.nil_append, Nat.sub_self, Nat.reduceAdd, Nat.reduceSub, List.set_cons_zero, List.set_cons_succ, L2.wipe, tYes, gCons, gNil, tCont, tAndF, tOrF, false_implies, L2.tSl, tNoPart, tPart, tBM, tyVs, Int.reduceLT, Int.reduceLE, CDiv, qSlS, tAug, qIpI, Int.zero_add, decide_true, decide_false, sz1, sz2, sz3, sz0, sz4, sz5, sz6, sz7, sz8, sz9, sz10, sz11, sz12, kV_s, kV_i, Nat.reduceLT, Nat.reduceLeDiff, true_implies, Option.isSome_some, Option.isSome_none, String.reduceBEq, Bool.or_false, Bool.or_true, Bool.false_or, Bool.true_or, Bool.and_true, Bool.and_false, Bool.true_and, Bool.false_and]
          refine ⟨(A .tI, v, .int 0), rfl, none, A, ts, R7.same s8, rfl, hty _ s8, rfl, fun _ H9 s9 => ?_, fun i t hi => (by dsimp only at hi; rw [hrn] at hi; cases hi)⟩
          simp only [tSeq, tIfS, tTest, tOp, tVar, L2.tC, tCB, tCons, tNil, tRet, tAsg, gName, gSub, tNot, tOr, tAnd, tFld, tB, tTru, tLM, tCallS, tMethW, tMakeW, tDrop, tNext, tUn, tTup, tLst, sFld, tChain, tAndV, tOrV, tNotV, tIf, tDNewK,
 qAddI, qAddS, qAddL, qMulI, qMulL, qSubI, qI, qUI, qEqS, qNeS, scNI, scIN, scNS, scSN, scNB, scBN, scNN, scII, scSS, scBB, scIS, scSI, scBS, scSB, qInL, qInT, qNiL, qNiT, qInDs, qNiDs, qInDi, qNiDi, qIxL, qIxT, qIxDs, qIxDi, qIxS, qSetL, qSetDs, qSetDi, qLenS, qLenL, qLenT, qLenD, qIs, okInt, okStr, okBool, okList, okTup, okDict, tyNon, tyBl, tyInt, tyStr, qTN, qTB, qTI, qTS, qTL, qLtI, qLeI, qGtI, qGeI, qApp, qCnt, qIdx, flN, flI, flS, flB, qIsL,
 isT_NoneType_int, isT_NoneType_str, isT_NoneType_bool, isT_NoneType_list, isT_NoneType_tuple, isT_NoneType_dict, isT_bool_int, isT_bool_str, isT_bool_bool, isT_bool_list, isT_bool_tuple, isT_bool_dict, isT_int_int, isT_int_str, isT_int_bool, isT_int_list, isT_int_tuple, isT_int_dict, isT_str_int, isT_str_str, isT_str_bool, isT_str_list, isT_str_tuple, isT_str_dict, isT_list_int, isT_list_str, isT_list_bool, isT_list_list, isT_list_tuple, isT_list_dict, isT_tuple_int, isT_tuple_str, isT_tuple_bool, isT_tuple_list, isT_tuple_tuple, isT_tuple_dict, isT_dict_int, isT_dict_str, isT_dict_bool, isT_dict_list, isT_dict_tuple, isT_dict_dict, cxB_K, WF, WE, List.getElem?_cons_zero, List.getElem?_cons_succ, Option.some.injEq, exists_eq_left', exists_eq_left, V.ref.injEq, V.int.injEq, V.str.injEq, V.bl.injEq, HO.ins.injEq, List.cons.injEq, and_true, true_and, exists_and_left, and_assoc, reduceCtorEq, false_and, and_false, exists_false, or_false, false_or, if_true, if_false, Bool.false_eq_true, Bool.not_true, Bool.not_false, ite_true, ite_false, List.mem_singleton, forall_eq, L2.start, List.map_cons, List.map_nil, List.length_cons, List.length_nil, List.replicate, List.cons_append, List.nil_append, Nat.sub_self, Nat.reduceAdd, Nat.reduceSub, List.set_cons_zero, List.set_cons_succ, L2.wipe, tYes, gCons, gNil, tCont, tAndF, tOrF, false_implies, L2.tSl, tNoPart, tPart, tBM, tyVs, Int.reduceLT, Int.reduceLE, CDiv, qSlS, tAug, qIpI, Int.zero_add, decide_true, decide_false, sz1, sz2, sz3, sz0, sz4, sz5, sz6, sz7, sz8, sz9, sz10, sz11, sz12, kV_s, kV_i, Nat.reduceLT, Nat.reduceLeDiff, true_implies, Option.isSome_some, Option.isSome_none, String.reduceBEq, Bool.or_false, Bool.or_true, Bool.false_or, Bool.true_or, Bool.and_true, Bool.and_false, Bool.true_and, Bool.false_and]
          refine ⟨(A .tI, v, 0), rfl, none, A, ts, R7.same (s8.trans s9), rfl, hty _ (s8.trans s9), fun _ H10 s10 => ?_, fun i t hi => (by dsimp only at hi; rw [hrn] at hi; cases hi)⟩
          simp only [tSeq, tIfS, tTest, tOp, tVar, L2.tC, tCB, tCons, tNil, tRet, tAsg, gName, gSub, tNot, tOr, tAnd, tFld, tB, tTru, tLM, tCallS, tMethW, tMakeW, tDrop, tNext, tUn, tTup, tLst, sFld, tChain, tAndV, tOrV, tNotV, tIf, tDNewK,
 qAddI, qAddS, qAddL, qMulI, qMulL, qSubI, qI, qUI, qEqS, qNeS, scNI, scIN, scNS, scSN, scNB, scBN, scNN, scII, scSS, scBB, scIS, scSI, scBS, scSB, qInL, qInT, qNiL, qNiT, qInDs, qNiDs, qInDi, qNiDi, qIxL, qIxT, qIxDs, qIxDi, qIxS, qSetL, qSetDs, qSetDi, qLenS, qLenL, qLenT, qLenD, qIs, okInt, okStr, okBool, okList, okTup, okDict, tyNon, tyBl, tyInt, tyStr, qTN, qTB, qTI, qTS, qTL, qLtI, qLeI, qGtI, qGeI, qApp, qCnt, qIdx, flN, flI, flS, flB, qIsL,
 isT_NoneType_int, isT_NoneType_str, isT_NoneType_bool, isT_NoneType_list, isT_NoneType_tuple, isT_NoneType_dict, isT_bool_int, isT_bool_str, isT_bool_bool, isT_bool_list, isT_bool_tuple, isT_bool_dict, isT_int_int, isT_int_str, isT_int_bool, isT_int_list, isT_int_tuple, isT_int_dict, isT_str_int, isT_str_str, isT_str_bool, isT_str_list, isT_str_tuple, isT_str_dict, isT_list_int, isT_list_str, isT_list_bool, isT_list_list, isT_list_tuple, isT_list_dict, isT_tuple_int, isT_tuple_str, isT_tuple_bool, isT_tuple_list, isT_tuple_tuple, isT_tuple_dict, isT_dict_int, isT_dict_str, isT_dict_bool, isT_dict_list, isT_dict_tuple, isT_dict_dict, cxB_K, WF, WE, List.getElem?_cons_zero, List.getElem?_cons_succ, Option.some.injEq, exists_eq_left', exists_eq_left, V.ref.injEq, V.int.injEq, V.str.injEq, V.bl.injEq, HO.ins.injEq, List.cons.injEq, and_true, true_and, exists_and_left, and_assoc, reduceCtorEq, false_and, and_false, exists_false, or_false, false_or, if_true, if_false, Bool.false_eq_true, Bool.not_true, Bool.not_false, ite_true, ite_false, List.mem_singleton, forall_eq, L2.start, List.map_cons, List.map_nil, List.length_cons, List.length_nil, List.replicate, List.cons_append, List.nil_append, Nat.sub_self, Nat.reduceAdd, Nat.reduceSub, List.set_cons_zero, List.set_cons_succ, L2.wipe, tYes, gCons, gNil, tCont, tAndF, tOrF, false_implies, L2.tSl, tNoPart, tPart, tBM, tyVs, Int.reduceLT, Int.reduceLE, CDiv, qSlS, tAug, qIpI, Int.zero_add, decide_true, decide_false, sz1, sz2, sz3, sz0, sz4, sz5, sz6, sz7, sz8, sz9, sz10, sz11, sz12, kV_s, kV_i, Nat.reduceLT, Nat.reduceLeDiff, true_implies, Option.isSome_some, Option.isSome_none, String.reduceBEq, Bool.or_false, Bool.or_true, Bool.false_or, Bool.true_or, Bool.and_true, Bool.and_false, Bool.true_and, Bool.false_and]
          exact keepLD _ _ _ _ _ _ (((u1.trans s8).trans s9).trans s10)
        · simp only [tSeq, tIfS, tTest, tOp, tVar, L2.tC, tCB, tCons, tNil, tRet, tAsg, gName, gSub, tNot, tOr, tAnd, tFld, tB, tTru, tLM, tCallS, tMethW, tMakeW, tDrop, tNext, tUn, tTup, tLst, sFld, tChain, tAndV, tOrV, tNotV, tIf, tDNewK,
 qAddI, qAddS, qAddL, qMulI, qMulL, qSubI, qI, qUI, qEqS, qNeS, scNI, scIN, scNS, scSN, scNB, scBN, scNN, scII, scSS, scBB, scIS, scSI, scBS, scSB, qInL, qInT, qNiL, qNiT, qInDs, qNiDs, qInDi, qNiDi, qIxL, qIxT, qIxDs, qIxDi, qIxS, qSetL, qSetDs, qSetDi, qLenS, qLenL, qLenT, qLenD, qIs, okInt, okStr, okBool, okList, okTup, okDict, tyNon, tyBl, tyInt, tyStr, qTN, qTB, qTI, qTS, qTL, qLtI, qLeI, qGtI, qGeI, qApp, qCnt, qIdx, flN, flI, flS, flB, qIsL,
 isT_NoneType_int, isT_NoneType_str, isT_NoneType_bool, isT_NoneType_list, isT_NoneType_tuple, isT_NoneType_dict, isT_bool_int, isT_bool_str, isT_bool_bool, isT_bool_list, isT_bool_tuple, isT_bool_dict, isT_int_int, isT_int_str, isT_int_bool, isT_int_list, isT_int_tuple, isT_int_dict, isT_str_int, isT_str_str, isT_str_bool, isT_str_list, isT_str_tuple, isT_str_dict, isT_list_int, isT_list_str, isT_list_bool, isT_list_list, isT_list_tuple, isT_list_dict, isT_tuple_int, isT_tuple_str, isT_tuple_bool, isT_tuple_list, isT_tuple_tuple, isT_tuple_dict, isT_dict_int, isT_dict_str, isT_dict_bool, isT_dict_list, isT_dict_tuple, isT_dict_dict, cxB_K, WF, WE, List.getElem?_cons_zero, List.getElem?_cons_succ, Option.some.injEq, exists_eq_left', exists_eq_left, V.ref.injEq, V.int.injEq, V.str.injEq, V.bl.injEq, HO.ins.injEq, List.cons.injEq, and_true, true_and, exists_and_left, and_assoc, reduceCtorEq, false_and, and_false, exists_false, or_false, false_or, if_true, if_false, Bool.false_eq_true, Bool.not_true, Bool.not_false, ite_true, ite_false, List.mem_singleton, forall_eq, L2.start, List.map_cons, List.map_nil, List.length_cons, List.length_nil, List.replicate, List.cons_append, List.nil_append, Nat.sub_self, Nat.reduceAdd, Nat.reduceSub, List.set_cons_zero, List.set_cons_succ, L2.wipe, tYes, gCons, gNil, tCont, tAndF, tOrF, false_implies, L2.tSl, tNoPart, tPart, tBM, tyVs, Int.reduceLT, Int.reduceLE, CDiv, qSlS, tAug, qIpI, Int.zero_add, decide_true, decide_false, sz1, sz2, sz3, sz0, sz4, sz5, sz6, sz7, sz8, sz9, sz10, sz11, sz12, kV_s, kV_i, Nat.reduceLT, Nat.reduceLeDiff, true_implies, Option.isSome_some, Option.isSome_none, String.reduceBEq, Bool.or_false, Bool.or_true, Bool.false_or, Bool.true_or, Bool.and_true, Bool.and_false, Bool.true_and, Bool.false_and, h0]
          refine mix_use (hsq _ _ (U5.trans (Upd.of_same u1))) hl ?_
          refine ⟨(A .tI, d, t.name, n, _), rfl, A, B', ts, it, t, R7, rfl, L7, ru, by rw [tsl]; exact dj5, et, rfl, fun H8 p B2 ts2 v ep hv R8 L8 nms2 ru2 U8 dj8 => ?_⟩
          rw [tsl] at U8 dj8
          have tsl2 : ts2.length = c := by have := congrArg List.length nms2; rw [List.length_map, List.length_map, tsl] at this; exact this
          have UL : Upd H7 (SS A d B' c q4) H8 (SS A d B2 c q4) := ⟨fun b o e n => U8.keep b o e fun z => n (.inl z), fun b z => by
            rcases z with z | z
            · exact (U8.grow b z).imp .inl id
            · exact .inl (.inr z)⟩
          have U58 := (U5.trans (Upd.of_same u1)).trans UL
          have hh8 : H8 q4 = some (.lst hs) := U8.keep _ _ (u1 _ _ hh) fun z => by
            rcases z with z | z
            · exact nft z
            · exact nfl z
          have nfl2 : ¬ FL d B2 c q4 := fun z => by
            rcases U8.grow q4 (.inr z) with (g | g) | g
            · exact nft g
            · exact nfl g
            · rw [u1 _ _ hh] at g; cases g
          have held8 : ∀ v, v ∈ hs → HeldS (SS A d B2 c q4) H8 v := fun v hv => (held v hv).upd ((Upd.of_same u1).trans UL)
          have done : ∀ y3 y6 y7 y8 y9 H9, Grown H8 q4 hs (2 * ts2.length) H9 → LD K Hm ns a d q3 q4 A B c (i + 1) [some (.ref a), some (.ref (A .tI)), some (.ref d), y3, some (.ref q3), some (.ref q4), y6, y7, y8, y9, none] H9 := fun y3 y6 y7 y8 y9 H9 g => by
            obtain ⟨k, vs, e9, l9, a9⟩ := g
            have U9 : Upd H8 (SS A d B2 c q4) H9 (SS A d B2 c q4) := ⟨fun b o e n => k b o (fun z => n (.inr z)) e, fun b z => .inl z⟩
            refine ⟨_, _, _, _, _, rfl, B2, ts2, hs ++ vs, R8.keep fun b o fb e => k b o (fun z => nft (by rw [← z]; rw [tsl2] at fb; exact fb)) e, L8.keep fun b o fb e => k b o (fun z => nfl2 (by rw [← z]; rw [tsl2] at fb; exact fb)) e,
              ru2, nms2.trans nms, dj8, e9, ?_, nft, nfl2, U58.trans U9, fun u hu => ?_⟩
            · rw [List.length_append]; omega
            · rcases List.mem_append.mp hu with hu | hu
              · exact (held8 u hu).upd U9
              · refine (a9 u hu).held fun b z => ?_
                rcases z with (z | z) | z
                · exact R8.live (by rw [tsl2]; exact z)
                · exact L8.live (by rw [tsl2]; exact z)
                · rw [z, hh8]; exact fun y => nomatch y
          refine ⟨p, [v, v], rfl, .inl (.inl ep), rfl, ?_⟩
          have useL : ∀ (m : Int) (E' : XK) (R' : VK), (∀ H9, Grown H8 q4 hs (2 * ts2.length) H9 → R' (.bl true) H9) → sp_looked K [.ref (A .tI), .ref d, .ref q4, .int m] H8 R' E' := fun m E' R' h =>
            ⟨(A .tI, d, q4, m), rfl, A, B2, ts2, hs, R8, rfl, L8, ru2, hh8, by omega, by rw [tsl2]; exact nft, by rw [tsl2]; exact nfl2, fun H9 g => h H9 g⟩
          rcases hv with ⟨k, rfl⟩ | ⟨y, rfl⟩
          · simp only [tSeq, tIfS, tTest, tOp, tVar, L2.tC, tCB, tCons, tNil, tRet, tAsg, gName, gSub, tNot, tOr, tAnd, tFld, tB, tTru, tLM, tCallS, tMethW, tMakeW, tDrop, tNext, tUn, tTup, tLst, sFld, tChain, tAndV, tOrV, tNotV, tIf, tDNewK,
 qAddI, qAddS, qAddL, qMulI, qMulL, qSubI, qI, qUI, qEqS, qNeS, scNI, scIN, scNS, scSN, scNB, scBN, scNN, scII, scSS, scBB, scIS, scSI, scBS, scSB, qInL, qInT, qNiL, qNiT, qInDs, qNiDs, qInDi, qNiDi, qIxL, qIxT, qIxDs, qIxDi, qIxS, qSetL, qSetDs, qSetDi, qLenS, qLenL, qLenT, qLenD, qIs, okInt, okStr, okBool, okList, okTup, okDict, tyNon, tyBl, tyInt, tyStr, qTN, qTB, qTI, qTS, qTL, qLtI, qLeI, qGtI, qGeI, qApp, qCnt, qIdx, flN, flI, flS, flB, qIsL,
 isT_NoneType_int, isT_NoneType_str, isT_NoneType_bool, isT_NoneType_list, isT_NoneType_tuple, isT_NoneType_dict, isT_bool_int, isT_bool_str, isT_bool_bool, isT_bool_list, isT_bool_tuple, isT_bool_dict, isT_int_int, isT_int_str, isT_int_bool, isT_int_list, isT_int_tuple, isT_int_dict, isT_str_int, isT_str_str, isT_str_bool, isT_str_list, isT_str_tuple, isT_str_dict, isT_list_int, isT_list_str, isT_list_bool, isT_list_list, isT_list_tuple, isT_list_dict, isT_tuple_int, isT_tuple_str, isT_tuple_bool, isT_tuple_list, isT_tuple_tuple, isT_tuple_dict, isT_dict_int, isT_dict_str, isT_dict_bool, isT_dict_list, isT_dict_tuple, isT_dict_dict, cxB_K, WF, WE, List.getElem?_cons_zero, List.getElem?_cons_succ, Option.some.injEq, exists_eq_left', exists_eq_left, V.ref.injEq, V.int.injEq, V.str.injEq, V.bl.injEq, HO.ins.injEq, List.cons.injEq, and_true, true_and, exists_and_left, and_assoc, reduceCtorEq, false_and, and_false, exists_false, or_false, false_or, if_true, if_false, Bool.false_eq_true, Bool.not_true, Bool.not_false, ite_true, ite_false, List.mem_singleton, forall_eq, L2.start, List.map_cons, List.map_nil, List.length_cons, List.length_nil, List.replicate, List.cons_append, List.nil_append, Nat.sub_self, Nat.reduceAdd, Nat.reduceSub, List.set_cons_zero, List.set_cons_succ, L2.wipe, tYes, gCons, gNil, tCont, tAndF, tOrF, false_implies, L2.tSl, tNoPart, tPart, tBM, tyVs, Int.reduceLT, Int.reduceLE, CDiv, qSlS, tAug, qIpI, Int.zero_add, decide_true, decide_false, sz1, sz2, sz3, sz0, sz4, sz5, sz6, sz7, sz8, sz9, sz10, sz11, sz12, kV_s, kV_i, Nat.reduceLT, Nat.reduceLeDiff, true_implies, Option.isSome_some, Option.isSome_none, String.reduceBEq, Bool.or_false, Bool.or_true, Bool.false_or, Bool.true_or, Bool.and_true, Bool.and_false, Bool.true_and, Bool.false_and]
            refine mix_use (hsq _ _ U58) hl ?_
            refine useL _ _ _ fun H9 g => ?_
            simp only [tSeq, tIfS, tTest, tOp, tVar, L2.tC, tCB, tCons, tNil, tRet, tAsg, gName, gSub, tNot, tOr, tAnd, tFld, tB, tTru, tLM, tCallS, tMethW, tMakeW, tDrop, tNext, tUn, tTup, tLst, sFld, tChain, tAndV, tOrV, tNotV, tIf, tDNewK,
 qAddI, qAddS, qAddL, qMulI, qMulL, qSubI, qI, qUI, qEqS, qNeS, scNI, scIN, scNS, scSN, scNB, scBN, scNN, scII, scSS, scBB, scIS, scSI, scBS, scSB, qInL, qInT, qNiL, qNiT, qInDs, qNiDs, qInDi, qNiDi, qIxL, qIxT, qIxDs, qIxDi, qIxS, qSetL, qSetDs, qSetDi, qLenS, qLenL, qLenT, qLenD, qIs, okInt, okStr, okBool, okList, okTup, okDict, tyNon, tyBl, tyInt, tyStr, qTN, qTB, qTI, qTS, qTL, qLtI, qLeI, qGtI, qGeI, qApp, qCnt, qIdx, flN, flI, flS, flB, qIsL,
 isT_NoneType_int, isT_NoneType_str, isT_NoneType_bool, isT_NoneType_list, isT_NoneType_tuple, isT_NoneType_dict, isT_bool_int, isT_bool_str, isT_bool_bool, isT_bool_list, isT_bool_tuple, isT_bool_dict, isT_int_int, isT_int_str, isT_int_bool, isT_int_list, isT_int_tuple, isT_int_dict, isT_str_int, isT_str_str, isT_str_bool, isT_str_list, isT_str_tuple, isT_str_dict, isT_list_int, isT_list_str, isT_list_bool, isT_list_list, isT_list_tuple, isT_list_dict, isT_tuple_int, isT_tuple_str, isT_tuple_bool, isT_tuple_list, isT_tuple_tuple, isT_tuple_dict, isT_dict_int, isT_dict_str, isT_dict_bool, isT_dict_list, isT_dict_tuple, isT_dict_dict, cxB_K, WF, WE, List.getElem?_cons_zero, List.getElem?_cons_succ, Option.some.injEq, exists_eq_left', exists_eq_left, V.ref.injEq, V.int.injEq, V.str.injEq, V.bl.injEq, HO.ins.injEq, List.cons.injEq, and_true, true_and, exists_and_left, and_assoc, reduceCtorEq, false_and, and_false, exists_false, or_false, false_or, if_true, if_false, Bool.false_eq_true, Bool.not_true, Bool.not_false, ite_true, ite_false, List.mem_singleton, forall_eq, L2.start, List.map_cons, List.map_nil, List.length_cons, List.length_nil, List.replicate, List.cons_append, List.nil_append, Nat.sub_self, Nat.reduceAdd, Nat.reduceSub, List.set_cons_zero, List.set_cons_succ, L2.wipe, tYes, gCons, gNil, tCont, tAndF, tOrF, false_implies, L2.tSl, tNoPart, tPart, tBM, tyVs, Int.reduceLT, Int.reduceLE, CDiv, qSlS, tAug, qIpI, Int.zero_add, decide_true, decide_false, sz1, sz2, sz3, sz0, sz4, sz5, sz6, sz7, sz8, sz9, sz10, sz11, sz12, kV_s, kV_i, Nat.reduceLT, Nat.reduceLeDiff, true_implies, Option.isSome_some, Option.isSome_none, String.reduceBEq, Bool.or_false, Bool.or_true, Bool.false_or, Bool.true_or, Bool.and_true, Bool.and_false, Bool.true_and, Bool.false_and]
            exact done _ _ _ _ _ _ g
          · simp only [tSeq, tIfS, tTest, tOp, tVar, L2.tC, tCB, tCons, tNil, tRet, tAsg, gName, gSub, tNot, tOr, tAnd, tFld, tB, tTru, tLM, tCallS, tMethW, tMakeW, tDrop, tNext, tUn, tTup, tLst, sFld, tChain, tAndV, tOrV, tNotV, tIf, tDNewK,
 qAddI, qAddS, qAddL, qMulI, qMulL, qSubI, qI, qUI, qEqS, qNeS, scNI, scIN, scNS, scSN, scNB, scBN, scNN, scII, scSS, scBB, scIS, scSI, scBS, scSB, qInL, qInT, qNiL, qNiT, qInDs, qNiDs, qInDi, qNiDi, qIxL, qIxT, qIxDs, qIxDi, qIxS, qSetL, qSetDs, qSetDi, qLenS, qLenL, qLenT, qLenD, qIs, okInt, okStr, okBool, okList, okTup, okDict, tyNon, tyBl, tyInt, tyStr, qTN, qTB, qTI, qTS, qTL, qLtI, qLeI, qGtI, qGeI, qApp, qCnt, qIdx, flN, flI, flS, flB, qIsL,
 isT_NoneType_int, isT_NoneType_str, isT_NoneType_bool, isT_NoneType_list, isT_NoneType_tuple, isT_NoneType_dict, isT_bool_int, isT_bool_str, isT_bool_bool, isT_bool_list, isT_bool_tuple, isT_bool_dict, isT_int_int, isT_int_str, isT_int_bool, isT_int_list, isT_int_tuple, isT_int_dict, isT_str_int, isT_str_str, isT_str_bool, isT_str_list, isT_str_tuple, isT_str_dict, isT_list_int, isT_list_str, isT_list_bool, isT_list_list, isT_list_tuple, isT_list_dict, isT_tuple_int, isT_tuple_str, isT_tuple_bool, isT_tuple_list, isT_tuple_tuple, isT_tuple_dict, isT_dict_int, isT_dict_str, isT_dict_bool, isT_dict_list, isT_dict_tuple, isT_dict_dict, cxB_K, WF, WE, List.getElem?_cons_zero, List.getElem?_cons_succ, Option.some.injEq, exists_eq_left', exists_eq_left, V.ref.injEq, V.int.injEq, V.str.injEq, V.bl.injEq, HO.ins.injEq, List.cons.injEq, and_true, true_and, exists_and_left, and_assoc, reduceCtorEq, false_and, and_false, exists_false, or_false, false_or, if_true, if_false, Bool.false_eq_true, Bool.not_true, Bool.not_false, ite_true, ite_false, List.mem_singleton, forall_eq, L2.start, List.map_cons, List.map_nil, List.length_cons, List.length_nil, List.replicate, List.cons_append, List.nil_append, Nat.sub_self, Nat.reduceAdd, Nat.reduceSub, List.set_cons_zero, List.set_cons_succ, L2.wipe, tYes, gCons, gNil, tCont, tAndF, tOrF, false_implies, L2.tSl, tNoPart, tPart, tBM, tyVs, Int.reduceLT, Int.reduceLE, CDiv, qSlS, tAug, qIpI, Int.zero_add, decide_true, decide_false, sz1, sz2, sz3, sz0, sz4, sz5, sz6, sz7, sz8, sz9, sz10, sz11, sz12, kV_s, kV_i, Nat.reduceLT, Nat.reduceLeDiff, true_implies, Option.isSome_some, Option.isSome_none, String.reduceBEq, Bool.or_false, Bool.or_true, Bool.false_or, Bool.true_or, Bool.and_true, Bool.and_false, Bool.true_and, Bool.false_and]
            refine mix_use (hsq _ _ U58) hl ?_
            refine useL _ _ _ fun H9 g => ?_
            simp only [tSeq, tIfS, tTest, tOp, tVar, L2.tC, tCB, tCons, tNil, tRet, tAsg, gName, gSub, tNot, tOr, tAnd, tFld, tB, tTru, tLM, tCallS, tMethW, tMakeW, tDrop, tNext, tUn, tTup, tLst, sFld, tChain, tAndV, tOrV, tNotV, tIf, tDNewK,
 qAddI, qAddS, qAddL, qMulI, qMulL, qSubI, qI, qUI, qEqS, qNeS, scNI, scIN, scNS, scSN, scNB, scBN, scNN, scII, scSS, scBB, scIS, scSI, scBS, scSB, qInL, qInT, qNiL, qNiT, qInDs, qNiDs, qInDi, qNiDi, qIxL, qIxT, qIxDs, qIxDi, qIxS, qSetL, qSetDs, qSetDi, qLenS, qLenL, qLenT, qLenD, qIs, okInt, okStr, okBool, okList, okTup, okDict, tyNon, tyBl, tyInt, tyStr, qTN, qTB, qTI, qTS, qTL, qLtI, qLeI, qGtI, qGeI, qApp, qCnt, qIdx, flN, flI, flS, flB, qIsL,
 isT_NoneType_int, isT_NoneType_str, isT_NoneType_bool, isT_NoneType_list, isT_NoneType_tuple, isT_NoneType_dict, isT_bool_int, isT_bool_str, isT_bool_bool, isT_bool_list, isT_bool_tuple, isT_bool_dict, isT_int_int, isT_int_str, isT_int_bool, isT_int_list, isT_int_tuple, isT_int_dict, isT_str_int, isT_str_str, isT_str_bool, isT_str_list, isT_str_tuple, isT_str_dict, isT_list_int, isT_list_str, isT_list_bool, isT_list_list, isT_list_tuple, isT_list_dict, isT_tuple_int, isT_tuple_str, isT_tuple_bool, isT_tuple_list, isT_tuple_tuple, isT_tuple_dict, isT_dict_int, isT_dict_str, isT_dict_bool, isT_dict_list, isT_dict_tuple, isT_dict_dict, cxB_K, WF, WE, List.getElem?_cons_zero, List.getElem?_cons_succ, Option.some.injEq, exists_eq_left', exists_eq_left, V.ref.injEq, V.int.injEq, V.str.injEq, V.bl.injEq, HO.ins.injEq, List.cons.injEq, and_true, true_and, exists_and_left, and_assoc, reduceCtorEq, false_and, and_false, exists_false, or_false, false_or, if_true, if_false, Bool.false_eq_true, Bool.not_true, Bool.not_false, ite_true, ite_false, List.mem_singleton, forall_eq, L2.start, List.map_cons, List.map_nil, List.length_cons, List.length_nil, List.replicate, List.cons_append, List.nil_append, Nat.sub_self, Nat.reduceAdd, Nat.reduceSub, List.set_cons_zero, List.set_cons_succ, L2.wipe, tYes, gCons, gNil, tCont, tAndF, tOrF, false_implies, L2.tSl, tNoPart, tPart, tBM, tyVs, Int.reduceLT, Int.reduceLE, CDiv, qSlS, tAug, qIpI, Int.zero_add, decide_true, decide_false, sz1, sz2, sz3, sz0, sz4, sz5, sz6, sz7, sz8, sz9, sz10, sz11, sz12, kV_s, kV_i, Nat.reduceLT, Nat.reduceLeDiff, true_implies, Option.isSome_some, Option.isSome_none, String.reduceBEq, Bool.or_false, Bool.or_true, Bool.false_or, Bool.true_or, Bool.and_true, Bool.and_false, Bool.true_and, Bool.false_and]
            exact done _ _ _ _ _ _ g
      · rintro σ' H5 ⟨x3, x6, x7, x8, x9, rfl, B', ts, hs, R5, L5, ru, nms, dj5, hh, hlen, nft, nfl, U5, held⟩
        simp only [tSeq, tIfS, tTest, tOp, tVar, L2.tC, tCB, tCons, tNil, tRet, tAsg, gName, gSub, tNot, tOr, tAnd, tFld, tB, tTru, tLM, tCallS, tMethW, tMakeW, tDrop, tNext, tUn, tTup, tLst, sFld, tChain, tAndV, tOrV, tNotV, tIf, tDNewK,
 qAddI, qAddS, qAddL, qMulI, qMulL, qSubI, qI, qUI, qEqS, qNeS, scNI, scIN, scNS, scSN, scNB, scBN, scNN, scII, scSS, scBB, scIS, scSI, scBS, scSB, qInL, qInT, qNiL, qNiT, qInDs, qNiDs, qInDi, qNiDi, qIxL, qIxT, qIxDs, qIxDi, qIxS, qSetL, qSetDs, qSetDi, qLenS, qLenL, qLenT, qLenD, qIs, okInt, okStr, okBool, okList, okTup, okDict, tyNon, tyBl, tyInt, tyStr, qTN, qTB, qTI, qTS, qTL, qLtI, qLeI, qGtI, qGeI, qApp, qCnt, qIdx, flN, flI, flS, flB, qIsL,
 isT_NoneType_int, isT_NoneType_str, isT_NoneType_bool, isT_NoneType_list, isT_NoneType_tuple, isT_NoneType_dict, isT_bool_int, isT_bool_str, isT_bool_bool, isT_bool_list, isT_bool_tuple, isT_bool_dict, isT_int_int, isT_int_str, isT_int_bool, isT_int_list, isT_int_tuple, isT_int_dict, isT_str_int, isT_str_str, isT_str_bool, isT_str_list, isT_str_tuple, isT_str_dict, isT_list_int, isT_list_str, isT_list_bool, isT_list_list, isT_list_tuple, isT_list_dict, isT_tuple_int, isT_tuple_str, isT_tuple_bool, isT_tuple_list, isT_tuple_tuple, isT_tuple_dict, isT_dict_int, isT_dict_str, isT_dict_bool, isT_dict_list, isT_dict_tuple, isT_dict_dict, cxB_K, WF, WE, List.getElem?_cons_zero, List.getElem?_cons_succ, Option.some.injEq, exists_eq_left', exists_eq_left, V.ref.injEq, V.int.injEq, V.str.injEq, V.bl.injEq, HO.ins.injEq, List.cons.injEq, and_true, true_and, exists_and_left, and_assoc, reduceCtorEq, false_and, and_false, exists_false, or_false, false_or, if_true, if_false, Bool.false_eq_true, Bool.not_true, Bool.not_false, ite_true, ite_false, List.mem_singleton, forall_eq, L2.start, List.map_cons, List.map_nil, List.length_cons, List.length_nil, List.replicate, List.cons_append, List.nil_append, Nat.sub_self, Nat.reduceAdd, Nat.reduceSub, List.set_cons_zero, List.set_cons_succ, L2.wipe, tYes, gCons, gNil, tCont, tAndF, tOrF, false_implies, L2.tSl, tNoPart, tPart, tBM, tyVs, Int.reduceLT, Int.reduceLE, CDiv, qSlS, tAug, qIpI, Int.zero_add, decide_true, decide_false, sz1, sz2, sz3, sz0, sz4, sz5, sz6, sz7, sz8, sz9, sz10, sz11, sz12, kV_s, kV_i, Nat.reduceLT, Nat.reduceLeDiff, true_implies, Option.isSome_some, Option.isSome_none, String.reduceBEq, Bool.or_false, Bool.or_true, Bool.false_or, Bool.true_or, Bool.and_true, Bool.and_false, Bool.true_and, Bool.false_and, tFor_eq, tLc_eq, iList, iTup, iVals, iItems, iKeysM, iRng1, iRng2, iEnum, iStr, iRev, iZip]
        refine ⟨⟨hs, .inl (.inl hh)⟩, ?_⟩
        refine lc_W (walk_list (xs := hs)) hs (fun _ => true) (fun _ => .bl true) rfl (fun H2 s2 => .inl (.inl (s2 _ _ hh))) (by omega) ?_ ?_
        · rintro j v y H7 H8 C N ev s7 ⟨rfl, hy⟩ hC hN
          rw [ev] at hy
          cases hy
          obtain ⟨p, f, c', l, ys, rfl, _, _, _, e1, e2, e3, pp⟩ := held v (List.mem_of_getElem? ev)
          have e1' := s7 _ _ e1
          refine ⟨rfl, ?_⟩
          simp only [tSeq, tIfS, tTest, tOp, tVar, L2.tC, tCB, tCons, tNil, tRet, tAsg, gName, gSub, tNot, tOr, tAnd, tFld, tB, tTru, tLM, tCallS, tMethW, tMakeW, tDrop, tNext, tUn, tTup, tLst, sFld, tChain, tAndV, tOrV, tNotV, tIf, tDNewK,
 qAddI, qAddS, qAddL, qMulI, qMulL, qSubI, qI, qUI, qEqS, qNeS, scNI, scIN, scNS, scSN, scNB, scBN, scNN, scII, scSS, scBB, scIS, scSI, scBS, scSB, qInL, qInT, qNiL, qNiT, qInDs, qNiDs, qInDi, qNiDi, qIxL, qIxT, qIxDs, qIxDi, qIxS, qSetL, qSetDs, qSetDi, qLenS, qLenL, qLenT, qLenD, qIs, okInt, okStr, okBool, okList, okTup, okDict, tyNon, tyBl, tyInt, tyStr, qTN, qTB, qTI, qTS, qTL, qLtI, qLeI, qGtI, qGeI, qApp, qCnt, qIdx, flN, flI, flS, flB, qIsL,
 isT_NoneType_int, isT_NoneType_str, isT_NoneType_bool, isT_NoneType_list, isT_NoneType_tuple, isT_NoneType_dict, isT_bool_int, isT_bool_str, isT_bool_bool, isT_bool_list, isT_bool_tuple, isT_bool_dict, isT_int_int, isT_int_str, isT_int_bool, isT_int_list, isT_int_tuple, isT_int_dict, isT_str_int, isT_str_str, isT_str_bool, isT_str_list, isT_str_tuple, isT_str_dict, isT_list_int, isT_list_str, isT_list_bool, isT_list_list, isT_list_tuple, isT_list_dict, isT_tuple_int, isT_tuple_str, isT_tuple_bool, isT_tuple_list, isT_tuple_tuple, isT_tuple_dict, isT_dict_int, isT_dict_str, isT_dict_bool, isT_dict_list, isT_dict_tuple, isT_dict_dict, cxB_K, WF, WE, List.getElem?_cons_zero, List.getElem?_cons_succ, Option.some.injEq, exists_eq_left', exists_eq_left, V.ref.injEq, V.int.injEq, V.str.injEq, V.bl.injEq, HO.ins.injEq, List.cons.injEq, and_true, true_and, exists_and_left, and_assoc, reduceCtorEq, false_and, and_false, exists_false, or_false, false_or, if_true, if_false, Bool.false_eq_true, Bool.not_true, Bool.not_false, ite_true, ite_false, List.mem_singleton, forall_eq, L2.start, List.map_cons, List.map_nil, List.length_cons, List.length_nil, List.replicate, List.cons_append, List.nil_append, Nat.sub_self, Nat.reduceAdd, Nat.reduceSub, List.set_cons_zero, List.set_cons_succ, L2.wipe, tYes, gCons, gNil, tCont, tAndF, tOrF, false_implies, L2.tSl, tNoPart, tPart, tBM, tyVs, Int.reduceLT, Int.reduceLE, CDiv, qSlS, tAug, qIpI, Int.zero_add, decide_true, decide_false, sz1, sz2, sz3, sz0, sz4, sz5, sz6, sz7, sz8, sz9, sz10, sz11, sz12, kV_s, kV_i, Nat.reduceLT, Nat.reduceLeDiff, true_implies, Option.isSome_some, Option.isSome_none, String.reduceBEq, Bool.or_false, Bool.or_true, Bool.false_or, Bool.true_or, Bool.and_true, Bool.and_false, Bool.true_and, Bool.false_and, qIxT e1']
          have pp7 : Paired (IsPair H8) l ys := paired_imp pp fun x y ⟨q, e, _, h⟩ => ⟨q, e, s7 _ _ h⟩
          refine ⟨_, rfl, _, rfl, ?_⟩
          refine eq_D (pairs_dp (s7 _ _ e2) pp7) (pairs_dp (s7 _ _ e3) pp7) (pairs_shaped _) (pairs_shaped _) ?_
          rw [eqv_rfl (pairs_shaped _)]
          exact hC rfl _ (Same.refl _)
        · intro D H7 hD s7 eD
          rw [filter_all] at eD
          refine rAll_of (bs := hs.map fun _ => true) (by rw [eD, List.map_map]; rfl) ?_
          have ea : (hs.map fun _ => true).all id = true := by simp
          rw [ea]
          exact hq _
end
end Pk

open PySem PySem.W PySem.Calls PyProof.Rows
theorem PySem.Challenge.cw_passkeep_k41_slots_holds : PySem.Challenge.rw_passkeep_k41_slots.Holds := by
  w_on; o_law
  refine Pk.head_pieces (r := OpenLaw.row PySem.Challenge.rw_passkeep_k41_slots) (q := Pk.qv) (H := Pk.hk) (loose := Pk.loose) (kwd := []) (d := HandSHeadRun.topDef (OpenLaw.row PySem.Challenge.rw_passkeep_k41_slots).prog 42)
    (by kernel_rfl) (fun s => by kernel_rfl) ?hN Pk.run (by kernel_rfl) (by kernel_rfl) (by kernel_rfl) (by rfl) (by first | assumption | decide +kernel) (by decide +kernel) ⟨rfl, rfl, rfl, rfl, rfl, by decide +kernel⟩ ?hw ?hc
  case hN => decide
  case hw => w_witness2
  case hc =>
    refine L2.walk_ofE (l := PySem.Challenge.rw_passkeep_k41_slots) (n := 63) (k := 5) (x := "_law_script") (CX := Pk.CXe) rfl (by decide) (by kernel_rfl) ⟨rfl, by decide, by decide⟩ ?F (fun _ _ _ _ z => z.elim fun _ z => z.elim fun _ z => z.elim fun _ z => z)
    intro w mg fa h Y G hmg0
    obtain ⟨K, KX, c⟩ := Y
    have hmg : mg ("law" : PySem.Str) = some (.ref fa) := by
      have e : (HandSHeadRun.topDef (OpenLaw.row PySem.Challenge.rw_passkeep_k41_slots).prog 42).name = ("law" : PySem.Str) := by kernel_rfl
      rw [← e]
      exact hmg0
    have T : Pk.Tx K mg := Pk.TxOf.mk_of KX G c
    have e := hmg.symm.trans T.g_law
    cases e
    obtain ⟨fd, F⟩ := T.d_law
    have b := L2.FunD.bindsA (ps := ["_law_script"]) F fun _ _ _ _ _ _ us hl => match us, hl with | [_], _ => rfl
    exact ⟨K, fd, Pk.sp_law K, KX, fun s v => b s [v] rfl, fun H a ns hl _ hS => ⟨a, rfl, ns, hS, hl, fun _ => rfl⟩, fun base _ _ => Pk.toE (Pk.fn_law (base := base) T fd F)⟩
