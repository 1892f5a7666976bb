import PyProof.Rows.All
import Wide.All
import OpenK.AllK
import Wide.FinOn
import HandS.Head0
import HandS.Head1
import HandS.Head2
import HandS.HeadEnd
import HandS.HeadHook1
import HandS.HeadHook3
import HandS.Words
import PySem.Challenge.RW_leafcall_k05_deeds_that_wait
import HandS.ForMost
import HandS.ForExc
import HandS.HotCalls
import HandS.ExcIs
import HandS.Deep
import HandS.IsInst
import HandS.Conv
import HandS.Flow
import HandS.Style
import KE.DataFind
import HandS.TryOnly
import PyProof.ExcBaseAll.ValueError
import HandS.RaiseMore
import HandS.DictTup
import HandS.SortRule
import HandS.SortInts
import HandS.More
import HandS.NoneIn
import KE.KDictPairs
import KE.KDictKeyed
import HandS.TupAny
import HandS.Iter
import HandS.TupSets
import HandS.SetFor
import HandS.DictEq
import HandS.Text
import HandS.Zip
import HandS.ExcCtx
import KE.KDictWalk
import KE.GoesEnum
import KE.KDictSum
import KE.KEqDict
import KE.KDictCopyH
import HandS.List
set_option Elab.async false
set_option linter.all false
set_option maxRecDepth 100000
set_option maxHeartbeats 0
namespace VT
open PySem L2
abbrev FB := PySem.W.Frag → Bool
def obsF (fss : List (List FB)) (fn : List He.FnD) (K : PySem.W.Frag) : He.Al :=
  (fss.all (fun fs => fs.all fun f => f K) && fn.all (fun d => (He.Fa.code d.at_ d.qual).ok K), fn.map fun d => He.fnObs K d.at_)
def SaysF (fss : List (List FB)) (fn : List He.FnD) (K : PySem.W.Frag) : Prop := obsF fss fn K = He.valE fn
section
variable {fss : List (List FB)} {fn : List He.FnD} {K : PySem.W.Frag}
theorem SaysF.both (c : SaysF fss fn K) : (fss.all (fun fs => fs.all fun f => f K) = true ∧ fn.all (fun d => (He.Fa.code d.at_ d.qual).ok K) = true) ∧ (fn.map fun d => He.fnObs K d.at_) = fn.map He.FnD.val :=
  ⟨He.ba (congrArg Prod.fst c), congrArg Prod.snd c⟩
theorem SaysF.part (c : SaysF fss fn K) (i : Nat) {fs : List FB} (h : fss[i]? = some fs) : ∀ f ∈ fs, f K = true :=
  fun f hf => List.all_eq_true.mp (List.all_eq_true.mp c.both.1.1 fs (List.mem_of_getElem? h)) f hf
theorem SaysF.fact (c : SaysF fss fn K) (i j : Nat) {fs : List FB} {f : FB} (h : fss[i]? = some fs) (g : fs[j]? = some f) : f K = true := c.part i h f (List.mem_of_getElem? g)
theorem SaysF.fun_ (c : SaysF fss fn K) (i : Nat) {d : He.FnD} (h : fn[i]? = some d) :
    ∃ oc od osl kV doc pm an cdv ct, K.lookup (He.fAd K d.at_) = some ⟨oc, od, .func (PySem.W.fnOf d.name d.qual d.params d.body d.scope .none kV doc pm an cdv ct), osl⟩ ∧ PySem.W.codeIn K cdv d.qual = true := by
  have e := congrArg (fun l => l[i]?) c.both.2
  simp only [List.getElem?_map, h, Option.map_some, Option.some.injEq] at e
  exact He.fn_ok e (List.all_eq_true.mp c.both.1.2 d (List.mem_of_getElem? h))
end
/-- a law over such a head -/
theorem walk_own {l : PySem.W.OpenLaw} {n k : Nat} {q : Program} {loose : List Str} {XP : (Str → Option Value) → Heap → Prop} {YP : World → Heap → Prop} {d : DefRec} {CX : World → CXT} {x : Str} (hn : l.most = some n) (hn2 : n ≤ sizeLine) (hdf : d.params.defaults = []) (hr : Room k callerA)
    (F : ∀ (w : World) (mg : Str → Option Value) (fa : Addr) (h : Heap), YP w h → h.Ns mainGlobals mg → mg d.name = some (.ref fa) → ∃ K : PySem.W.Frag, K.In h ∧ ∃ (fd : FuncData) (sp : Sp), (∀ (s : Shared) (u : Value), BindsTo s fd ⟨[u], []⟩ [(x, u)]) ∧ (∀ (H : Hp) (a : Addr) (ns : List Int), ns.length ≤ n → Only H → SqL K H a (ns.map V.int) → sp [.ref a] H (fun v _ => v = .bl true) fun _ _ _ => False) ∧ ∀ b : Heap, K.In b → b.Ns mainGlobals mg → FnOk l.prog w K mg b (CX w) k fa fd [x] sp)
    (hCX : ∀ (w : World) (H : Hp) (s : Shared) (e : Value) (s' : Shared), CX w [] H s (fun _ _ _ => False) e s' → False) : PySem.W.WalkO q loose XP YP l.row.toRowW d [] (fun f vs => PySem.call f vs) :=
  Att.attach_call hn hdf fun w _ s1 mg _ fa _ _ _ _ a _ ns G Y _ _ _ hmg hobj hints hlen hg =>
    (F w mg fa _ Y G.T.g hmg).elim fun _ z => z.2.elim fun _ z2 => z2.elim fun _ y =>
      law_call z.1 G.T.g G.T.b G.T.builtins G.T.nolimit hg hobj hints (Nat.le_trans hlen hn2) hr y.2.2 y.1 (fun H hO hS => y.2.1 H a ns hlen hO hS) fun H e s' => hCX w H s1 e s'
end VT
namespace VT
open PySem L2
def asN (n k : Nat) : List Addr := mainGlobals :: List.range' (n - k) k
def obsR (k : Nat) (fss : List (List FB)) (fn : List He.FnD) (g : Addr → Option Obj) (n : Nat) : He.Al := obsF fss fn (He.frG g (asN n k))
def hookR (k : Nat) (fss : List (List FB)) (fn : List He.FnD) : PySem.W.Hook :=
  { α := He.Al
    obs := fun s => obsR k fss fn s.heap.get? s.heap.objs.size
    val := fun _ => He.valE fn
    says := fun _ h => ∃ K, PySem.W.Frag.In K h ∧ SaysF fss fn K
    of := fun _ _ e => ⟨_, He.frG_in, e⟩
    keeps := fun _ _ _ z k => z.elim fun K y => ⟨K, y.1.keeps k, y.2⟩ }
theorem obsR_eq {k : Nat} {fss : List (List FB)} {fn : List He.FnD} (s : PySem.W.SharedT) : obsR k fss fn (HandSHeadRun.getT s) s.n = (hookR k fss fn).obs s.abs := by
  show _ = obsR k fss fn s.abs.heap.get? s.abs.heap.objs.size
  rw [show s.abs.heap.objs.size = s.n from PySem.W.absHeap_size _ _ _, show HandSHeadRun.getT s = s.abs.heap.get? from funext (HandSHeadRun.getT_eq s)]
/-- the end's looks apart -/
theorem run_split {E : Option PySem.W.SharedT} {β γ : Type} {f1 : PySem.W.SharedT → Bool} {f2 : PySem.W.SharedT → β} {t c : PySem.W.SharedT → Bool} {o : PySem.W.SharedT → γ} {b : β} {v : γ} (h1 : E.map f1 = some true) (h2 : E.map f2 = some b) (h3 : E.map t = some true) (h4 : E.map (fun s => (c s, o s)) = some (true, v)) :
    E.map (fun s => (f1 s, f2 s, (t s && c s, o s))) = some (true, b, (true, v)) := by
  cases E with
  | none => cases h1
  | some s =>
    have e1 : f1 s = true := Option.some.inj h1
    have e2 : f2 s = b := Option.some.inj h2
    have e3 : t s = true := Option.some.inj h3
    have e4 : (c s, o s) = (true, v) := Option.some.inj h4
    have e5 : c s = true := congrArg Prod.fst e4
    have e6 : o s = v := congrArg Prod.snd e4
    show some (f1 s, f2 s, (t s && c s, o s)) = _
    rw [e1, e2, e3, e5, e6]
    try rfl
end VT
namespace VT
open PySem L2
end VT
namespace K05
open PySem L2
def top (i : Nat) : Stmt := PySem.Challenge.pw_leafcall_k05_deeds_that_wait.main.body.getD i (.Pass ⟨0, 0, 0, 0⟩)
abbrev s_Deeds___init : Stmt := inClass (top 16) 0
abbrev s_Deeds_begin : Stmt := inClass (top 16) 1
abbrev s_Deeds_holds : Stmt := inClass (top 16) 2
abbrev s_Deeds_answered : Stmt := inClass (top 16) 3
abbrev s_Deeds_waiting : Stmt := inClass (top 16) 4
abbrev s_Deeds_is_told : Stmt := inClass (top 16) 5
abbrev s_law_bag : Stmt := top 18
abbrev s_law_take : Stmt := top 19
abbrev s_law_pages : Stmt := top 20
abbrev s_law_whole : Stmt := top 21
abbrev s_law_truth : Stmt := top 22
abbrev s_law_kinds : Stmt := top 23
abbrev s_law_held : Stmt := top 25
abbrev s_law_answered : Stmt := top 26
abbrev s_law_told : Stmt := top 27
abbrev s_law_stands : Stmt := top 28
abbrev s_law_begun : Stmt := top 24
abbrev s_law : Stmt := top 29
end K05
namespace K05
open PySem L2 VT
def fs0 : List FB := [fun K => He.eqO (PySem.W.nsIn K mainGlobals "NoCall") (some (some (.ref (He.ga K "NoCall")))),
  fun K => decide (PySem.W.typeIn K (.ref (He.ga K "NoCall")) = some (.type "type")),
  fun K => PySem.W.isClsIn K (He.ga K "NoCall"),
  fun K => He.eqO (PySem.W.nsIn K mainGlobals "Here") (some (some (.ref (He.ga K "Here")))),
  fun K => decide (PySem.W.typeIn K (.ref (He.ga K "Here")) = some (.type "type")),
  fun K => PySem.W.isClsIn K (He.ga K "Here"),
  fun K => He.eqO (PySem.W.nsIn K mainGlobals "BadRow") (some (some (.ref (He.ga K "BadRow")))),
  fun K => decide (PySem.W.typeIn K (.ref (He.ga K "BadRow")) = some (.type "type")),
  fun K => PySem.W.isClsIn K (He.ga K "BadRow"),
  fun K => He.eqO (PySem.W.nsIn K mainGlobals "Asleep") (some (some (.ref (He.ga K "Asleep")))),
  fun K => decide (PySem.W.typeIn K (.ref (He.ga K "Asleep")) = some (.type "type")),
  fun K => PySem.W.isClsIn K (He.ga K "Asleep"),
  fun K => He.eqO (PySem.W.nsIn K mainGlobals "NoPage") (some (some (.ref (He.ga K "NoPage")))),
  fun K => decide (PySem.W.typeIn K (.ref (He.ga K "NoPage")) = some (.type "type")),
  fun K => PySem.W.isClsIn K (He.ga K "NoPage"),
  fun K => He.eqO (PySem.W.nsIn K mainGlobals "NoLeaf") (some (some (.ref (He.ga K "NoLeaf")))),
  fun K => decide (PySem.W.typeIn K (.ref (He.ga K "NoLeaf")) = some (.type "type")),
  fun K => PySem.W.isClsIn K (He.ga K "NoLeaf"),
  fun K => He.eqO (PySem.W.nsIn K mainGlobals "NoHand") (some (some (.ref (He.ga K "NoHand")))),
  fun K => decide (PySem.W.typeIn K (.ref (He.ga K "NoHand")) = some (.type "type")),
  fun K => PySem.W.isClsIn K (He.ga K "NoHand"),
  fun K => He.eqO (PySem.W.nsIn K mainGlobals "Taken") (some (some (.ref (He.ga K "Taken")))),
  fun K => decide (PySem.W.typeIn K (.ref (He.ga K "Taken")) = some (.type "type")),
  fun K => PySem.W.isClsIn K (He.ga K "Taken"),
  fun K => He.eqO (PySem.W.nsIn K mainGlobals "NoSpace") (some (some (.ref (He.ga K "NoSpace")))),
  fun K => decide (PySem.W.typeIn K (.ref (He.ga K "NoSpace")) = some (.type "type")),
  fun K => PySem.W.isClsIn K (He.ga K "NoSpace"),
  fun K => He.eqO (PySem.W.nsIn K mainGlobals "NoRoom") (some (some (.ref (He.ga K "NoRoom")))),
  fun K => decide (PySem.W.typeIn K (.ref (He.ga K "NoRoom")) = some (.type "type")),
  fun K => PySem.W.isClsIn K (He.ga K "NoRoom")]
def fs1 : List FB := [fun K => He.eqO (PySem.W.nsIn K mainGlobals "NoRight") (some (some (.ref (He.ga K "NoRight")))),
  fun K => decide (PySem.W.typeIn K (.ref (He.ga K "NoRight")) = some (.type "type")),
  fun K => PySem.W.isClsIn K (He.ga K "NoRight"),
  fun K => He.eqO (PySem.W.nsIn K mainGlobals "Waits") (some (some (.ref (He.ga K "Waits")))),
  fun K => decide (PySem.W.typeIn K (.ref (He.ga K "Waits")) = some (.type "type")),
  fun K => PySem.W.isClsIn K (He.ga K "Waits"),
  fun K => He.eqO (PySem.W.nsIn K mainGlobals "CallError") (some (some (.ref (He.ga K "CallError")))),
  fun K => decide (PySem.W.typeIn K (.ref (He.ga K "CallError")) = some (.type "type")),
  fun K => decide (PySem.W.subIn K (.ref (He.ga K "CallError")) (.type "BaseException") = some true),
  fun K => PySem.W.hasDictIn K (He.ga K "CallError"),
  fun K => He.eqO (PySem.W.nsIn K mainGlobals "NoDeed") (some (some (.ref (He.ga K "NoDeed")))),
  fun K => PySem.W.excIn K (He.ga K "NoDeed") [.type "ValueError", .type "Exception", .type "BaseException", .type "object"] "ValueError.__new__",
  fun K => PySem.W.keepIn K (.ref (He.ga K "NoDeed")),
  fun K => decide (PySem.W.subIn K (.ref (He.ga K "NoDeed")) (.type "BaseException") = some true),
  fun K => decide (PySem.W.typeIn K (.ref (He.ga K "NoDeed")) = some (.type "type")),
  fun K => He.eqO (PySem.W.findIn K (.ref (He.ga K "NoDeed")) "__getattribute__") (some (some (.builtin "BaseException.__getattribute__"))),
  fun K => He.eqO (PySem.W.findIn K (.ref (He.ga K "NoDeed")) "__getattr__") (some none),
  fun K => PySem.W.hasDictIn K (He.ga K "NoDeed"),
  fun K => He.eqO (PySem.W.findIn K (.ref (He.ga K "NoDeed")) "__class__") (some (some (.builtin "object.__class__"))),
  fun K => He.eqO (PySem.W.specialIn K (.builtin "object.__class__") "__get__") (some (some (.builtin "getset_descriptor.__get__"))),
  fun K => decide (PySem.W.takesIn K (.builtin "object.__class__") = some true),
  fun K => decide (PySem.W.mroIn K (He.ga K "NoDeed") (.type "object") = some true),
  fun K => PySem.W.isClsIn K (He.ga K "NoDeed"),
  fun K => decide (PySem.W.subIn K (.ref (He.ga K "NoDeed")) (.ref (He.ga K "NoDeed")) = some true),
  fun K => decide (PySem.W.subIn K (.ref (He.ga K "NoDeed")) (.ref (He.ga K "NoCall")) = some false),
  fun K => decide (PySem.W.subIn K (.ref (He.ga K "NoDeed")) (.ref (He.ga K "Here")) = some false),
  fun K => decide (PySem.W.subIn K (.ref (He.ga K "NoDeed")) (.ref (He.ga K "BadRow")) = some false),
  fun K => decide (PySem.W.subIn K (.ref (He.ga K "NoDeed")) (.ref (He.ga K "Asleep")) = some false),
  fun K => decide (PySem.W.subIn K (.ref (He.ga K "NoDeed")) (.ref (He.ga K "NoPage")) = some false),
  fun K => decide (PySem.W.subIn K (.ref (He.ga K "NoDeed")) (.ref (He.ga K "NoLeaf")) = some false)]
def fs2 : List FB := [fun K => decide (PySem.W.subIn K (.ref (He.ga K "NoDeed")) (.ref (He.ga K "NoHand")) = some false),
  fun K => decide (PySem.W.subIn K (.ref (He.ga K "NoDeed")) (.ref (He.ga K "Taken")) = some false),
  fun K => decide (PySem.W.subIn K (.ref (He.ga K "NoDeed")) (.ref (He.ga K "NoSpace")) = some false),
  fun K => decide (PySem.W.subIn K (.ref (He.ga K "NoDeed")) (.ref (He.ga K "NoRoom")) = some false),
  fun K => decide (PySem.W.subIn K (.ref (He.ga K "NoDeed")) (.ref (He.ga K "NoRight")) = some false),
  fun K => decide (PySem.W.subIn K (.ref (He.ga K "NoDeed")) (.type "ValueError") = some true),
  fun K => decide (PySem.W.subIn K (.ref (He.ga K "NoDeed")) (.ref (He.ga K "Waits")) = some false),
  fun K => decide (PySem.W.subIn K (.ref (He.ga K "NoDeed")) (.ref (He.ga K "CallError")) = some true),
  fun K => He.eqO (PySem.W.nsIn K mainGlobals "_law_kinds") (some (some (.ref (He.ga K "_law_kinds")))),
  fun K => PySem.W.keepIn K (.ref (He.ga K "_law_kinds")),
  fun K => He.eqO (PySem.W.nsIn K mainGlobals "Deeds") (some (some (.ref (He.ga K "Deeds")))),
  fun K => PySem.W.plainGet K (He.ga K "Deeds") Str.empty,
  fun K => PySem.W.hasDictIn K (He.ga K "Deeds"),
  fun K => PySem.W.plainOver K (He.ga K "Deeds"),
  fun K => He.eqO (PySem.W.findIn K (.ref (He.ga K "Deeds")) "__setattr__") (some (some (.builtin "object.__setattr__"))),
  fun K => PySem.W.makesIn K (He.ga K "Deeds"),
  fun K => PySem.W.keepIn K (.ref (He.ga K "Deeds")),
  fun K => He.eqO (PySem.W.findIn K (.ref (He.ga K "Deeds")) "coming") (some none),
  fun K => He.eqO (PySem.W.findIn K (.ref (He.ga K "Deeds")) "pending") (some none),
  fun K => He.eqO (PySem.W.findIn K (.ref (He.ga K "Deeds")) "__init__") (some (some (.ref (He.ma K (He.ga K "Deeds") "__init__")))),
  fun K => PySem.W.isFn K (.ref (He.ma K (He.ga K "Deeds") "__init__")),
  fun K => PySem.W.keepIn K (.ref (He.ma K (He.ga K "Deeds") "__init__")),
  fun K => He.eqO (PySem.W.findIn K (.ref (He.ga K "Deeds")) "begin") (some (some (.ref (He.ma K (He.ga K "Deeds") "begin")))),
  fun K => PySem.W.isFn K (.ref (He.ma K (He.ga K "Deeds") "begin")),
  fun K => PySem.W.keepIn K (.ref (He.ma K (He.ga K "Deeds") "begin")),
  fun K => He.eqO (PySem.W.findIn K (.ref (He.ga K "Deeds")) "holds") (some (some (.ref (He.ma K (He.ga K "Deeds") "holds")))),
  fun K => PySem.W.isFn K (.ref (He.ma K (He.ga K "Deeds") "holds")),
  fun K => PySem.W.keepIn K (.ref (He.ma K (He.ga K "Deeds") "holds")),
  fun K => He.eqO (PySem.W.findIn K (.ref (He.ga K "Deeds")) "answered") (some (some (.ref (He.ma K (He.ga K "Deeds") "answered")))),
  fun K => PySem.W.isFn K (.ref (He.ma K (He.ga K "Deeds") "answered"))]
def fs3 : List FB := [fun K => PySem.W.keepIn K (.ref (He.ma K (He.ga K "Deeds") "answered")),
  fun K => He.eqO (PySem.W.findIn K (.ref (He.ga K "Deeds")) "waiting") (some (some (.ref (He.ma K (He.ga K "Deeds") "waiting")))),
  fun K => PySem.W.isFn K (.ref (He.ma K (He.ga K "Deeds") "waiting")),
  fun K => PySem.W.keepIn K (.ref (He.ma K (He.ga K "Deeds") "waiting")),
  fun K => He.eqO (PySem.W.findIn K (.ref (He.ga K "Deeds")) "is_told") (some (some (.ref (He.ma K (He.ga K "Deeds") "is_told")))),
  fun K => PySem.W.isFn K (.ref (He.ma K (He.ga K "Deeds") "is_told")),
  fun K => PySem.W.keepIn K (.ref (He.ma K (He.ga K "Deeds") "is_told")),
  fun K => He.eqO (PySem.W.nsIn K mainGlobals "_law_bag") (some (some (.ref (He.ga K "_law_bag")))),
  fun K => PySem.W.keepIn K (.ref (He.ga K "_law_bag")),
  fun K => He.eqO (PySem.W.nsIn K mainGlobals "_law_take") (some (some (.ref (He.ga K "_law_take")))),
  fun K => PySem.W.keepIn K (.ref (He.ga K "_law_take")),
  fun K => He.eqO (PySem.W.nsIn K mainGlobals "_law_pages") (some (some (.ref (He.ga K "_law_pages")))),
  fun K => PySem.W.keepIn K (.ref (He.ga K "_law_pages")),
  fun K => He.eqO (PySem.W.nsIn K mainGlobals "_law_whole") (some (some (.ref (He.ga K "_law_whole")))),
  fun K => PySem.W.keepIn K (.ref (He.ga K "_law_whole")),
  fun K => He.eqO (PySem.W.nsIn K mainGlobals "_law_truth") (some (some (.ref (He.ga K "_law_truth")))),
  fun K => PySem.W.keepIn K (.ref (He.ga K "_law_truth")),
  fun K => He.eqO (PySem.W.nsIn K mainGlobals "_law_held") (some (some (.ref (He.ga K "_law_held")))),
  fun K => PySem.W.keepIn K (.ref (He.ga K "_law_held")),
  fun K => He.eqO (PySem.W.nsIn K mainGlobals "_law_answered") (some (some (.ref (He.ga K "_law_answered")))),
  fun K => PySem.W.keepIn K (.ref (He.ga K "_law_answered")),
  fun K => He.eqO (PySem.W.nsIn K mainGlobals "_law_told") (some (some (.ref (He.ga K "_law_told")))),
  fun K => PySem.W.keepIn K (.ref (He.ga K "_law_told")),
  fun K => He.eqO (PySem.W.nsIn K mainGlobals "_law_stands") (some (some (.ref (He.ga K "_law_stands")))),
  fun K => PySem.W.keepIn K (.ref (He.ga K "_law_stands")),
  fun K => He.eqO (PySem.W.nsIn K mainGlobals "_law_begun") (some (some (.ref (He.ga K "_law_begun")))),
  fun K => PySem.W.keepIn K (.ref (He.ga K "_law_begun")),
  fun K => He.eqO (PySem.W.nsIn K mainGlobals "law") (some (some (.ref (He.ga K "law")))),
  fun K => PySem.W.keepIn K (.ref (He.ga K "law")),
  fun K => He.eqO (PySem.W.nsIn K mainGlobals "ValueError") (some none)]
def fs4 : List FB := [fun K => He.eqO (PySem.W.nsIn K mainGlobals "bool") (some none),
  fun K => He.eqO (PySem.W.nsIn K mainGlobals "int") (some none),
  fun K => He.eqO (PySem.W.nsIn K mainGlobals "isinstance") (some none),
  fun K => He.eqO (PySem.W.nsIn K mainGlobals "len") (some none),
  fun K => He.eqO (PySem.W.nsIn K mainGlobals "list") (some none),
  fun K => He.eqO (PySem.W.nsIn K mainGlobals "min") (some none),
  fun K => He.eqO (PySem.W.nsIn K mainGlobals "range") (some none),
  fun K => He.eqO (PySem.W.nsIn K mainGlobals "tuple") (some none)]
def fss : List (List FB) := [fs0, fs1, fs2, fs3, fs4]
def fd0 : He.FnD := ⟨("Deeds", some "__init__"), "__init__", "Deeds.__init__", defArgs s_Deeds___init, defBody s_Deeds___init, defScope s_Deeds___init⟩
def fd1 : He.FnD := ⟨("Deeds", some "begin"), "begin", "Deeds.begin", defArgs s_Deeds_begin, defBody s_Deeds_begin, defScope s_Deeds_begin⟩
def fd2 : He.FnD := ⟨("Deeds", some "holds"), "holds", "Deeds.holds", defArgs s_Deeds_holds, defBody s_Deeds_holds, defScope s_Deeds_holds⟩
def fd3 : He.FnD := ⟨("Deeds", some "answered"), "answered", "Deeds.answered", defArgs s_Deeds_answered, defBody s_Deeds_answered, defScope s_Deeds_answered⟩
def fd4 : He.FnD := ⟨("Deeds", some "waiting"), "waiting", "Deeds.waiting", defArgs s_Deeds_waiting, defBody s_Deeds_waiting, defScope s_Deeds_waiting⟩
def fd5 : He.FnD := ⟨("Deeds", some "is_told"), "is_told", "Deeds.is_told", defArgs s_Deeds_is_told, defBody s_Deeds_is_told, defScope s_Deeds_is_told⟩
def fd6 : He.FnD := ⟨("_law_bag", none), "_law_bag", "_law_bag", defArgs s_law_bag, defBody s_law_bag, defScope s_law_bag⟩
def fd7 : He.FnD := ⟨("_law_take", none), "_law_take", "_law_take", defArgs s_law_take, defBody s_law_take, defScope s_law_take⟩
def fd8 : He.FnD := ⟨("_law_pages", none), "_law_pages", "_law_pages", defArgs s_law_pages, defBody s_law_pages, defScope s_law_pages⟩
def fd9 : He.FnD := ⟨("_law_whole", none), "_law_whole", "_law_whole", defArgs s_law_whole, defBody s_law_whole, defScope s_law_whole⟩
def fd10 : He.FnD := ⟨("_law_truth", none), "_law_truth", "_law_truth", defArgs s_law_truth, defBody s_law_truth, defScope s_law_truth⟩
def fd11 : He.FnD := ⟨("_law_held", none), "_law_held", "_law_held", defArgs s_law_held, defBody s_law_held, defScope s_law_held⟩
def fd12 : He.FnD := ⟨("_law_answered", none), "_law_answered", "_law_answered", defArgs s_law_answered, defBody s_law_answered, defScope s_law_answered⟩
def fd13 : He.FnD := ⟨("_law_told", none), "_law_told", "_law_told", defArgs s_law_told, defBody s_law_told, defScope s_law_told⟩
def fd14 : He.FnD := ⟨("_law_stands", none), "_law_stands", "_law_stands", defArgs s_law_stands, defBody s_law_stands, defScope s_law_stands⟩
def fd15 : He.FnD := ⟨("_law_begun", none), "_law_begun", "_law_begun", defArgs s_law_begun, defBody s_law_begun, defScope s_law_begun⟩
def fd16 : He.FnD := ⟨("law", none), "law", "law", defArgs s_law, defBody s_law, defScope s_law⟩
def fdK : He.FnD := ⟨("_law_kinds", none), "_law_kinds", "_law_kinds", defArgs s_law_kinds, defBody s_law_kinds, defScope s_law_kinds⟩
def fn0 : List He.FnD := [fd0, fd1, fd2, fd3, fd4, fd5, fd6, fd7, fd8, fd9, fd10, fd11, fd12, fd13, fd14, fd15, fd16, fdK]
def fns : List He.FnD := fn0
def gl0 : List PySem.Str := ["CallError", "NoSpace", "NoPage", "NoHand", "NoRight", "NoLeaf", "NoRoom", "NoCall", "NoDeed", "Taken", "Waits", "Here", "Asleep", "BadRow", "Deeds", "_law_bag", "_law_take", "_law_pages", "_law_whole", "_law_truth", "_law_kinds", "_law_begun", "_law_held", "_law_answered", "_law_told", "_law_stands"]
def gls : List PySem.Str := gl0
abbrev RR : PySem.W.OpenRow := PySem.W.OpenLaw.row PySem.Challenge.rw_leafcall_k05_deeds_that_wait
abbrev hk : PySem.W.Hook := hookR 1200 fss fns
def ob (s : PySem.W.SharedT) : He.Al := obsR 1200 fss fns (HandSHeadRun.getT s) s.n
theorem ob_eq (s : PySem.W.SharedT) : ob s = hk.obs s.abs := obsR_eq s
theorem run_l (w : World) (os : OsState) : (HandSHeadRun.endF (HandSHeadRun.stepQ (HandSHeadRun.denQ HandSHeadRun.tabQ) RR.prog w) 8000 RR.prog w os).map (fun s => HandSHeadRun.looksF RR.prog (PySem.W.boot_heap w.params) s.abs) = some true := by
  kernel_rfl
theorem run_s (w : World) (os : OsState) : (HandSHeadRun.endF (HandSHeadRun.stepQ (HandSHeadRun.denQ HandSHeadRun.tabQ) RR.prog w) 8000 RR.prog w os).map (fun s => HandSHeadRun.seenQ (PySem.W.view RR.prog [29]) gls (importedModules RR.prog.main.body) (fun s => PySem.W.xlAt (PySem.W.view RR.prog [29]) [] s && PySem.W.recOk RR.toRowW.records s) s.abs) = some (PySem.W.openGood (PySem.W.view RR.prog [29]) gls) := by
  kernel_rfl
theorem run_t (w : World) (os : OsState) : (HandSHeadRun.endF (HandSHeadRun.stepQ (HandSHeadRun.denQ HandSHeadRun.tabQ) RR.prog w) 8000 RR.prog w os).map (fun s => fss.all (fun fs => fs.all fun f => f (He.frG (HandSHeadRun.getT s) (asN s.n 1200)))) = some true := by
  kernel_rfl
theorem run_f (w : World) (os : OsState) : (HandSHeadRun.endF (HandSHeadRun.stepQ (HandSHeadRun.denQ HandSHeadRun.tabQ) RR.prog w) 8000 RR.prog w os).map (fun s => (fns.all (fun d => (He.Fa.code d.at_ d.qual).ok (He.frG (HandSHeadRun.getT s) (asN s.n 1200))), fns.map fun d => He.fnObs (He.frG (HandSHeadRun.getT s) (asN s.n 1200)) d.at_)) = some (He.valE fns) := by
  kernel_rfl
theorem run (w : World) : HandSHeadRun.RunEq RR (PySem.W.view RR.prog [29]) hk ob 8000 gls w := fun os => run_split (run_l w os) (run_s w os) (run_t w os) (run_f w os)
end K05
section
open PySem PySem.W PySem.Calls PyProof.Rows
theorem K05.hold_of (HC : ∀ (q : PySem.Challenge.rw_leafcall_k05_deeds_that_wait.row.wellSaid = true), WalkO (view PySem.Challenge.rw_leafcall_k05_deeds_that_wait.row.prog [29]) K05.gls (XL (view PySem.Challenge.rw_leafcall_k05_deeds_that_wait.row.prog [29]) []) K05.hk.says PySem.Challenge.rw_leafcall_k05_deeds_that_wait.row.toRowW (HandSHeadRun.topDef PySem.Challenge.rw_leafcall_k05_deeds_that_wait.row.prog 29) [] fun f vs => call f vs) : PySem.Challenge.rw_leafcall_k05_deeds_that_wait.Holds := by
  w_on; o_law
  refine HandSHeadRun.head_any (r := OpenLaw.row PySem.Challenge.rw_leafcall_k05_deeds_that_wait) (q := view (OpenLaw.row PySem.Challenge.rw_leafcall_k05_deeds_that_wait).prog [29]) (H := K05.hk) (ob := K05.ob) (M := 8000) (loose := K05.gls) (d := HandSHeadRun.topDef (OpenLaw.row PySem.Challenge.rw_leafcall_k05_deeds_that_wait).prog 29) (kwd := []) K05.ob_eq
    (by kernel_rfl) (fun s => by kernel_rfl) K05.run (by kernel_rfl) (by kernel_rfl) (by kernel_rfl) (by rfl) (by first | assumption | decide +kernel) (by decide +kernel) ⟨rfl, rfl, rfl, rfl, rfl, by decide +kernel⟩ ?hw ?hc
  case hw => w_witness2
  case hc => exact HC (by assumption)
end
namespace VT
open PySem L2
inductive Kd where
  | tup | lst | fz
  | dK (ks : List Key) | dT (ks : List (List Key))
  | fK (ks : List Key) | any
  | obj (c : Nat) (ns : List Str)
inductive T where
  | non | bl (b : Bool) | int (i : Int) | str (x : Str)
  | nd (k : Kd) (ts : List T)
abbrev FP := Addr → Prop
abbrev FE : FP := fun _ => False
abbrev FU (F G : FP) : FP := fun a => F a ∨ G a
/-- owned by what holds it -/
def Kd.ow : Kd → Bool
  | .tup => false
  | .fz => false
  | .fK _ => false
  | .any => false
  | _ => true
/-- places lead through it -/
def Kd.mu : Kd → Bool
  | .tup => false
  | .fz => false
  | .any => false
  | _ => true
theorem ow_mu {k : Kd} (h : k.ow = true) : k.mu = true := by cases k <;> first | rfl | cases h
structure Gx where
  K : PySem.W.Frag
  cl : Nat → Addr
  ct : Nat → List Str
  ok : ∀ c f, f ∈ ct c → Cls K (cl c) ∧ NoAttr K (cl c) f
def RoL (K : PySem.W.Frag) (H : Hp) (a : Addr) (vs : List V) : Prop := (∃ o, H a = some (.frz o (.lst vs))) ∨ ∀ H' : Hp, SqL K H' a vs
def At (Γ : Gx) (H : Hp) (k : Kd) (a : Addr) (vs : List V) : Prop := match k with
  | .tup => H a = some (.tup vs)
  | .lst => H a = some (.lst vs)
  | .fz => RoL Γ.K H a vs
  | .dK ks => ks.length = vs.length ∧ H a = some (.dK (ks.zip vs))
  | .dT ks => ks.length = vs.length ∧ H a = some (.dT (ks.zip vs))
  | .fK ks => ks.length = vs.length ∧ ∃ o, H a = some (.frz o (.dK (ks.zip vs)))
  | .any => True
  | .obj c ns => ns.length = vs.length ∧ ∃ dx, H a = some (.ins (Γ.cl c) dx (ns.zip vs))
/-- what never changes -/
def Im : HO → Prop
  | .lst _ => False
  | .dK _ => False
  | .dT _ => False
  | .set _ _ => False
  | .ins _ _ _ => False
  | _ => True
/-- outside F all is as it was -/
structure Ke (H H' : Hp) (F : FP) : Prop where
  keep : ∀ b o, H b = some o → ¬ F b → H' b = some o
  imm : ∀ b o, Im o → H b = some o → H' b = some o
/-- F became F' -/
structure Upd (H H' : Hp) (F F' : FP) : Prop extends Ke H H' F where
  new : ∀ a, F' a → F a ∨ H a = none
theorem Ke.refl (H : Hp) (F : FP) : Ke H H F := ⟨fun _ _ e _ => e, fun _ _ _ e => e⟩
theorem Upd.refl (H : Hp) (F : FP) : Upd H H F F := ⟨Ke.refl H F, fun _ h => .inl h⟩
theorem Ke.of_same {H H' : Hp} (F : FP) (s : Same H H') : Ke H H' F := ⟨fun b o e _ => s b o e, fun b o _ e => s b o e⟩
theorem Upd.of_same {H H' : Hp} {F : FP} (s : Same H H') : Upd H H' F F := ⟨Ke.of_same F s, fun _ h => .inl h⟩
theorem Ke.free {H H' : Hp} {F : FP} (k : Ke H H' F) {a : Addr} (h : H' a = none) (hf : ¬ F a) : H a = none := by
  cases e : H a with
  | none => rfl
  | some o => rw [k.keep a o e hf] at h; cases h
theorem Upd.trans {H H1 H2 : Hp} {F F1 F2 : FP} (a : Upd H H1 F F1) (b : Upd H1 H2 F1 F2) : Upd H H2 F F2 := by
  refine ⟨⟨fun x o e nf => ?_, fun x o i e => b.imm x o i (a.imm x o i e)⟩, fun x hx => ?_⟩
  · refine b.keep x o (a.keep x o e nf) fun h1 => ?_
    rcases a.new x h1 with h | h
    · exact nf h
    · rw [e] at h; cases h
  · rcases b.new x hx with h | h
    · exact a.new x h
    · by_cases hf : F x
      · exact .inl hf
      · exact .inr (a.toKe.free h hf)
/-- more that is not touched -/
theorem Upd.more {H H' : Hp} {F F' G : FP} (u : Upd H H' F F') : Upd H H' (FU F G) (FU F' G) :=
  ⟨⟨fun b o e n => u.keep b o e fun h => n (.inl h), u.imm⟩, fun a h => h.elim (fun h => (u.new a h).elim (fun z => .inl (.inl z)) .inr) fun h => .inl (.inr h)⟩
theorem Upd.sub {H H' : Hp} {F F' G : FP} (u : Upd H H' F F') (h : ∀ a, G a → F' a) : Upd H H' F G := ⟨u.toKe, fun a g => u.new a (h a g)⟩
theorem RoL.keep {K : PySem.W.Frag} {H H' : Hp} {a : Addr} {vs : List V} (im : ∀ b o, Im o → H b = some o → H' b = some o) (h : RoL K H a vs) : RoL K H' a vs := by
  rcases h with ⟨o, h⟩ | h
  · exact .inl ⟨o, im _ _ (by trivial) h⟩
  · exact .inr h
theorem RoL.sq {K : PySem.W.Frag} {H : Hp} {a : Addr} {vs : List V} (h : RoL K H a vs) : SqL K H a vs := by
  rcases h with ⟨o, h⟩ | h
  · exact .inl (.inr ⟨o, h⟩)
  · exact h H
theorem At.keep {Γ : Gx} {H H' : Hp} {k : Kd} {a : Addr} {vs : List V} (h : At Γ H k a vs) (hk : k.ow = true → ∀ o, H a = some o → H' a = some o) (im : ∀ b o, Im o → H b = some o → H' b = some o) : At Γ H' k a vs := by
  cases k with
  | tup => exact im _ _ trivial h
  | lst => exact hk rfl _ h
  | fz => exact RoL.keep im h
  | dK ks => exact ⟨h.1, hk rfl _ h.2⟩
  | dT ks => exact ⟨h.1, hk rfl _ h.2⟩
  | fK ks => exact ⟨h.1, h.2.elim fun o e => ⟨o, im _ _ trivial e⟩⟩
  | any => trivial
  | obj c ns =>
    obtain ⟨l, dx, e⟩ := h
    exact ⟨l, dx, hk rfl _ e⟩
inductive Rep (Γ : Gx) (H : Hp) : V → T → FP → Prop
  | non {F : FP} : Rep Γ H .non .non F
  | bl {F : FP} (b : Bool) : Rep Γ H (.bl b) (.bl b) F
  | int {F : FP} (i : Int) : Rep Γ H (.int i) (.int i) F
  | str {F : FP} (x : Str) : Rep Γ H (.str x) (.str x) F
  | nd {F : FP} {k : Kd} {a : Addr} {vs : List V} {ts : List T} {Fs : Nat → FP} (hat : At Γ H k a vs) (hl : vs.length = ts.length) (hm : k.ow = true → F a ∧ ∀ i, ¬ Fs i a)
      (hk : ∀ i v t, vs[i]? = some v → ts[i]? = some t → Rep Γ H v t (Fs i)) (hd : ∀ i j a, i ≠ j → Fs i a → Fs j a → False) (hs : ∀ i a, Fs i a → F a) : Rep Γ H (.ref a) (.nd k ts) F
variable {Γ : Gx}
theorem Rep.frame {H H' : Hp} {v : V} {t : T} {F : FP} (h : Rep Γ H v t F) (k : ∀ a o, F a → H a = some o → H' a = some o) (im : ∀ b o, Im o → H b = some o → H' b = some o) : Rep Γ H' v t F := by
  induction h with
  | non => exact .non
  | bl b => exact .bl b
  | int i => exact .int i
  | str x => exact .str x
  | nd hat hl hm hk hd hs ih =>
    exact .nd (hat.keep (fun m o e => k _ _ (hm m).1 e) im) hl hm (fun i v t e1 e2 => ih i v t e1 e2 fun a o fa e => k a o (hs i a fa) e) hd hs
theorem Rep.same {H H' : Hp} {v : V} {t : T} {F : FP} (h : Rep Γ H v t F) (s : Same H H') : Rep Γ H' v t F := h.frame (fun a o _ e => s a o e) fun b o _ e => s b o e
theorem Rep.mono {H : Hp} {v : V} {t : T} {F G : FP} (h : Rep Γ H v t F) (s : ∀ a, F a → G a) : Rep Γ H v t G := by
  cases h with
  | non => exact .non
  | bl b => exact .bl b
  | int i => exact .int i
  | str x => exact .str x
  | nd hat hl hm hk hd hs => exact .nd hat hl (fun m => ⟨s _ (hm m).1, (hm m).2⟩) hk hd fun i a q => s a (hs i a q)
/-- what lies outside of what changes -/
theorem Rep.ke {H H' : Hp} {v : V} {t : T} {F G : FP} (h : Rep Γ H v t F) (k : Ke H H' G) (d : ∀ a, F a → G a → False) : Rep Γ H' v t F :=
  h.frame (fun a o fa e => k.keep a o e fun g => d a fa g) k.imm
mutual
def T.im : T → Bool
  | .nd .tup ts => T.imAll ts
  | .nd .fz ts => T.imAll ts
  | .nd (.fK _) ts => T.imAll ts
  | .nd .any ts => T.imAll ts
  | .nd _ _ => false
  | _ => true
def T.imAll : List T → Bool
  | [] => true
  | t :: ts => t.im && T.imAll ts
end
theorem imAll_iff : ∀ {ts : List T}, T.imAll ts = true ↔ ∀ (i : Nat) (t : T), ts[i]? = some t → t.im = true
  | [] => by simp [T.imAll]
  | t :: ts => by
    rw [T.imAll, Bool.and_eq_true, imAll_iff (ts := ts)]
    constructor
    · rintro ⟨h1, h2⟩ i u e
      cases i with
      | zero => simp at e; subst e; exact h1
      | succ i => exact h2 i u (by simpa using e)
    · intro h
      exact ⟨h 0 t rfl, fun i u e => h (i + 1) u (by simpa using e)⟩
theorem imAll_mem {ts : List T} : T.imAll ts = true ↔ ∀ t ∈ ts, t.im = true := by
  rw [imAll_iff]
  constructor
  · intro h t ht
    obtain ⟨i, e⟩ := List.getElem?_of_mem ht
    exact h i t e
  · intro h i t e
    exact h t (List.mem_of_getElem? e)
theorem Rep.im {H : Hp} {v : V} {t : T} {F : FP} (h : Rep Γ H v t F) (hi : t.im = true) (G : FP) : Rep Γ H v t G := by
  induction h generalizing G with
  | non => exact .non
  | bl b => exact .bl b
  | int i => exact .int i
  | str x => exact .str x
  | @nd F k a vs ts Fs hat hl hm hk hd hs ih =>
    have q : k.ow = false ∧ T.imAll ts = true := by
      cases k <;> simp_all [T.im, Kd.ow]
    refine .nd (Fs := fun _ => FE) hat hl (fun m => by rw [q.1] at m; cases m) (fun i v t e1 e2 => ih i v t e1 e2 (imAll_iff.mp q.2 i t e2) FE) (fun _ _ _ _ z _ => z) fun _ _ z => z.elim
def kids : HO → List V
  | .lst xs => xs
  | .dK kvs => kvs.map (·.2)
  | .dT kvs => kvs.map (·.2)
  | .ins _ _ fs => fs.map (·.2)
  | .frz _ (.dK kvs) => kvs.map (·.2)
  | _ => []
theorem zip_snd {α β : Type} : ∀ {xs : List α} {ys : List β}, xs.length = ys.length → (xs.zip ys).map (·.2) = ys
  | [], [], _ => rfl
  | x :: xs, y :: ys, h => by
    show y :: (xs.zip ys).map (·.2) = y :: ys
    rw [zip_snd (by simpa using h)]
  | [], _ :: _, h => by simp at h
  | _ :: _, [], h => by simp at h
theorem At.kids {H : Hp} {k : Kd} {a : Addr} {vs : List V} (h : At Γ H k a vs) (hm : k.mu = true) : ∃ o, H a = some o ∧ VT.kids o = vs := by
  cases k with
  | tup => cases hm
  | fz => cases hm
  | fK _ => exact h.2.elim fun o e => ⟨_, e, zip_snd h.1⟩
  | any => cases hm
  | lst => exact ⟨_, h, rfl⟩
  | dK ks => exact ⟨_, h.2, zip_snd h.1⟩
  | dT ks => exact ⟨_, h.2, zip_snd h.1⟩
  | obj c ns =>
    obtain ⟨l, dx, e⟩ := h
    exact ⟨_, e, zip_snd l⟩
theorem At.stay {H H' : Hp} {k : Kd} {a : Addr} {vs : List V} {o : HO} (h : At Γ H k a vs) (mu : k.mu = true) (ho : H a = some o) (kp : k.ow = true → H' a = some o) (im : ∀ b o, Im o → H b = some o → H' b = some o) : H' a = some o := by
  cases k with
  | tup => cases mu
  | fz => cases mu
  | any => cases mu
  | fK ks => exact h.2.elim fun q e => im a o (by rw [ho] at e; cases e; trivial) ho
  | lst => exact kp rfl
  | dK ks => exact kp rfl
  | dT ks => exact kp rfl
  | obj c ns => exact kp rfl
def vAt (H : Hp) : List Nat → V → Option V
  | [], v => some v
  | i :: p, .ref a => (H a).bind fun o => (VT.kids o)[i]?.bind fun v => vAt H p v
  | _ :: _, _ => none
def tAt : List Nat → T → Option T
  | [], t => some t
  | i :: p, .nd k ts => if k.mu = true then ts[i]?.bind fun t => tAt p t else none
  | _ :: _, _ => none
def tPut : List Nat → T → T → T
  | [], _, s => s
  | i :: p, .nd k ts, s => .nd k (ts.set i (tPut p (ts.getD i .non) s))
  | _ :: _, t, _ => t
theorem vAt_same {H H' : Hp} (s : Same H H') : ∀ {p : List Nat} {v w : V}, vAt H p v = some w → vAt H' p v = some w
  | [], v, w, h => h
  | i :: p, .ref a, w, h => by
    simp only [vAt] at h ⊢
    cases e : H a with
    | none => rw [e] at h; cases h
    | some o =>
      rw [e] at h
      rw [s a o e]
      simp only [Option.bind_some] at h ⊢
      cases q : (VT.kids o)[i]? with
      | none => rw [q] at h; cases h
      | some u =>
        rw [q] at h
        exact vAt_same s h
  | _ :: _, .non, _, h => by cases h
  | _ :: _, .bl _, _, h => by cases h
  | _ :: _, .int _, _, h => by cases h
  | _ :: _, .str _, _, h => by cases h
  | _ :: _, .byt _, _, h => by cases h
  | _ :: _, .flt _, _, h => by cases h
  | _ :: _, .ty _, _, h => by cases h
/-- what is in F but not in G is as it was -/
structure KeIn (H H' : Hp) (F G : FP) : Prop where
  keep : ∀ b o, F b → ¬ G b → H b = some o → H' b = some o
  imm : ∀ b o, Im o → H b = some o → H' b = some o
theorem Ke.kin {H H' : Hp} {F G : FP} (k : Ke H H' G) : KeIn H H' F G := ⟨fun b o _ n e => k.keep b o e n, k.imm⟩
theorem focus {H : Hp} : ∀ (p : List Nat) {v : V} {t t1 : T} {F : FP}, Rep Γ H v t F → tAt p t = some t1 →
    ∃ v1 G, vAt H p v = some v1 ∧ Rep Γ H v1 t1 G ∧ (∀ a, G a → F a) ∧
      ∀ H' t2 G', KeIn H H' F G → (∀ a, G' a → G a ∨ ¬ F a) → Rep Γ H' v1 t2 G' → Rep Γ H' v (tPut p t t2) (fun a => (F a ∧ ¬ G a) ∨ G' a)
  | [], v, t, t1, F, h, e => by
    have e' : t = t1 := Option.some.inj e
    subst e'
    exact ⟨v, F, rfl, h, fun _ z => z, fun H' t2 G' _ _ r => r.mono fun a g => .inr g⟩
  | i :: p, v, t, t1, F, h, e => by
    cases h with
    | non => cases e
    | bl b => cases e
    | int j => cases e
    | str x => cases e
    | @nd _ k a vs ts Fs hat hl hm hk hd hs =>
      simp only [tAt] at e
      by_cases mu : k.mu = true
      · rw [if_pos mu] at e
        cases eu : ts[i]? with
        | none => rw [eu] at e; cases e
        | some u =>
          rw [eu] at e
          have e1 : tAt p u = some t1 := e
          have hi : i < ts.length := (List.getElem?_eq_some_iff.mp eu).1
          obtain ⟨vi, ev⟩ : ∃ vi, vs[i]? = some vi := ⟨vs[i]'(by omega), List.getElem?_eq_getElem (by omega)⟩
          obtain ⟨v1, G, hv, hr, hg, back⟩ := focus p (hk i vi u ev eu) e1
          obtain ⟨o, ho, hko⟩ := hat.kids mu
          have nGa : k.ow = true → ¬ G a := fun m z => (hm m).2 i (hg a z)
          refine ⟨v1, G, ?_, hr, fun b z => hs i b (hg b z), fun H' t2 G' ke nw r => ?_⟩
          · show (H a).bind _ = _
            rw [ho]
            show (VT.kids o)[i]?.bind _ = _
            rw [hko, ev]
            exact hv
          · have nG'a : k.ow = true → ¬ G' a := fun m z => (nw a z).elim (nGa m) fun q => q (hm m).1
            have eg : ts.getD i .non = u := by rw [List.getD_eq_getElem?_getD, eu]; rfl
            show Rep Γ H' (.ref a) (.nd k (ts.set i (tPut p (ts.getD i .non) t2))) _
            rw [eg]
            refine .nd (Fs := fun j => if j = i then (fun b => (Fs i b ∧ ¬ G b) ∨ G' b) else Fs j) (hat.keep (fun m o' e' => ke.keep a o' (hm m).1 (nGa m) e') ke.imm) (by rw [List.length_set]; exact hl) (fun m => ⟨.inl ⟨(hm m).1, nGa m⟩, fun j => ?_⟩) (fun j w s e1 e2 => ?_) (fun j j' b ne z z' => ?_) fun j b z => ?_
            · by_cases hj : j = i
              · rw [if_pos hj]
                rintro (z | z)
                · exact (hm m).2 i z.1
                · exact nG'a m z
              · rw [if_neg hj]
                exact (hm m).2 j
            · by_cases hj : j = i
              · subst hj
                rw [if_pos rfl]
                rw [List.getElem?_set_self hi] at e2
                have ew : w = vi := Option.some.inj (e1.symm.trans ev)
                subst ew
                have es : tPut p u t2 = s := Option.some.inj e2
                rw [← es]
                exact back H' t2 G' ⟨fun b o f n q => ke.keep b o (hs j b f) n q, ke.imm⟩ (fun b z => (nw b z).elim .inl fun q => .inr fun f => q (hs j b f)) r
              · rw [if_neg hj]
                rw [List.getElem?_set_ne (Ne.symm hj)] at e2
                exact (hk j w s e1 e2).frame (fun b o f q => ke.keep b o (hs j b f) (fun g => hd j i b hj f (hg b g)) q) ke.imm
            · have aux : ∀ m, m ≠ i → ((Fs i b ∧ ¬ G b) ∨ G' b) → Fs m b → False := fun m hmi y y' => by
                rcases y with y | y
                · exact hd i m b (Ne.symm hmi) y.1 y'
                · rcases nw b y with g | g
                  · exact hd i m b (Ne.symm hmi) (hg b g) y'
                  · exact g (hs m b y')
              by_cases hj : j = i
              · by_cases hj' : j' = i
                · exact ne (hj.trans hj'.symm)
                · rw [if_pos hj] at z
                  rw [if_neg hj'] at z'
                  exact aux j' hj' z z'
              · rw [if_neg hj] at z
                by_cases hj' : j' = i
                · rw [if_pos hj'] at z'
                  exact aux j hj z' z
                · rw [if_neg hj'] at z'
                  exact hd j j' b ne z z'
            · by_cases hj : j = i
              · rw [if_pos hj] at z
                rcases z with z | z
                · exact .inl ⟨hs i b z.1, z.2⟩
                · exact .inr z
              · rw [if_neg hj] at z
                exact .inl ⟨hs j b z, fun g => hd j i b hj z (hg b g)⟩
      · rw [if_neg mu] at e
        cases e
abbrev TSt := List (Option T)
/-- slots that hold what they hold -/
abbrev Fx := Nat → Option V
structure RepS (Γ : Gx) (ar : Fx) (H : Hp) (σ : St) (S : TSt) (F : FP) : Prop where
  len : S.length = σ.length
  arg : ∀ (i : Nat) (v : V), ar i = some v → σ[i]? = some (some v)
  fam : ∃ Fs : Nat → FP, (∀ (i : Nat) (t : T), S[i]? = some (some t) → ∃ v, σ[i]? = some (some v) ∧ Rep Γ H v t (Fs i)) ∧ (∀ i j a, i ≠ j → Fs i a → Fs j a → False) ∧ ∀ i a, Fs i a → F a
  al : ∀ a, F a → H a ≠ none
theorem Ke.al {H H' : Hp} {F : FP} (k : Ke H H' F) {a : Addr} (h : H a ≠ none) (n : ¬ F a) : H' a ≠ none := by
  cases e : H a with
  | none => exact absurd e h
  | some o => rw [k.keep a o e n]; exact fun z => nomatch z
theorem same_al {H H' : Hp} (s : Same H H') {a : Addr} (h : H a ≠ none) : H' a ≠ none := by
  cases e : H a with
  | none => exact absurd e h
  | some o => rw [s a o e]; exact fun z => nomatch z
theorem RepS.same {ar : Fx} {H H' : Hp} {σ : St} {S : TSt} {F : FP} (h : RepS Γ ar H σ S F) (s : Same H H') : RepS Γ ar H' σ S F := by
  obtain ⟨len, arg, ⟨Fs, h1, h2, h3⟩, al⟩ := h
  refine ⟨len, arg, ⟨Fs, fun i t e => ?_, h2, h3⟩, fun a fa => same_al s (al a fa)⟩
  obtain ⟨v, e1, r⟩ := h1 i t e
  exact ⟨v, e1, r.same s⟩
/-- what else there is changes -/
theorem RepS.ke {ar : Fx} {H H' : Hp} {σ : St} {S : TSt} {F G : FP} (h : RepS Γ ar H σ S F) (k : Ke H H' G) (d : ∀ a, F a → G a → False) : RepS Γ ar H' σ S F := by
  obtain ⟨len, arg, ⟨Fs, h1, h2, h3⟩, al⟩ := h
  refine ⟨len, arg, ⟨Fs, fun i t e => ?_, h2, h3⟩, fun a fa => k.al (al a fa) fun g => d a fa g⟩
  obtain ⟨v, e1, r⟩ := h1 i t e
  exact ⟨v, e1, r.ke k fun a f g => d a (h3 i a f) g⟩
theorem RepS.slot {ar : Fx} {H : Hp} {σ : St} {S : TSt} {F : FP} (h : RepS Γ ar H σ S F) {i : Nat} {t : T} (e : S[i]? = some (some t)) : ∃ v, σ[i]? = some (some v) ∧ Rep Γ H v t F := by
  obtain ⟨_, _, ⟨Fs, h1, h2, h3⟩, _⟩ := h
  obtain ⟨v, e1, r⟩ := h1 i t e
  exact ⟨v, e1, r.mono (h3 i)⟩
/-- the thing in a slot taken out; it may come back, changed -/
theorem RepS.take {ar : Fx} {H : Hp} {σ : St} {S : TSt} {F : FP} {i : Nat} {t : T} (h : RepS Γ ar H σ S F) (e : S[i]? = some (some t)) :
    ∃ v F' G, σ[i]? = some (some v) ∧ Rep Γ H v t G ∧ RepS Γ ar H σ (S.set i none) F' ∧ (∀ a, F' a → G a → False) ∧ (∀ a, F' a → F a) ∧ ∀ a, G a → F a := by
  obtain ⟨len, arg, ⟨Fs, h1, h2, h3⟩, al⟩ := h
  obtain ⟨v, ev, r⟩ := h1 i t e
  refine ⟨v, fun a => ∃ j, j ≠ i ∧ Fs j a, Fs i, ev, r, ⟨by rw [List.length_set]; exact len, arg, ⟨fun j => if j = i then FE else Fs j, fun j u eu => ?_, fun j j' b ne z z' => ?_, fun j b z => ?_⟩, fun a ⟨j, _, z⟩ => al a (h3 j a z)⟩, fun a ⟨j, nj, z⟩ g => h2 j i a nj z g, fun a ⟨j, _, z⟩ => h3 j a z, h3 i⟩
  · by_cases hj : j = i
    · subst hj
      have hlt : j < S.length := (List.getElem?_eq_some_iff.mp e).1
      rw [List.getElem?_set_self hlt] at eu
      cases eu
    · rw [List.getElem?_set_ne (Ne.symm hj)] at eu
      simp only [if_neg hj]
      exact h1 j u eu
  · by_cases hj : j = i
    · simp only [if_pos hj] at z
      exact z.elim
    · by_cases hj' : j' = i
      · simp only [if_pos hj'] at z'
        exact z'.elim
      · simp only [if_neg hj] at z
        simp only [if_neg hj'] at z'
        exact h2 j j' b ne z z'
  · by_cases hj : j = i
    · simp only [if_pos hj] at z
      exact z.elim
    · simp only [if_neg hj] at z
      exact ⟨j, hj, z⟩
/-- a slot is stored -/
theorem RepS.put {ar : Fx} {H : Hp} {σ : St} {S : TSt} {F G : FP} {i : Nat} {v : V} {t : T} (h : RepS Γ ar H σ S F) (hi : ar i = none) (r : Rep Γ H v t G) (d : ∀ a, F a → G a → False) (alG : ∀ a, G a → H a ≠ none) :
    RepS Γ ar H (σ.set i (some v)) (S.set i (some t)) (FU F G) := by
  obtain ⟨len, arg, ⟨Fs, h1, h2, h3⟩, al⟩ := h
  refine ⟨by rw [List.length_set, List.length_set]; exact len, fun j w e => ?_, ⟨fun j => if j = i then G else Fs j, fun j u eu => ?_, fun j j' b ne z z' => ?_, fun j b z => ?_⟩, fun a z => z.elim (al a) (alG a)⟩
  · have hj : i ≠ j := fun z => by rw [← z, hi] at e; cases e
    rw [List.getElem?_set_ne hj]
    exact arg j w e
  · by_cases hj : j = i
    · subst hj
      by_cases hlt : j < S.length
      · rw [List.getElem?_set_self hlt] at eu
        have eu' : t = u := Option.some.inj (Option.some.inj eu)
        subst eu'
        simp only [if_pos rfl]
        exact ⟨v, List.getElem?_set_self (by omega), r⟩
      · rw [List.getElem?_eq_none (by rw [List.length_set]; omega)] at eu
        cases eu
    · rw [List.getElem?_set_ne (Ne.symm hj)] at eu
      simp only [if_neg hj, List.getElem?_set_ne (Ne.symm hj)]
      exact h1 j u eu
  · by_cases hj : j = i
    · by_cases hj' : j' = i
      · exact ne (hj.trans hj'.symm)
      · simp only [if_pos hj] at z
        simp only [if_neg hj'] at z'
        exact d b (h3 j' b z') z
    · simp only [if_neg hj] at z
      by_cases hj' : j' = i
      · simp only [if_pos hj'] at z'
        exact d b (h3 j b z) z'
      · simp only [if_neg hj'] at z'
        exact h2 j j' b ne z z'
  · by_cases hj : j = i
    · simp only [if_pos hj] at z
      exact .inr z
    · simp only [if_neg hj] at z
      exact .inl (h3 j b z)
/-- a slot whose thing is beside gets it back -/
theorem RepS.give {ar : Fx} {H : Hp} {σ : St} {S : TSt} {F G : FP} {i : Nat} {v : V} {t : T} (h : RepS Γ ar H σ S F) (hv : σ[i]? = some (some v)) (r : Rep Γ H v t G) (d : ∀ a, F a → G a → False) (alG : ∀ a, G a → H a ≠ none) :
    RepS Γ ar H σ (S.set i (some t)) (FU F G) := by
  obtain ⟨len, arg, ⟨Fs, h1, h2, h3⟩, al⟩ := h
  refine ⟨by rw [List.length_set]; exact len, arg, ⟨fun j => if j = i then G else Fs j, fun j u eu => ?_, fun j j' b ne z z' => ?_, fun j b z => ?_⟩, fun a z => z.elim (al a) (alG a)⟩
  · by_cases hj : j = i
    · subst hj
      by_cases hlt : j < S.length
      · rw [List.getElem?_set_self hlt] at eu
        have eu' : t = u := Option.some.inj (Option.some.inj eu)
        subst eu'
        simp only [if_true]
        exact ⟨v, hv, r⟩
      · rw [List.getElem?_eq_none (by rw [List.length_set]; omega)] at eu
        cases eu
    · rw [List.getElem?_set_ne (Ne.symm hj)] at eu
      simp only [if_neg hj]
      exact h1 j u eu
  · by_cases hj : j = i
    · by_cases hj' : j' = i
      · exact ne (hj.trans hj'.symm)
      · simp only [if_pos hj] at z
        simp only [if_neg hj'] at z'
        exact d b (h3 j' b z') z
    · simp only [if_neg hj] at z
      by_cases hj' : j' = i
      · simp only [if_pos hj'] at z'
        exact d b (h3 j b z) z'
      · simp only [if_neg hj'] at z'
        exact h2 j j' b ne z z'
  · by_cases hj : j = i
    · simp only [if_pos hj] at z
      exact .inr z
    · simp only [if_neg hj] at z
      exact .inl (h3 j b z)
/-- other slots are held -/
theorem RepS.fix {ar ar' : Fx} {H : Hp} {σ : St} {S : TSt} {F : FP} (h : RepS Γ ar H σ S F) (k : ∀ (i : Nat) (v : V), ar' i = some v → σ[i]? = some (some v)) : RepS Γ ar' H σ S F := ⟨h.len, k, h.fam, h.al⟩
end VT
namespace VT
open PySem L2
inductive Rs (α : Type) where
  | ok (a : α) | ex (c : Nat)
inductive Fl where
  | nx | rt (t : T) | bk | ct | ex (c : Nat)
abbrev BF := TSt → Option T
abbrev PF := TSt → Option (Nat × List Nat)
abbrev EF := TSt → Option (Rs T × TSt)
abbrev SF := TSt → Option (Fl × TSt)
def sl (S : TSt) (i : Nat) : Option T := (S[i]?).getD none
theorem sl_some {S : TSt} {i : Nat} {t : T} : sl S i = some t ↔ S[i]? = some (some t) := by
  unfold sl
  cases h : S[i]? with
  | none => simp
  | some o => simp
abbrev New (H H' : Hp) (G : FP) : Prop := (∀ a, G a → H a = none) ∧ ∀ a, G a → H' a ≠ none
theorem New.back {H H1 H2 : Hp} {G : FP} (s : Same H H1) (n : New H1 H2 G) : New H H2 G := ⟨fun a g => s.free (n.1 a g), n.2⟩
theorem new_FE {H H' : Hp} : New H H' FE := ⟨fun _ z => z.elim, fun _ z => z.elim⟩
section
variable (Γ : Gx) (ar : Fx) (W : WX)
def rdP (pl : PF) : TE := fun σ H Q => ∃ S F i p t t1, RepS Γ ar H σ S F ∧ pl S = some (i, p) ∧ sl S i = some t ∧ tAt p t = some t1 ∧
  ∀ v0 v H', σ[i]? = some (some v0) → vAt H p v0 = some v → Same H H' → Q v H'
def rdB (g : BF) : TE := fun σ H Q => ∃ S F t, RepS Γ ar H σ S F ∧ g S = some t ∧ ∀ v H' G, Same H H' → Rep Γ H' v t G → Q v H'
def rdN (g : BF) : TE := fun σ H Q => ∃ S F t, RepS Γ ar H σ S F ∧ g S = some t ∧ ∀ v H' G, Same H H' → Rep Γ H' v t G → New H H' G → Q v H'
/-- what is known behind an expression that has given t -/
structure Own (H : Hp) (F : FP) (σ : St) (S' : TSt) (v : V) (t : T) (H' : Hp) (F' G : FP) : Prop where
  rs : RepS Γ ar H' σ S' F'
  r : Rep Γ H' v t G
  d : ∀ a, F' a → G a → False
  al : ∀ a, G a → H' a ≠ none
  u : Upd H H' F (FU F' G)
def PostE (H : Hp) (F : FP) (σ : St) (S' : TSt) (Q : VK) : Rs T → Prop
  | .ok t => ∀ v H' F' G, Own Γ ar H F σ S' v t H' F' G → Q v H'
  | .ex c => ∀ H' F', RepS Γ ar H' σ S' F' → Upd H H' F F' → W (.ref (Γ.cl c)) none σ H'
def rdE (f : EF) : TE := fun σ H Q => ∃ S F r S', RepS Γ ar H σ S F ∧ f S = some (r, S') ∧ PostE Γ ar W H F σ S' Q r
def FlP (D : Ends) (H : Hp) (F : FP) (fl : Fl) (S' : TSt) : Prop := match fl with
  | .nx => ∀ σ' H' F', RepS Γ ar H' σ' S' F' → Upd H H' F F' → D.nx σ' H'
  | .bk => ∀ σ' H' F', RepS Γ ar H' σ' S' F' → Upd H H' F F' → D.bk σ' H'
  | .ct => ∀ σ' H' F', RepS Γ ar H' σ' S' F' → Upd H H' F F' → D.ct σ' H'
  | .rt t => ∀ v σ' H' F' G, Own Γ ar H F σ' S' v t H' F' G → D.rt v H'
  | .ex c => ∀ σ' H' F', RepS Γ ar H' σ' S' F' → Upd H H' F F' → W (.ref (Γ.cl c)) none σ' H'
def rdS (s : SF) : TS := fun D σ H => ∃ S F fl S', RepS Γ ar H σ S F ∧ s S = some (fl, S') ∧ FlP Γ ar W D H F fl S'
end
theorem PE.imp {X : Cx} {e : Expr} {t t' : TE} (h : PE X e t) (k : ∀ σ H Q, t' σ H Q → t σ H Q) : PE X e t' := ⟨fun pins s σ H Q I q => h.run pins s σ H Q I (k σ H Q q)⟩
theorem PS.imp {X : Cx} {st : Stmt} {t t' : TS} (h : PS X st t) (k : ∀ D σ H, t' D σ H → t D σ H) : PS X st t' := ⟨fun pins s σ H D I q => h.run pins s σ H D I (k D σ H q)⟩
theorem PSs.imp {X : Cx} {st : List Stmt} {t t' : TS} (h : PSs X st t) (k : ∀ D σ H, t' D σ H → t D σ H) : PSs X st t' := ⟨fun pins s σ H D I q => h.run pins s σ H D I (k D σ H q)⟩
theorem PT.imp {X : Cx} {e : Expr} {t t' : TT} (h : PT X e t) (k : ∀ σ H Q, t' σ H Q → t σ H Q) : PT X e t' := ⟨fun pins s σ H Q I q => h.run pins s σ H Q I (k σ H Q q)⟩
theorem PA.imp {X : Cx} {es : List Expr} {t t' : TA} (h : PA X es t) (k : ∀ σ H Q, t' σ H Q → t σ H Q) : PA X es t' := ⟨fun pos pins s σ H Q I q => h.run pos pins s σ H Q I (k σ H Q q)⟩
section
variable {Γ : Gx} {ar : Fx} {W : WX} {X : Cx}
theorem Own.same {H : Hp} {F : FP} {σ : St} {S' : TSt} {v : V} {t : T} {H' H'' : Hp} {F' G : FP} (o : Own Γ ar H F σ S' v t H' F' G) (s : Same H' H'') : Own Γ ar H F σ S' v t H'' F' G :=
  ⟨o.rs.same s, o.r.same s, o.d, fun a g => same_al s (o.al a g), ⟨⟨fun b u e n => s b u (o.u.keep b u e n), fun b u i e => s b u (o.u.imm b u i e)⟩, o.u.new⟩⟩
/-- a thing made anew beside -/
theorem own_new {H H' : Hp} {F G : FP} {σ : St} {S : TSt} {v : V} {t : T} (R : RepS Γ ar H σ S F) (s : Same H H') (r : Rep Γ H' v t G) (n : New H H' G) : Own Γ ar H F σ S v t H' F G :=
  ⟨R.same s, r, fun a f g => R.al a f (n.1 a g), n.2, ⟨Ke.of_same F s, fun a h => h.elim .inl fun g => .inr (n.1 a g)⟩⟩
/-- .. behind a change -/
theorem own_after {H H1 H' : Hp} {F F1 G : FP} {σ : St} {S : TSt} {v : V} {t : T} (U : Upd H H1 F F1) (R : RepS Γ ar H1 σ S F1) (s : Same H1 H') (r : Rep Γ H' v t G) (n : New H1 H' G) : Own Γ ar H F σ S v t H' F1 G :=
  let o := own_new R s r n
  ⟨o.rs, o.r, o.d, o.al, U.trans o.u⟩
def bOfP (pl : PF) : BF := fun S => (pl S).bind fun ip => (sl S ip.1).bind fun t => tAt ip.2 t
theorem pe_bp {e : Expr} {pl : PF} (h : PE X e (rdP Γ ar pl)) : PE X e (rdB Γ ar (bOfP pl)) := by
  refine PE.imp h fun σ H Q q => ?_
  obtain ⟨S, F, t, R, e, k⟩ := q
  unfold bOfP at e
  cases e1 : pl S with
  | none => rw [e1] at e; cases e
  | some ip =>
    obtain ⟨i, p⟩ := ip
    rw [e1] at e
    simp only [Option.bind_some] at e
    cases e2 : sl S i with
    | none => rw [e2] at e; cases e
    | some t0 =>
      rw [e2] at e
      simp only [Option.bind_some] at e
      refine ⟨S, F, i, p, t0, t, R, e1, e2, e, fun v0 v H' h1 h2 s => ?_⟩
      obtain ⟨v', a1, r0⟩ := R.slot (sl_some.mp e2)
      obtain ⟨v1, G, a2, a3, _, _⟩ := VT.focus p r0 e
      rw [h1] at a1
      have ev : v0 = v' := Option.some.inj (Option.some.inj a1)
      subst ev
      rw [h2] at a2
      have ev : v = v1 := Option.some.inj a2
      subst ev
      exact k v H' G s (a3.same s)
theorem pe_bn {e : Expr} {g : BF} (h : PE X e (rdN Γ ar g)) : PE X e (rdB Γ ar g) := by
  refine PE.imp h fun σ H Q q => ?_
  obtain ⟨S, F, t, R, e, k⟩ := q
  exact ⟨S, F, t, R, e, fun v H' G s r _ => k v H' G s r⟩
def imO (t : T) : Option T := if t.im = true then some t else none
/-- read, and it never changes -/
def nOfB (g : BF) : BF := fun S => (g S).bind imO
theorem pe_nb {e : Expr} {g : BF} (h : PE X e (rdB Γ ar g)) : PE X e (rdN Γ ar (nOfB g)) := by
  refine PE.imp h fun σ H Q q => ?_
  obtain ⟨S, F, t, R, e, k⟩ := q
  unfold nOfB at e
  cases e1 : g S with
  | none => rw [e1] at e; cases e
  | some u =>
    rw [e1] at e
    have e2 : imO u = some t := e
    unfold imO at e2
    by_cases hi : u.im = true
    · rw [if_pos hi] at e2
      have e3 : u = t := Option.some.inj e2
      subst e3
      exact ⟨S, F, u, R, e1, fun v H' G s r => k v H' FE s (r.im hi FE) new_FE⟩
    · rw [if_neg hi] at e2; cases e2
def eOfN (g : BF) : EF := fun S => (g S).bind fun t => some (.ok t, S)
theorem pe_en {e : Expr} {g : BF} (h : PE X e (rdN Γ ar g)) : PE X e (rdE Γ ar W (eOfN g)) := by
  refine PE.imp h fun σ H Q q => ?_
  obtain ⟨S, F, r, S', R, e, k⟩ := q
  unfold eOfN at e
  cases e1 : g S with
  | none => rw [e1] at e; cases e
  | some t =>
    rw [e1] at e
    have e2 : (Rs.ok t, S) = (r, S') := Option.some.inj e
    cases e2
    exact ⟨S, F, t, R, e1, fun v H' G s r n => k v H' F G (own_new R s r n)⟩
def pVar (i : Nat) : PF := fun S => (sl S i).bind fun _ => some (i, [])
theorem pp_var (i : Nat) {x : Str} {pos : Pos} (hN : X.N[i]? = some x := by rfl) (hv : Vis X.env.scope x := by first | exact Or.inl rfl | exact Or.inr (Or.inl rfl) | exact Or.inr (Or.inr rfl)) (hd : (x == ("__debug__" : Str)) = false := by decide)
    (hcd : (x == ("__classdict__" : Str)) = false := by decide) : PE X (.Name x pos) (rdP Γ ar (pVar i)) := by
  refine PE.imp (pe_var hN hv hd hcd) fun σ H Q q => ?_
  obtain ⟨S, F, j, p, t, t1, R, e, e1, e2, k⟩ := q
  unfold pVar at e
  cases e0 : sl S i with
  | none => rw [e0] at e; cases e
  | some t0 =>
    rw [e0] at e
    have e3 : (i, ([] : List Nat)) = (j, p) := Option.some.inj e
    cases e3
    obtain ⟨v, ev, _⟩ := R.slot (sl_some.mp e1)
    exact ⟨v, ev, k v v H ev rfl (Same.refl H)⟩
/-- a name whose thing is handed on: a copy, or the thing itself, which the name loses -/
def eVar (i : Nat) : EF := fun S => (sl S i).bind fun t => if t.im = true then some (.ok t, S) else some (.ok t, S.set i none)
theorem pe_evar (i : Nat) {x : Str} {pos : Pos} (hN : X.N[i]? = some x := by rfl) (hv : Vis X.env.scope x := by first | exact Or.inl rfl | exact Or.inr (Or.inl rfl) | exact Or.inr (Or.inr rfl)) (hd : (x == ("__debug__" : Str)) = false := by decide)
    (hcd : (x == ("__classdict__" : Str)) = false := by decide) : PE X (.Name x pos) (rdE Γ ar W (eVar i)) := by
  refine PE.imp (pe_var hN hv hd hcd) fun σ H Q q => ?_
  obtain ⟨S, F, r, S', R, e, k⟩ := q
  unfold eVar at e
  cases e0 : sl S i with
  | none => rw [e0] at e; cases e
  | some t =>
    rw [e0] at e
    simp only [Option.bind_some] at e
    by_cases hi : t.im = true
    · rw [if_pos hi] at e
      have e2 : (Rs.ok t, S) = (r, S') := Option.some.inj e
      cases e2
      obtain ⟨v, ev, rv⟩ := R.slot (sl_some.mp e0)
      exact ⟨v, ev, k v H F FE (own_new R (Same.refl H) (rv.im hi FE) new_FE)⟩
    · rw [if_neg hi] at e
      have e2 : (Rs.ok t, S.set i none) = (r, S') := Option.some.inj e
      cases e2
      obtain ⟨v, F', G, ev, rv, R', d, s1, s2⟩ := R.take (sl_some.mp e0)
      exact ⟨v, ev, k v H F' G ⟨R', rv, d, fun a g => R.al a (s2 a g), ⟨Ke.refl H F, fun a z => z.elim (fun z => .inl (s1 a z)) fun z => .inl (s2 a z)⟩⟩⟩
def nC (t : T) : BF := fun _ => some t
theorem pe_c {e : Expr} {v : V} {t : T} (h : PE X e (tC v)) (r : ∀ H, Rep Γ H v t FE) : PE X e (rdN Γ ar (nC t)) := by
  refine PE.imp h fun σ H Q q => ?_
  obtain ⟨S, F, u, R, e, k⟩ := q
  have e1 : t = u := Option.some.inj e
  subst e1
  exact k v H FE (Same.refl H) (r H) new_FE
theorem n_int {i : Int} {j pos} : PE X (.Constant (.int i) j pos) (rdN Γ ar (nC (.int i))) := pe_c pe_int fun _ => .int i
theorem n_str {x : Str} {j pos} : PE X (.Constant (.str x) j pos) (rdN Γ ar (nC (.str x))) := pe_c pe_str fun _ => .str x
theorem n_bl {b : Bool} {j pos} : PE X (.Constant (.bool b) j pos) (rdN Γ ar (nC (.bl b))) := pe_c pe_bl fun _ => .bl b
theorem n_non {j pos} : PE X (.Constant .none j pos) (rdN Γ ar (nC .non)) := pe_c pe_non fun _ => .non
/-- r does on values what f does on trees; what it makes is new -/
def OpT (Γ : Gx) (r : R2) (f : T → T → Option T) : Prop := ∀ (H : Hp) (x y : V) (t1 t2 t : T) (G1 G2 : FP) (Q : VK), Rep Γ H x t1 G1 → Rep Γ H y t2 G2 → f t1 t2 = some t →
  (∀ v H' G, Same H H' → Rep Γ H' v t G → New H H' G → Q v H') → r x y H Q
def UnT (Γ : Gx) (r : V → Hp → VK → Prop) (f : T → Option T) : Prop := ∀ (H : Hp) (x : V) (t1 t : T) (G1 : FP) (Q : VK), Rep Γ H x t1 G1 → f t1 = some t →
  (∀ v H' G, Same H H' → Rep Γ H' v t G → New H H' G → Q v H') → r x H Q
def bOp (f : T → T → Option T) (ga gb : BF) : BF := fun S => (ga S).bind fun x => (gb S).bind fun y => f x y
def bUn (f : T → Option T) (ga : BF) : BF := fun S => (ga S).bind f
def eOp (f : T → T → Option T) (fa fb : EF) : EF := fun S => (fa S).bind fun rx => match rx with
  | (.ex c, S1) => some (.ex c, S1)
  | (.ok x, S1) => (fb S1).bind fun ry => match ry with
    | (.ex c, S2) => some (.ex c, S2)
    | (.ok y, S2) => (f x y).bind fun z => some (.ok z, S2)
def eUn (f : T → Option T) (fa : EF) : EF := fun S => (fa S).bind fun rx => match rx with
  | (.ex c, S1) => some (.ex c, S1)
  | (.ok x, S1) => (f x).bind fun z => some (.ok z, S1)
theorem tOp_b {r : R2} {f : T → T → Option T} {ga gb : BF} (h : OpT Γ r f) (σ : St) (H : Hp) (Q : VK) (q : rdN Γ ar (bOp f ga gb) σ H Q) : tOp r (rdB Γ ar ga) (rdB Γ ar gb) σ H Q := by
  obtain ⟨S, F, t, R, e, k⟩ := q
  unfold bOp at e
  cases e1 : ga S with
  | none => rw [e1] at e; cases e
  | some t1 =>
    rw [e1] at e
    simp only [Option.bind_some] at e
    cases e2 : gb S with
    | none => rw [e2] at e; cases e
    | some t2 =>
      rw [e2] at e
      refine ⟨S, F, t1, R, e1, fun x H1 G1 s1 r1 => ⟨S, F, t2, R.same s1, e2, fun y H2 G2 s2 r2 => ?_⟩⟩
      exact h H2 x y t1 t2 t G1 G2 Q (r1.same s2) r2 e fun v H3 G s3 r3 n => k v H3 G ((s1.trans s2).trans s3) r3 (n.back (s1.trans s2))
theorem tUn_b {r : V → Hp → VK → Prop} {f : T → Option T} {ga : BF} (h : UnT Γ r f) (σ : St) (H : Hp) (Q : VK) (q : rdN Γ ar (bUn f ga) σ H Q) : rdB Γ ar ga σ H (fun x H1 => r x H1 Q) := by
  obtain ⟨S, F, t, R, e, k⟩ := q
  unfold bUn at e
  cases e1 : ga S with
  | none => rw [e1] at e; cases e
  | some t1 =>
    rw [e1] at e
    refine ⟨S, F, t1, R, e1, fun x H1 G1 s1 r1 => ?_⟩
    exact h H1 x t1 t G1 Q r1 e fun v H3 G s3 r3 n => k v H3 G (s1.trans s3) r3 (n.back s1)
/-- two with effects, one behind the other: both are there at the end -/
theorem two_e {fa fb : EF} {σ : St} {H : Hp} {S : TSt} {F : FP} {Q : V → V → Hp → Prop} (R : RepS Γ ar H σ S F) {x : T} {S1 : TSt} (e1 : fa S = some (.ok x, S1))
    {r2 : Rs T} {S2 : TSt} (e2 : fb S1 = some (r2, S2)) (hx : ∀ c, r2 = .ex c → ∀ H' F', RepS Γ ar H' σ S2 F' → Upd H H' F F' → W (.ref (Γ.cl c)) none σ H')
    (hk : ∀ y v w H' F' G1 G2, r2 = .ok y → RepS Γ ar H' σ S2 F' → Rep Γ H' v x G1 → Rep Γ H' w y G2 → (∀ a, F' a → G1 a → False) → (∀ a, F' a → G2 a → False) → (∀ a, G1 a → G2 a → False) → (∀ a, G1 a → H' a ≠ none) → (∀ a, G2 a → H' a ≠ none) →
      Upd H H' F (FU F' (FU G1 G2)) → Q v w H') :
    rdE Γ ar W fa σ H fun v H1 => rdE Γ ar W fb σ H1 fun w H2 => Q v w H2 := by
  refine ⟨S, F, .ok x, S1, R, e1, fun v H1 F1 G1 o1 => ⟨S1, F1, r2, S2, o1.rs, e2, ?_⟩⟩
  have up : ∀ {H2 : Hp} {F2 : FP}, Upd H1 H2 F1 F2 → Upd H H2 F (FU F2 G1) := fun u => o1.u.trans u.more
  cases r2 with
  | ex c => exact fun H2 F2 R2 u2 => hx c rfl H2 F2 R2 ((up u2).sub fun a z => .inl z)
  | ok y =>
    intro w H2 F2 G2 o2
    have dG : ∀ a, G1 a → G2 a → False := fun a g1 g2 => (o2.u.new a (.inr g2)).elim (fun z => o1.d a z g1) fun z => o1.al a g1 z
    have dF : ∀ a, F2 a → G1 a → False := fun a f2 g1 => (o2.u.new a (.inl f2)).elim (fun z => o1.d a z g1) fun z => o1.al a g1 z
    exact hk y v w H2 F2 G1 G2 rfl o2.rs (o1.r.ke o2.u.toKe fun a g f => o1.d a f g) o2.r dF o2.d dG (fun a g => o2.u.toKe.al (o1.al a g) fun f => o1.d a f g) o2.al
      ((up o2.u).sub fun a z => z.elim (fun z => .inl (.inl z)) fun z => z.elim .inr fun z => .inl (.inr z))
theorem tOp_e {r : R2} {f : T → T → Option T} {fa fb : EF} (h : OpT Γ r f) (σ : St) (H : Hp) (Q : VK) (q : rdE Γ ar W (eOp f fa fb) σ H Q) : tOp r (rdE Γ ar W fa) (rdE Γ ar W fb) σ H Q := by
  obtain ⟨S, F, rr, S', R, e, k⟩ := q
  unfold eOp at e
  cases e1 : fa S with
  | none => rw [e1] at e; cases e
  | some o1 =>
    obtain ⟨r1, S1⟩ := o1
    rw [e1] at e
    simp only [Option.bind_some] at e
    cases r1 with
    | ex c =>
      have e2 : (Rs.ex c, S1) = (rr, S') := Option.some.inj e
      cases e2
      exact ⟨S, F, .ex c, _, R, e1, k⟩
    | ok x =>
      simp only at e
      cases e2 : fb S1 with
      | none => rw [e2] at e; cases e
      | some o2 =>
        obtain ⟨r2, S2⟩ := o2
        rw [e2] at e
        simp only [Option.bind_some] at e
        refine two_e R e1 e2 (fun c ec H' F' R' u => ?_) fun y v w H' F' G1 G2 ey R' rv rw_ d1 d2 d12 a1 a2 u => ?_
        · subst ec
          have e3 : (Rs.ex c, S2) = (rr, S') := Option.some.inj e
          cases e3
          exact k H' F' R' u
        · subst ey
          simp only at e
          cases e3 : f x y with
          | none => rw [e3] at e; cases e
          | some z =>
            rw [e3] at e
            have e4 : (Rs.ok z, S2) = (rr, S') := Option.some.inj e
            cases e4
            exact h H' v w x y z G1 G2 Q rv rw_ e3 fun v3 H3 G s3 r3 n => k v3 H3 F' G (own_after (u.sub fun a z => .inl z) R' s3 r3 n)
theorem tUn_e {r : V → Hp → VK → Prop} {f : T → Option T} {fa : EF} (h : UnT Γ r f) (σ : St) (H : Hp) (Q : VK) (q : rdE Γ ar W (eUn f fa) σ H Q) : rdE Γ ar W fa σ H (fun x H1 => r x H1 Q) := by
  obtain ⟨S, F, rr, S', R, e, k⟩ := q
  unfold eUn at e
  cases e1 : fa S with
  | none => rw [e1] at e; cases e
  | some o1 =>
    obtain ⟨r1, S1⟩ := o1
    rw [e1] at e
    simp only [Option.bind_some] at e
    cases r1 with
    | ex c =>
      have e2 : (Rs.ex c, S1) = (rr, S') := Option.some.inj e
      cases e2
      exact ⟨S, F, .ex c, _, R, e1, k⟩
    | ok x =>
      simp only at e
      cases e3 : f x with
      | none => rw [e3] at e; cases e
      | some z =>
        rw [e3] at e
        have e4 : (Rs.ok z, S1) = (rr, S') := Option.some.inj e
        cases e4
        exact ⟨S, F, .ok x, _, R, e1, fun v H1 F1 G1 o1 => h H1 v x z G1 Q o1.r e3 fun v3 H3 G s3 r3 n => k v3 H3 F1 G (own_after (o1.u.sub fun a z => .inl z) o1.rs s3 r3 n)⟩
end
end VT
namespace VT
open PySem L2
section
variable {Γ : Gx} {ar : Fx} {W : WX} {X : Cx}
theorem Rep.list {H : Hp} {x : V} {k : Kd} {ts : List T} {G : FP} (h : Rep Γ H x (.nd k ts) G) (hk : k = .lst ∨ k = .fz) :
    ∃ a vs, x = .ref a ∧ SqL Γ.K H a vs ∧ vs.length = ts.length ∧ ∀ (i : Nat) (v : V) (t : T), vs[i]? = some v → ts[i]? = some t → Rep Γ H v t G := by
  cases h with
  | @nd _ _ a vs _ Fs hat hl hm hc hd hs =>
    refine ⟨a, vs, rfl, ?_, hl, fun i v t e1 e2 => (hc i v t e1 e2).mono (hs i)⟩
    rcases hk with rfl | rfl
    · exact .inl (.inl hat)
    · exact RoL.sq hat
theorem Rep.tupl {H : Hp} {x : V} {ts : List T} {G : FP} (h : Rep Γ H x (.nd .tup ts) G) :
    ∃ a vs, x = .ref a ∧ SqT Γ.K H a vs ∧ vs.length = ts.length ∧ ∀ (i : Nat) (v : V) (t : T), vs[i]? = some v → ts[i]? = some t → Rep Γ H v t G := by
  cases h with
  | @nd _ _ a vs _ Fs hat hl hm hc hd hs => exact ⟨a, vs, rfl, .inl (.inl hat), hl, fun i v t e1 e2 => (hc i v t e1 e2).mono (hs i)⟩
/-- a new list, a new tuple of things that never change -/
theorem new_lst {H : Hp} {p : Addr} {vs : List V} {ts : List T} {G : FP} (hp : H p = none) (hl : vs.length = ts.length) (hc : ∀ (i : Nat) (v : V) (t : T), vs[i]? = some v → ts[i]? = some t → Rep Γ H v t G) (im : T.imAll ts = true) :
    Same H (upd H p (.lst vs)) ∧ Rep Γ (upd H p (.lst vs)) (.ref p) (.nd .lst ts) (fun a => a = p) ∧ New H (upd H p (.lst vs)) (fun a => a = p) := by
  have s : Same H (upd H p (.lst vs)) := fun b o e => by rw [upd_ne (ne_of_none e hp)]; exact e
  refine ⟨s, .nd (Fs := fun _ => FE) upd_same hl (fun _ => ⟨rfl, fun _ z => z⟩) (fun i v t e1 e2 => ((hc i v t e1 e2).same s).im (imAll_iff.mp im i t e2) FE) (fun _ _ _ _ z _ => z) (fun _ _ z => z.elim), fun a e => by rw [e]; exact hp, fun a e => by rw [e, upd_same]; exact fun z => nomatch z⟩
theorem new_tup {H : Hp} {p : Addr} {vs : List V} {ts : List T} {G : FP} (hp : H p = none) (hl : vs.length = ts.length) (hc : ∀ (i : Nat) (v : V) (t : T), vs[i]? = some v → ts[i]? = some t → Rep Γ H v t G) (im : T.imAll ts = true) :
    Same H (upd H p (.tup vs)) ∧ Rep Γ (upd H p (.tup vs)) (.ref p) (.nd .tup ts) FE ∧ New H (upd H p (.tup vs)) FE := by
  have s : Same H (upd H p (.tup vs)) := fun b o e => by rw [upd_ne (ne_of_none e hp)]; exact e
  exact ⟨s, .nd (Fs := fun _ => FE) upd_same hl (fun m => nomatch m) (fun i v t e1 e2 => ((hc i v t e1 e2).same s).im (imAll_iff.mp im i t e2) FE) (fun _ _ _ _ z _ => z) (fun _ _ z => z.elim), new_FE⟩
mutual
def dat : T → PyData
  | .non => .none
  | .bl b => .bool b
  | .int i => .int i
  | .str x => .str x
  | .nd .tup ts => .tuple (datAll ts)
  | .nd .lst ts => .list (datAll ts)
  | .nd .fz ts => .list (datAll ts)
  | .nd _ _ => .dict []
def datAll : List T → List PyData
  | [] => []
  | t :: ts => dat t :: datAll ts
end
theorem datAll_map (ts : List T) : datAll ts = ts.map dat := by
  induction ts with
  | nil => rfl
  | cons t ts ih => rw [datAll, ih, List.map_cons]
theorem dpAll {K : PySem.W.Frag} {H : Hp} : ∀ {vs : List V} {ts : List T}, vs.length = ts.length → (∀ (i : Nat) (v : V) (t : T), vs[i]? = some v → ts[i]? = some t → Dp K H v (dat t)) → DpAll K H vs (datAll ts)
  | [], [], _, _ => .nil
  | v :: vs, t :: ts, hl, h => .cons (h 0 v t rfl rfl) (dpAll (by simpa using hl) fun i v t e1 e2 => h (i + 1) v t (by simpa using e1) (by simpa using e2))
  | [], _ :: _, hl, _ => by simp at hl
  | _ :: _, [], hl, _ => by simp at hl
theorem layAll_get : ∀ {ts : List T} {i : Nat} {t : T}, PyData.canLayAll0 (datAll ts) = true → ts[i]? = some t → (dat t).canLay0 = true
  | [], _, _, _, e => by simp at e
  | u :: ts, i, t, h, e => by
    rw [datAll, PyData.canLayAll0, Bool.and_eq_true] at h
    cases i with
    | zero => simp at e; subst e; exact h.1
    | succ i => exact layAll_get h.2 (by simpa using e)
theorem Rep.dp {H : Hp} {v : V} {t : T} {F : FP} (h : Rep Γ H v t F) (hc : (dat t).canLay0 = true) : Dp Γ.K H v (dat t) := by
  induction h with
  | non => exact .non
  | bl b => exact .bl b
  | int i => exact .int i
  | str x => exact .str x
  | @nd F k a vs ts Fs hat hl hm hk hd hs ih =>
    cases k with
    | tup => exact .tup (.inl (.inl hat)) (dpAll hl fun i v t e1 e2 => ih i v t e1 e2 (layAll_get hc e2))
    | lst => exact .lst (.inl (.inl hat)) (dpAll hl fun i v t e1 e2 => ih i v t e1 e2 (layAll_get hc e2))
    | fz => exact .lst (RoL.sq hat) (dpAll hl fun i v t e1 e2 => ih i v t e1 e2 (layAll_get hc e2))
    | dK ks => cases hc
    | dT ks => cases hc
    | fK _ => cases hc
    | any => cases hc
    | obj c ns => cases hc
def shT (t : T) : Bool := SeqAt.shaped (dat t)
theorem shT_lay {t : T} (h : shT t = true) : (dat t).canLay0 = true := SeqAt.canLay_of_shaped h
theorem or_OpR {f : Value → Value → Sem Value} {r r' : R2} (h : OpR X f r) (h' : OpR X f r') : OpR X f (fun x y H Q => r x y H Q ∨ r' x y H Q) := by
  intro pins s σ H x y v u Q I rx ry q
  rcases q with q | q
  · exact h pins s σ H x y v u Q I rx ry q
  · exact h' pins s σ H x y v u Q I rx ry q
theorem or_CallR {f : Value} {r r' : List V → Hp → VK → Prop} (h : CallR X f r) (h' : CallR X f r') : CallR X f (fun x H Q => r x H Q ∨ r' x H Q) := by
  intro pins s σ H x v Q I rx k
  rcases k with k | k
  · exact h pins s σ H x v Q I rx k
  · exact h' pins s σ H x v Q I rx k
theorem opT_int {r : R2} {f : T → T → Option T} {C : Int → Int → Prop} {g : Int → Int → V} {gt : Int → Int → T} (hr : ∀ i j H Q, C i j → Q (g i j) H → r (.int i) (.int j) H Q) (hg : ∀ i j H, Rep Γ H (g i j) (gt i j) FE)
    (hf : ∀ t1 t2 t, f t1 t2 = some t → ∃ i j, t1 = .int i ∧ t2 = .int j ∧ C i j ∧ t = gt i j) : OpT Γ r f := by
  intro H x y t1 t2 t G1 G2 Q r1 r2 e k
  obtain ⟨i, j, rfl, rfl, c, rfl⟩ := hf t1 t2 t e
  cases r1
  cases r2
  exact hr i j H Q c (k _ H FE (Same.refl H) (hg i j H) new_FE)
/-- a dec. condition ahead of a value -/
def gd (c : Prop) [Decidable c] (t : T) : Option T := if c then some t else none
theorem gd_some {c : Prop} [Decidable c] {t u : T} : gd c t = some u ↔ c ∧ t = u := by
  unfold gd
  by_cases h : c
  · simp [h]
  · simp [h]
def modT : T → T → Option T
  | .int i, .int j => gd (0 < j) (.int (i % j))
  | _, _ => none
def fdivT : T → T → Option T
  | .int i, .int j => gd (0 < j ∧ j < 1073741824) (.int (i / j))
  | _, _ => none
def powT : T → T → Option T
  | .int i, .int j => gd (0 ≤ j ∧ j ≤ 1000000 ∧ i.natAbs < 18446744073709551616) (.int (i ^ j.toNat))
  | _, _ => none
def ltT : T → T → Option T
  | .int i, .int j => some (.bl (decide (i < j)))
  | _, _ => none
def gtT : T → T → Option T
  | .int i, .int j => some (.bl (decide (j < i)))
  | _, _ => none
def geT : T → T → Option T
  | .int i, .int j => some (.bl (decide (j ≤ i)))
  | _, _ => none
theorem modT_ok : OpT Γ (rI (fun _ j => 0 < j) fun i j => .int (i % j)) modT := opT_int (gt := fun i j => .int (i % j)) (fun i j H Q c q => ⟨i, j, rfl, rfl, c, q⟩) (fun i j H => .int _) fun t1 t2 t e => by
  unfold modT at e
  split at e
  · obtain ⟨c, rfl⟩ := gd_some.mp e; exact ⟨_, _, rfl, rfl, c, rfl⟩
  · cases e
theorem fdivT_ok : OpT Γ (rI CDiv fun i j => .int (i / j)) fdivT := opT_int (gt := fun i j => .int (i / j)) (fun i j H Q c q => ⟨i, j, rfl, rfl, c, q⟩) (fun i j H => .int _) fun t1 t2 t e => by
  unfold fdivT at e
  split at e
  · obtain ⟨c, rfl⟩ := gd_some.mp e; exact ⟨_, _, rfl, rfl, c, rfl⟩
  · cases e
theorem powT_ok : OpT Γ (rI CPow fun i j => .int (i ^ j.toNat)) powT := opT_int (C := fun i j => 0 ≤ j ∧ j ≤ 1000000 ∧ i.natAbs < 18446744073709551616) (gt := fun i j => .int (i ^ j.toNat)) (fun i j H Q c q => ⟨i, j, rfl, rfl, ⟨c.1, c.2.1, by have e64 : (2 : Nat) ^ 64 = 18446744073709551616 := (by decide); rw [e64]; exact c.2.2⟩, q⟩) (fun i j H => .int _) fun t1 t2 t e => by
  unfold powT at e
  split at e
  · obtain ⟨c, rfl⟩ := gd_some.mp e; exact ⟨_, _, rfl, rfl, c, rfl⟩
  · cases e
theorem ltT_ok : OpT Γ (rI0 fun i j => .bl (decide (i < j))) ltT := opT_int (C := fun _ _ => True) (gt := fun i j => .bl (decide (i < j))) (fun i j H Q _ q => ⟨i, j, rfl, rfl, q⟩) (fun i j H => .bl _) fun t1 t2 t e => by
  unfold ltT at e
  split at e
  · cases e; exact ⟨_, _, rfl, rfl, trivial, rfl⟩
  · cases e
theorem gtT_ok : OpT Γ (rI0 fun i j => .bl (decide (j < i))) gtT := opT_int (C := fun _ _ => True) (gt := fun i j => .bl (decide (j < i))) (fun i j H Q _ q => ⟨i, j, rfl, rfl, q⟩) (fun i j H => .bl _) fun t1 t2 t e => by
  unfold gtT at e
  split at e
  · cases e; exact ⟨_, _, rfl, rfl, trivial, rfl⟩
  · cases e
theorem geT_ok : OpT Γ (rI0 fun i j => .bl (decide (j ≤ i))) geT := opT_int (C := fun _ _ => True) (gt := fun i j => .bl (decide (j ≤ i))) (fun i j H Q _ q => ⟨i, j, rfl, rfl, q⟩) (fun i j H => .bl _) fun t1 t2 t e => by
  unfold geT at e
  split at e
  · cases e; exact ⟨_, _, rfl, rfl, trivial, rfl⟩
  · cases e
theorem sz5 {n : Nat} (h : n ≤ 100000) : n ≤ sizeLine := Nat.le_trans h (by decide)
theorem sz5' {n : Nat} (h : n < 100000) : n < sizeLine := Nat.lt_of_lt_of_le h (by decide)
theorem app_kids {H : Hp} {G1 G2 : FP} {vs ws : List V} {ts us : List T} (hl : vs.length = ts.length) (hc : ∀ (i : Nat) (v : V) (t : T), vs[i]? = some v → ts[i]? = some t → Rep Γ H v t G1) (hd : ∀ (i : Nat) (v : V) (t : T), ws[i]? = some v → us[i]? = some t → Rep Γ H v t G2) :
    ∀ (i : Nat) (v : V) (t : T), (vs ++ ws)[i]? = some v → (ts ++ us)[i]? = some t → Rep Γ H v t (FU G1 G2) := fun i v t e1 e2 => by
  by_cases h : i < vs.length
  · rw [List.getElem?_append_left h] at e1
    rw [List.getElem?_append_left (by omega)] at e2
    exact (hc i v t e1 e2).mono fun _ z => .inl z
  · rw [List.getElem?_append_right (by omega)] at e1
    rw [List.getElem?_append_right (by omega), ← hl] at e2
    exact (hd _ v t e1 e2).mono fun _ z => .inr z
theorem Rep.lstAt {H : Hp} {x : V} {ts : List T} {G : FP} (h : Rep Γ H x (.nd .lst ts) G) :
    ∃ a vs, x = .ref a ∧ H a = some (.lst vs) ∧ vs.length = ts.length ∧ ∀ (i : Nat) (v : V) (t : T), vs[i]? = some v → ts[i]? = some t → Rep Γ H v t G := by
  cases h with
  | @nd _ _ a vs _ Fs hat hl hm hc hd hs => exact ⟨a, vs, rfl, hat, hl, fun i v t e1 e2 => (hc i v t e1 e2).mono (hs i)⟩
/-- a * b: numbers, one of them small; a list and a number -/
def mulT : T → T → Option T
  | .int i, .int j => gd ((-18446744073709551616 < i ∧ i < 18446744073709551616) ∨ (-18446744073709551616 < j ∧ j < 18446744073709551616)) (.int (i * j))
  | .nd .lst [u], .int j => gd (0 ≤ j ∧ j ≤ 100000 ∧ u.im = true) (.nd .lst (List.replicate j.toNat u))
  | _, _ => none
def rMulT : R2 := fun x y H Q => rI CMul (fun i j => .int (i * j)) x y H Q ∨ rRep x y H Q
theorem op_mulT : OpR X (binaryOp .Mult) rMulT := or_OpR op_mul op_rep
theorem imAll_rep {u : T} (h : u.im = true) : ∀ n, T.imAll (List.replicate n u) = true := fun n => imAll_mem.mpr fun t ht => by rw [List.eq_of_mem_replicate ht]; exact h
theorem flat1 {α : Type} (x : α) : ∀ n : Nat, (List.replicate n [x]).flatten = List.replicate n x
  | 0 => rfl
  | n + 1 => by rw [List.replicate_succ, List.flatten_cons, flat1 x n, List.replicate_succ]; rfl
theorem mulT_ok : OpT Γ rMulT mulT := by
  intro H x y t1 t2 t G1 G2 Q r1 r2 e k
  unfold mulT at e
  split at e
  · obtain ⟨c, rfl⟩ := gd_some.mp e
    cases r1
    cases r2
    have e64 : (2 : Int) ^ 64 = 18446744073709551616 := by decide
    refine .inl ⟨_, _, rfl, rfl, ?_, k _ H FE (Same.refl H) (.int _) new_FE⟩
    unfold CMul
    rw [e64]
    exact c
  · rename_i u j
    obtain ⟨⟨c1, c2, c3⟩, rfl⟩ := gd_some.mp e
    obtain ⟨a, vs, rfl, ha, hl, hc⟩ := r1.lstAt
    cases r2
    have hl1 : vs.length = 1 := hl
    obtain ⟨v, rfl⟩ : ∃ v, vs = [v] := by
      match vs, hl1 with
      | [v], _ => exact ⟨v, rfl⟩
    refine .inr ⟨a, j, [v], rfl, rfl, ha, by omega, by omega, ?_, fun p hp => ?_⟩
    · show 1 * j.toNat ≤ sizeLine
      rw [Nat.one_mul]
      exact sz5 (by omega)
    · rw [flat1]
      have hv := hc 0 v u rfl rfl
      obtain ⟨s, r, n⟩ := new_lst (Γ := Γ) (vs := List.replicate j.toNat v) (ts := List.replicate j.toNat u) hp (by rw [List.length_replicate, List.length_replicate]) (fun i w t e1 e2 => by
        have z1 := List.eq_of_mem_replicate (List.mem_of_getElem? e1)
        have z2 := List.eq_of_mem_replicate (List.mem_of_getElem? e2)
        rw [z1, z2]
        exact hv) (imAll_rep c3 _)
      exact k _ _ _ s r n
  · cases e
def eqT (t1 t2 : T) : Option T := gd (shT t1 = true ∧ shT t2 = true) (.bl (PyData.eqv (dat t1) (dat t2)))
def neT (t1 t2 : T) : Option T := gd (shT t1 = true ∧ shT t2 = true) (.bl (!PyData.eqv (dat t1) (dat t2)))
theorem eqT_ok : OpT Γ (rEqD Γ.K) eqT := by
  intro H x y t1 t2 t G1 G2 Q r1 r2 e k
  obtain ⟨⟨c1, c2⟩, rfl⟩ := gd_some.mp e
  exact ⟨_, _, r1.dp (shT_lay c1), r2.dp (shT_lay c2), c1, c2, k _ H FE (Same.refl H) (.bl _) new_FE⟩
theorem neT_ok : OpT Γ (rNeD Γ.K) neT := by
  intro H x y t1 t2 t G1 G2 Q r1 r2 e k
  obtain ⟨⟨c1, c2⟩, rfl⟩ := gd_some.mp e
  exact ⟨_, _, r1.dp (shT_lay c1), r2.dp (shT_lay c2), c1, c2, k _ H FE (Same.refl H) (.bl _) new_FE⟩
def T.isN : T → Bool
  | .non => true
  | _ => false
theorem Rep.isN {H : Hp} {v : V} {t : T} {F : FP} (h : Rep Γ H v t F) : decide (v = .non) = t.isN := by cases h <;> rfl
/-- flat things (no bools, no ints beside bools): as values -/
def flT : T → Bool
  | .nd _ _ => false
  | _ => true
/-- x in a list (data), in a tuple (flat things) -/
def inB (t1 : T) (ts : List T) : Bool := ts.any fun z => PyData.eqv (dat z) (dat t1)
def inO (t1 t2 : T) : Option Bool := match t2 with
  | .nd .lst ts => if shT t1 = true ∧ shT (.nd .lst ts) = true then some (inB t1 ts) else none
  | .nd .fz ts => if shT t1 = true ∧ shT (.nd .lst ts) = true then some (inB t1 ts) else none
  | .nd .tup ts => if flT t1 = true ∧ ts.all flT = true then some (inB t1 ts) else none
  | _ => none
def inT (t1 t2 : T) : Option T := (inO t1 t2).map .bl
def notInT (t1 t2 : T) : Option T := (inO t1 t2).map fun b => .bl (!b)
def rInT (K : PySem.W.Frag) (neg : Bool) : R2 := fun x y H Q => (∃ d ds, Dp K H x d ∧ Dp K H y (.list ds) ∧ SeqAt.shaped d = true ∧ SeqAt.shaped (.list ds) = true ∧ Q (.bl (if neg then !ds.any fun z => PyData.eqv z d else ds.any fun z => PyData.eqv z d)) H) ∨ rIn K neg x y H Q
theorem op_inT (hu : X.A.units + 65 < cLine) : OpR X (compareOp .In) (rInT X.K false) := or_OpR (op_inD hu) op_in_seq
theorem op_notInT (hu : X.A.units + 65 < cLine) : OpR X (compareOp .NotIn) (rInT X.K true) := or_OpR (op_notInD hu) op_notIn_seq
theorem any_datAll {p : PyData → Bool} : ∀ ts : List T, (datAll ts).any p = ts.any fun z => p (dat z)
  | [] => rfl
  | t :: ts => by rw [datAll, List.any_cons, List.any_cons, any_datAll ts]
theorem Rep.flat {H : Hp} {v : V} {t : T} {F : FP} (h : Rep Γ H v t F) (hf : flT t = true) : flatV v = true := by
  cases h with
  | nd => cases hf
  | _ => rfl
theorem Rep.eqV {H : Hp} {v w : V} {t u : T} {F G : FP} (h : Rep Γ H v t F) (k : Rep Γ H w u G) (hf : flT t = true) (hg : flT u = true) : L2.eqV v w = PyData.eqv (dat t) (dat u) := by
  cases h with
  | nd => cases hf
  | _ =>
    cases k with
    | nd => cases hg
    | _ => simp only [L2.eqV, dat, PyData.eqv]
theorem inV_eq {H : Hp} {x : V} {t : T} {F : FP} (h : Rep Γ H x t F) (hf : flT t = true) : ∀ {vs : List V} {ts : List T}, vs.length = ts.length → (∀ (i : Nat) (v : V) (t : T), vs[i]? = some v → ts[i]? = some t → Rep Γ H v t F) → ts.all flT = true →
    inV x vs = inB t ts ∧ vs.all flatV = true
  | [], [], _, _, _ => ⟨rfl, rfl⟩
  | v :: vs, u :: ts, hl, hc, ha => by
    rw [List.all_cons, Bool.and_eq_true] at ha
    have h0 := hc 0 v u rfl rfl
    obtain ⟨e1, e2⟩ := inV_eq h hf (vs := vs) (ts := ts) (by simpa using hl) (fun i v t q1 q2 => hc (i + 1) v t (by simpa using q1) (by simpa using q2)) ha.2
    constructor
    · unfold inV inB at e1 ⊢
      rw [List.any_cons, List.any_cons, e1, h0.eqV h ha.1 hf]
    · rw [List.all_cons, h0.flat ha.1, e2]; rfl
  | [], _ :: _, hl, _, _ => by simp at hl
  | _ :: _, [], hl, _, _ => by simp at hl
theorem inO_ok {neg : Bool} {H : Hp} {x y : V} {t1 t2 : T} {b : Bool} {G1 G2 : FP} {Q : VK} (r1 : Rep Γ H x t1 G1) (r2 : Rep Γ H y t2 G2) (e : inO t1 t2 = some b) (k : Q (.bl (if neg then !b else b)) H) : rInT Γ.K neg x y H Q := by
  unfold inO at e
  split at e
  · rename_i ts
    by_cases c : shT t1 = true ∧ shT (.nd .lst ts) = true
    · rw [if_pos c] at e
      cases e
      refine .inl ⟨_, datAll ts, r1.dp (shT_lay c.1), r2.dp (shT_lay c.2), c.1, c.2, ?_⟩
      rw [any_datAll]
      exact k
    · rw [if_neg c] at e; cases e
  · rename_i ts
    by_cases c : shT t1 = true ∧ shT (.nd .lst ts) = true
    · rw [if_pos c] at e
      cases e
      refine .inl ⟨_, datAll ts, r1.dp (shT_lay c.1), r2.dp (t := .nd .fz ts) (shT_lay (t := .nd .lst ts) c.2), c.1, c.2, ?_⟩
      rw [any_datAll]
      exact k
    · rw [if_neg c] at e; cases e
  · rename_i ts
    by_cases c : flT t1 = true ∧ ts.all flT = true
    · rw [if_pos c] at e
      cases e
      obtain ⟨a, vs, rfl, hq, hl, hc⟩ := r2.tupl
      obtain ⟨e1, e2⟩ := inV_eq (F := FU G1 G2) (r1.mono fun _ z => .inl z) c.1 hl (fun i v t q1 q2 => (hc i v t q1 q2).mono fun _ z => .inr z) c.2
      refine .inr ⟨a, vs, rfl, .inr hq, r1.flat c.1, e2, ?_⟩
      rw [e1]
      exact k
    · rw [if_neg c] at e; cases e
  · cases e
theorem atI_map {vs : List V} {ts : List T} {i : Int} {t : T} (hl : vs.length = ts.length) (e : atI ts i = some t) : ∃ (v : V) (j : Nat), atI vs i = some v ∧ vs[j]? = some v ∧ ts[j]? = some t := by
  unfold atI at e ⊢
  rw [hl]
  cases e1 : ixN ts.length i with
  | none => rw [e1] at e; cases e
  | some j =>
    rw [e1] at e
    have e2 : ts[j]? = some t := e
    have hj : j < ts.length := (List.getElem?_eq_some_iff.mp e2).1
    exact ⟨vs[j]'(by omega), j, List.getElem?_eq_getElem (by omega), List.getElem?_eq_getElem (by omega), e2⟩
def ixT : T → T → Option T
  | .nd .lst ts, .int i => (atI ts i).bind imO
  | .nd .fz ts, .int i => (atI ts i).bind imO
  | .nd .tup ts, .int i => (atI ts i).bind imO
  | .str z, .int i => if z.length ≤ 100000 then (atI z.cps.toList i).bind fun c => some (.str ⟨#[c]⟩) else none
  | _, _ => none
theorem bind_im {o : Option T} {t : T} (h : o.bind imO = some t) : o = some t ∧ t.im = true := by
  cases o with
  | none => cases h
  | some u =>
    have h' : imO u = some t := h
    unfold imO at h'
    by_cases hi : u.im = true
    · rw [if_pos hi] at h'; cases h'; exact ⟨rfl, hi⟩
    · rw [if_neg hi] at h'; cases h'
theorem ixT_ok : OpT Γ (rIx Γ.K) ixT := by
  intro H x y t1 t2 t G1 G2 Q r1 r2 e k
  unfold ixT at e
  split at e
  · obtain ⟨e1, hi⟩ := bind_im e
    obtain ⟨a, vs, rfl, hq, hl, hc⟩ := r1.list (.inl rfl)
    cases r2
    obtain ⟨v, j, q1, q2, q3⟩ := atI_map hl e1
    exact .inl ⟨a, vs, _, v, rfl, rfl, hq, q1, k v H FE (Same.refl H) ((hc j v t q2 q3).im hi FE) new_FE⟩
  · obtain ⟨e1, hi⟩ := bind_im e
    obtain ⟨a, vs, rfl, hq, hl, hc⟩ := r1.list (.inr rfl)
    cases r2
    obtain ⟨v, j, q1, q2, q3⟩ := atI_map hl e1
    exact .inl ⟨a, vs, _, v, rfl, rfl, hq, q1, k v H FE (Same.refl H) ((hc j v t q2 q3).im hi FE) new_FE⟩
  · obtain ⟨e1, hi⟩ := bind_im e
    obtain ⟨a, vs, rfl, hq, hl, hc⟩ := r1.tupl
    cases r2
    obtain ⟨v, j, q1, q2, q3⟩ := atI_map hl e1
    exact .inr (.inl ⟨a, vs, _, v, rfl, rfl, hq, q1, k v H FE (Same.refl H) ((hc j v t q2 q3).im hi FE) new_FE⟩)
  · rename_i z i
    by_cases hz : z.length ≤ 100000
    · rw [if_pos hz] at e
      cases e1 : atI z.cps.toList i with
      | none => rw [e1] at e; cases e
      | some c =>
        rw [e1] at e
        cases e
        cases r1
        cases r2
        exact .inr (.inr ⟨z, i, c, rfl, rfl, sz5 hz, e1, k _ H FE (Same.refl H) (.str _) new_FE⟩)
    · rw [if_neg hz] at e; cases e
  · cases e
end
end VT
namespace VT
open PySem L2
section
variable {Γ : Gx} {ar : Fx} {W : WX} {X : Cx} {a b e : Expr} {pos p : Pos} {ga gb : BF} {fa fb : EF}
theorem nOp {op : Operator} {r : R2} {f : T → T → Option T} (ho : OpR X (binaryOp op) r) (hf : OpT Γ r f) (ha : PE X a (rdB Γ ar ga)) (hb : PE X b (rdB Γ ar gb)) : PE X (.BinOp a op b pos) (rdN Γ ar (bOp f ga gb)) := PE.imp (pe_op ho ha hb) (tOp_b hf)
theorem nCmp {op : CmpOp} {r : R2} {f : T → T → Option T} (ho : OpR X (compareOp op) r) (hf : OpT Γ r f) (ha : PE X a (rdB Γ ar ga)) (hb : PE X b (rdB Γ ar gb)) (hm : behindInMarks op b = false) : PE X (.Compare a [op] [b] pos) (rdN Γ ar (bOp f ga gb)) := PE.imp (pe_cmpR ho ha hb hm) (tOp_b hf)
theorem nIx (ha : PE X a (rdB Γ ar ga)) (hb : PE X b (rdB Γ ar gb)) (hs : PlainIx b) (hK : X.K = Γ.K := by rfl) : PE X (.Subscript a b pos) (rdN Γ ar (bOp ixT ga gb)) := PE.imp (pe_ix (hK ▸ ix_seq) ha hb hs) (tOp_b ixT_ok)
def rdT (Γ : Gx) (ar : Fx) (W : WX) (f : EF) : TT := fun σ H Q => rdE Γ ar W f σ H fun x H' => ∃ k, x = .bl k ∧ Q k H'
theorem t_val (h : PE X e (rdE Γ ar W fa)) (he : ∀ whole, isTrue e X.env whole = (do let v ← whole; standAt e.pos; holding [v] (truthy v)) := by intro _; rfl) : PT X e (rdT Γ ar W fa) := PT.imp (pt_val h he) fun _ _ _ q => q
def eNot (fa : EF) : EF := fun S => (fa S).bind fun rx => match rx with
  | (.ex c, S1) => some (.ex c, S1)
  | (.ok (.bl b), S1) => some (.ok (.bl (!b)), S1)
  | _ => none
def eAnd (fa fb : EF) : EF := fun S => (fa S).bind fun rx => match rx with
  | (.ex c, S1) => some (.ex c, S1)
  | (.ok (.bl true), S1) => fb S1
  | (.ok (.bl false), S1) => some (.ok (.bl false), S1)
  | _ => none
def eOr (fa fb : EF) : EF := fun S => (fa S).bind fun rx => match rx with
  | (.ex c, S1) => some (.ex c, S1)
  | (.ok (.bl false), S1) => fb S1
  | (.ok (.bl true), S1) => some (.ok (.bl true), S1)
  | _ => none
/-- a test, then what hangs on it -/
theorem bool_then {σ : St} {H : Hp} {S : TSt} {F : FP} {S1 : TSt} {k : Bool} {P : Bool → Hp → Prop} (R : RepS Γ ar H σ S F) (e1 : fa S = some (.ok (.bl k), S1))
    (h : ∀ H1 F1, RepS Γ ar H1 σ S1 F1 → Upd H H1 F F1 → P k H1) : rdE Γ ar W fa σ H fun x H1 => ∃ c, x = .bl c ∧ P c H1 := by
  refine ⟨S, F, .ok (.bl k), S1, R, e1, fun v H1 F1 G o => ?_⟩
  cases o.r
  exact ⟨k, rfl, h H1 F1 o.rs (o.u.sub fun a z => .inl z)⟩
theorem rdE_after {σ : St} {H H1 : Hp} {F F1 : FP} {S1 : TSt} {r : Rs T} {S' : TSt} {Q : VK} (R1 : RepS Γ ar H1 σ S1 F1) (u : Upd H H1 F F1) (e : fb S1 = some (r, S'))
    (k : PostE Γ ar W H F σ S' Q r) : rdE Γ ar W fb σ H1 Q := by
  refine ⟨S1, F1, r, S', R1, e, ?_⟩
  cases r with
  | ok t => exact fun v H' F' G o => k v H' F' G ⟨o.rs, o.r, o.d, o.al, u.trans o.u⟩
  | ex c => exact fun H' F' R' u' => k H' F' R' (u.trans u')
theorem eNot_ok {σ : St} {H : Hp} {Q : VK} (q : rdE Γ ar W (eNot fa) σ H Q) : rdE Γ ar W fa σ H fun x H1 => ∃ c, x = .bl c ∧ Q (.bl (!c)) H1 := by
  obtain ⟨S, F, r, S', R, e, k⟩ := q
  unfold eNot at e
  cases e1 : fa S with
  | none => rw [e1] at e; cases e
  | some o =>
    rw [e1] at e
    simp only [Option.bind_some] at e
    split at e
    · cases e
      exact ⟨S, F, _, _, R, e1, k⟩
    · cases e
      exact bool_then R e1 fun H1 F1 R1 u => k _ H1 F1 FE ⟨R1, .bl _, fun _ _ z => z, fun _ z => z.elim, u.sub fun a z => z.elim id fun z => z.elim⟩
    · cases e
theorem eAnd_ok {σ : St} {H : Hp} {Q : VK} (q : rdE Γ ar W (eAnd fa fb) σ H Q) : rdE Γ ar W fa σ H fun x H1 => ∃ c, x = .bl c ∧ if c = true then rdE Γ ar W fb σ H1 Q else Q (.bl false) H1 := by
  obtain ⟨S, F, r, S', R, e, k⟩ := q
  unfold eAnd at e
  cases e1 : fa S with
  | none => rw [e1] at e; cases e
  | some o =>
    rw [e1] at e
    simp only [Option.bind_some] at e
    split at e
    · cases e
      exact ⟨S, F, _, _, R, e1, k⟩
    · exact bool_then R e1 fun H1 F1 R1 u => iteT (rdE_after R1 u e k)
    · cases e
      exact bool_then R e1 fun H1 F1 R1 u => iteF (k _ H1 F1 FE ⟨R1, .bl _, fun _ _ z => z, fun _ z => z.elim, u.sub fun a z => z.elim id fun z => z.elim⟩)
    · cases e
theorem eOr_ok {σ : St} {H : Hp} {Q : VK} (q : rdE Γ ar W (eOr fa fb) σ H Q) : rdE Γ ar W fa σ H fun x H1 => ∃ c, x = .bl c ∧ if c = true then Q (.bl true) H1 else rdE Γ ar W fb σ H1 Q := by
  obtain ⟨S, F, r, S', R, e, k⟩ := q
  unfold eOr at e
  cases e1 : fa S with
  | none => rw [e1] at e; cases e
  | some o =>
    rw [e1] at e
    simp only [Option.bind_some] at e
    split at e
    · cases e
      exact ⟨S, F, _, _, R, e1, k⟩
    · exact bool_then R e1 fun H1 F1 R1 u => iteF (rdE_after R1 u e k)
    · cases e
      exact bool_then R e1 fun H1 F1 R1 u => iteT (k _ H1 F1 FE ⟨R1, .bl _, fun _ _ z => z, fun _ z => z.elim, u.sub fun a z => z.elim id fun z => z.elim⟩)
    · cases e
theorem e_and {rest : List Expr} (ha : PE X a (rdE Γ ar W fa)) (hb : PE X (.BoolOp .And (b :: rest) pos) (rdE Γ ar W fb)) : PE X (.BoolOp .And (a :: b :: rest) pos) (rdE Γ ar W (eAnd fa fb)) := PE.imp (pe_and ha hb) fun _ _ _ q => eAnd_ok q
theorem t_not (ha : PT X a (rdT Γ ar W fa)) : PT X (.UnaryOp .Not a pos) (rdT Γ ar W (eNot fa)) := PT.imp (pt_not ha) fun σ H Q q => by
  obtain ⟨S, F, r, S', R, e, k⟩ := eNot_ok q
  refine ⟨S, F, r, S', R, e, ?_⟩
  cases r with
  | ex c => exact k
  | ok t =>
    intro v H' F' G o
    obtain ⟨c, ev, c', ec, q⟩ := k v H' F' G o
    cases ec
    exact ⟨c, ev, q⟩
theorem PW.imp {t t' : TT} (h : PW X e t) (k : ∀ σ H Q, t' σ H Q → t σ H Q) : PW X e t' := ⟨fun whole pins s σ H Q I q => h.run whole pins s σ H Q I (k σ H Q q)⟩
theorem rdE_mono {σ : St} {H : Hp} {Q Q' : VK} (q : rdE Γ ar W fa σ H Q) (k : ∀ v H', Q v H' → Q' v H') : rdE Γ ar W fa σ H Q' := by
  obtain ⟨S, F, r, S', R, e, h⟩ := q
  refine ⟨S, F, r, S', R, e, ?_⟩
  cases r with
  | ex c => exact h
  | ok t => exact fun v H' F' G o => k v H' (h v H' F' G o)
theorem w_and {rest : List Expr} (ha : PT X a (rdT Γ ar W fa)) (hb : PW X (.BoolOp .And (b :: rest) pos) (rdT Γ ar W fb)) : PW X (.BoolOp .And (a :: b :: rest) pos) (rdT Γ ar W (eAnd fa fb)) := PW.imp (pw_and ha hb) fun σ H Q q => by
  refine rdE_mono (eAnd_ok q) fun v H' ⟨c, ev, h⟩ => ⟨c, ev, ?_⟩
  cases c with
  | true => exact h
  | false =>
    obtain ⟨k, ek, hk⟩ : ∃ k, V.bl false = V.bl k ∧ Q k H' := h
    cases ek
    exact hk
theorem w_or {rest : List Expr} (ha : PT X a (rdT Γ ar W fa)) (hb : PW X (.BoolOp .Or (b :: rest) pos) (rdT Γ ar W fb)) : PW X (.BoolOp .Or (a :: b :: rest) pos) (rdT Γ ar W (eOr fa fb)) := PW.imp (pw_or ha hb) fun σ H Q q => by
  refine rdE_mono (eOr_ok q) fun v H' ⟨c, ev, h⟩ => ⟨c, ev, ?_⟩
  cases c with
  | false => exact h
  | true =>
    obtain ⟨k, ek, hk⟩ : ∃ k, V.bl true = V.bl k ∧ Q k H' := h
    cases ek
    exact hk
theorem w_one_and (ha : PT X a (rdT Γ ar W fa)) : PW X (.BoolOp .And [a] pos) (rdT Γ ar W fa) := PW.imp (pw_and1 ha) fun _ _ _ q => q
theorem w_one_or (ha : PT X a (rdT Γ ar W fa)) : PW X (.BoolOp .Or [a] pos) (rdT Γ ar W fa) := PW.imp (pw_or1 ha) fun _ _ _ q => q
inductive Arg where
  | val (t : T) | pth (i : Nat) (p : List Nat)
abbrev AF := TSt → Option (Rs (List Arg) × TSt)
structure ArgsP (Γ : Gx) (H : Hp) (σ : St) (vs : List V) (as : List Arg) (G : FP) : Prop where
  len : vs.length = as.length
  fam : ∃ Gs : Nat → FP, (∀ (j : Nat) (v : V) (t : T), vs[j]? = some v → as[j]? = some (.val t) → Rep Γ H v t (Gs j)) ∧ (∀ (j : Nat) (v : V) (i : Nat) (p : List Nat), vs[j]? = some v → as[j]? = some (.pth i p) → ∃ v0, σ[i]? = some (some v0) ∧ vAt H p v0 = some v) ∧
    (∀ i j a, i ≠ j → Gs i a → Gs j a → False) ∧ ∀ i a, Gs i a → G a
def rdA (Γ : Gx) (ar : Fx) (W : WX) (fs : AF) : TA := fun σ H Q => ∃ S F r S', RepS Γ ar H σ S F ∧ fs S = some (r, S') ∧ (match r with
  | .ok as => ∀ vs H' F' G, RepS Γ ar H' σ S' F' → ArgsP Γ H' σ vs as G → (∀ a, F' a → G a → False) → (∀ a, G a → H' a ≠ none) → Upd H H' F (FU F' G) → Q vs H'
  | .ex c => ∀ H' F', RepS Γ ar H' σ S' F' → Upd H H' F F' → W (.ref (Γ.cl c)) none σ H')
theorem argsP_nil {H : Hp} {σ : St} : ArgsP Γ H σ [] [] FE := ⟨rfl, fun _ => FE, fun j v t e => by simp at e, fun j v i p e => by simp at e, fun _ _ _ _ z => z.elim, fun _ _ z => z⟩
theorem ArgsP.val {H : Hp} {σ : St} {vs : List V} {as : List Arg} {G G1 : FP} {v : V} {t : T} (h : ArgsP Γ H σ vs as G) (r : Rep Γ H v t G1) (d : ∀ a, G1 a → G a → False) : ArgsP Γ H σ (v :: vs) (.val t :: as) (FU G1 G) := by
  obtain ⟨len, Gs, h1, h2, h3, h4⟩ := h
  refine ⟨by simp [len], fun j => match j with | 0 => G1 | j + 1 => Gs j, fun j w u e1 e2 => ?_, fun j w i p e1 e2 => ?_, fun i j a ne z z' => ?_, fun i a z => ?_⟩
  · cases j with
    | zero =>
      simp at e1 e2
      subst e1 e2
      exact r
    | succ j => exact h1 j w u (by simpa using e1) (by simpa using e2)
  · cases j with
    | zero => simp at e2
    | succ j => exact h2 j w i p (by simpa using e1) (by simpa using e2)
  · cases i with
    | zero =>
      cases j with
      | zero => exact ne rfl
      | succ j => exact d a z (h4 j a z')
    | succ i =>
      cases j with
      | zero => exact d a z' (h4 i a z)
      | succ j => exact h3 i j a (fun e => ne (by rw [e])) z z'
  · cases i with
    | zero => exact .inl z
    | succ i => exact .inr (h4 i a z)
theorem ArgsP.ref {H : Hp} {σ : St} {vs : List V} {as : List Arg} {G : FP} {v v0 : V} {i : Nat} {p : List Nat} (h : ArgsP Γ H σ vs as G) (e : σ[i]? = some (some v0)) (e' : vAt H p v0 = some v) : ArgsP Γ H σ (v :: vs) (.pth i p :: as) G := by
  obtain ⟨len, Gs, h1, h2, h3, h4⟩ := h
  refine ⟨by simp [len], fun j => match j with | 0 => FE | j + 1 => Gs j, fun j w u e1 e2 => ?_, fun j w i p e1 e2 => ?_, fun i j a ne z z' => ?_, fun i a z => ?_⟩
  · cases j with
    | zero => simp at e2
    | succ j => exact h1 j w u (by simpa using e1) (by simpa using e2)
  · cases j with
    | zero =>
      simp at e1 e2
      obtain ⟨rfl, rfl⟩ := e2
      subst e1
      exact ⟨v0, e, e'⟩
    | succ j => exact h2 j w i p (by simpa using e1) (by simpa using e2)
  · cases i with
    | zero => exact z
    | succ i =>
      cases j with
      | zero => exact z'
      | succ j => exact h3 i j a (fun e => ne (by rw [e])) z z'
  · cases i with
    | zero => exact z.elim
    | succ i => exact h4 i a z
def aNil : AF := fun S => some (.ok [], S)
def aVal (f : EF) (fs : AF) : AF := fun S => (f S).bind fun rx => match rx with
  | (.ex c, S1) => some (.ex c, S1)
  | (.ok t, S1) => (fs S1).bind fun ry => match ry with
    | (.ex c, S2) => some (.ex c, S2)
    | (.ok l, S2) => some (.ok (.val t :: l), S2)
def argOf (S : TSt) (i : Nat) : Option Arg := (sl S i).bind fun t => if t.im = true then some (.val t) else some (.pth i [])
def aRef (i : Nat) (fs : AF) : AF := fun S => (argOf S i).bind fun x => (fs S).bind fun ry => match ry with
  | (.ex c, S2) => some (.ex c, S2)
  | (.ok l, S2) => some (.ok (x :: l), S2)
theorem a_nil : PA X [] (rdA Γ ar W aNil) := PA.imp pa_nil fun σ H Q q => by
  obtain ⟨S, F, r, S', R, e, k⟩ := q
  cases e
  exact k [] H F FE R argsP_nil (fun _ _ z => z) (fun _ z => z.elim) ((Upd.refl H F).sub fun a z => z.elim id fun z => z.elim)
theorem a_val {es : List Expr} {f : EF} {fs : AF} (ha : PE X e (rdE Γ ar W f)) (hr : PA X es (rdA Γ ar W fs)) (hs : starEach (e :: es) X.env = (false, eval e X.env) :: starEach es X.env := by rfl) : PA X (e :: es) (rdA Γ ar W (aVal f fs)) :=
  PA.imp (pa_cons ha hr hs) fun σ H Q q => by
    obtain ⟨S, F, r, S', R, ee, k⟩ := q
    unfold aVal at ee
    cases e1 : f S with
    | none => rw [e1] at ee; cases ee
    | some o1 =>
      obtain ⟨r1, S1⟩ := o1
      rw [e1] at ee
      simp only [Option.bind_some] at ee
      cases r1 with
      | ex c => cases ee; exact ⟨S, F, .ex c, _, R, e1, k⟩
      | ok t =>
        simp only at ee
        cases e2 : fs S1 with
        | none => rw [e2] at ee; cases ee
        | some o2 =>
          obtain ⟨r2, S2⟩ := o2
          rw [e2] at ee
          simp only [Option.bind_some] at ee
          refine ⟨S, F, .ok t, S1, R, e1, fun v H1 F1 G1 o1 => ⟨S1, F1, r2, S2, o1.rs, e2, ?_⟩⟩
          have up : ∀ {H2 : Hp} {F2 : FP}, Upd H1 H2 F1 F2 → Upd H H2 F (FU F2 G1) := fun u => o1.u.trans u.more
          cases r2 with
          | ex c =>
            cases ee
            exact fun H2 F2 R2 u2 => k H2 F2 R2 ((up u2).sub fun a z => .inl z)
          | ok l =>
            cases ee
            intro vs H2 F2 G2 R2 A2 d2 al2 u2
            have dG : ∀ a, G1 a → G2 a → False := fun a g1 g2 => (u2.new a (.inr g2)).elim (fun z => o1.d a z g1) fun z => o1.al a g1 z
            have dF : ∀ a, F2 a → G1 a → False := fun a f2 g1 => (u2.new a (.inl f2)).elim (fun z => o1.d a z g1) fun z => o1.al a g1 z
            exact k (v :: vs) H2 F2 (FU G1 G2) R2 (A2.val (o1.r.ke u2.toKe fun a g f => o1.d a f g) dG) (fun a f g => g.elim (dF a f) (d2 a f)) (fun a g => g.elim (fun g => u2.toKe.al (o1.al a g) fun f => o1.d a f g) (al2 a))
              ((up u2).sub fun a z => z.elim (fun z => .inl (.inl z)) fun z => z.elim .inr fun z => .inl (.inr z))
theorem a_ref (i : Nat) {x : Str} {es : List Expr} {fs : AF} (hr : PA X es (rdA Γ ar W fs)) (hN : X.N[i]? = some x := by rfl) (hv : Vis X.env.scope x := by first | exact Or.inl rfl | exact Or.inr (Or.inl rfl) | exact Or.inr (Or.inr rfl)) (hd : (x == ("__debug__" : Str)) = false := by decide)
    (hcd : (x == ("__classdict__" : Str)) = false := by decide) (hs : starEach (.Name x pos :: es) X.env = (false, eval (.Name x pos) X.env) :: starEach es X.env := by rfl) : PA X (.Name x pos :: es) (rdA Γ ar W (aRef i fs)) :=
  PA.imp (pa_cons (pe_var hN hv hd hcd) hr hs) fun σ H Q q => by
    obtain ⟨S, F, r, S', R, ee, k⟩ := q
    unfold aRef argOf at ee
    cases e0 : sl S i with
    | none => rw [e0] at ee; cases ee
    | some t =>
      rw [e0] at ee
      simp only [Option.bind_some] at ee
      obtain ⟨v, ev, rv⟩ := R.slot (sl_some.mp e0)
      refine ⟨v, ev, ?_⟩
      cases e2 : fs S with
      | none => by_cases hi : t.im = true <;> simp [hi, e2] at ee
      | some o2 =>
        obtain ⟨r2, S2⟩ := o2
        refine ⟨S, F, r2, S2, R, e2, ?_⟩
        cases r2 with
        | ex c => by_cases hi : t.im = true <;> (simp [hi, e2] at ee; obtain ⟨rfl, rfl⟩ := ee; exact k)
        | ok l =>
          intro vs H2 F2 G2 R2 A2 d2 al2 u2
          by_cases hi : t.im = true
          · simp [hi, e2] at ee
            obtain ⟨rfl, rfl⟩ := ee
            exact k (v :: vs) H2 F2 (FU FE G2) R2 (A2.val ((rv.im hi FE).ke u2.toKe fun _ z => z.elim) fun _ z => z.elim) (fun a f g => g.elim (fun z => z) (d2 a f)) (fun a g => g.elim (fun z => z.elim) (al2 a)) (u2.sub fun a z => z.elim .inl fun z => z.elim (fun z => z.elim) .inr)
          · simp [hi, e2] at ee
            obtain ⟨rfl, rfl⟩ := ee
            exact k (v :: vs) H2 F2 G2 R2 (A2.ref ev rfl) d2 al2 u2
/-- .. read only -/
abbrev BAF := TSt → Option (List Arg)
def rdBA (Γ : Gx) (ar : Fx) (gs : BAF) : TA := fun σ H Q => ∃ S F as, RepS Γ ar H σ S F ∧ gs S = some as ∧ ∀ vs H' G, Same H H' → ArgsP Γ H' σ vs as G → New H H' G → Q vs H'
def baNil : BAF := fun _ => some []
def baVal (g : BF) (gs : BAF) : BAF := fun S => (g S).bind fun t => (gs S).bind fun l => some (.val t :: l)
def baRef (i : Nat) (gs : BAF) : BAF := fun S => (argOf S i).bind fun x => (gs S).bind fun l => some (x :: l)
theorem ArgsP.same {H H' : Hp} {σ : St} {vs : List V} {as : List Arg} {G : FP} (h : ArgsP Γ H σ vs as G) (s : Same H H') : ArgsP Γ H' σ vs as G := by
  obtain ⟨len, Gs, h1, h2, h3, h4⟩ := h
  exact ⟨len, Gs, fun j v t e1 e2 => (h1 j v t e1 e2).same s, fun j v i p e1 e2 => let ⟨v0, q1, q2⟩ := h2 j v i p e1 e2; ⟨v0, q1, vAt_same s q2⟩, h3, h4⟩
theorem ba_nil : PA X [] (rdBA Γ ar baNil) := PA.imp pa_nil fun σ H Q q => by
  obtain ⟨S, F, as, R, e, k⟩ := q
  cases e
  exact k [] H FE (Same.refl H) argsP_nil new_FE
theorem ba_val {es : List Expr} {g : BF} {gs : BAF} (ha : PE X e (rdN Γ ar g)) (hr : PA X es (rdBA Γ ar gs)) (hs : starEach (e :: es) X.env = (false, eval e X.env) :: starEach es X.env := by rfl) : PA X (e :: es) (rdBA Γ ar (baVal g gs)) :=
  PA.imp (pa_cons ha hr hs) fun σ H Q q => by
    obtain ⟨S, F, as, R, ee, k⟩ := q
    unfold baVal at ee
    cases e1 : g S with
    | none => rw [e1] at ee; cases ee
    | some t =>
      rw [e1] at ee
      simp only [Option.bind_some] at ee
      cases e2 : gs S with
      | none => rw [e2] at ee; cases ee
      | some l =>
        rw [e2] at ee
        cases ee
        refine ⟨S, F, t, R, e1, fun v H1 G1 s1 r1 n1 => ⟨S, F, l, R.same s1, e2, fun vs H2 G2 s2 A2 n2 => ?_⟩⟩
        exact k (v :: vs) H2 (FU G1 G2) (s1.trans s2) (A2.val (r1.same s2) fun a g1 g2 => n1.2 a g1 (n2.1 a g2)) ⟨fun a g => g.elim (n1.1 a) fun g => s1.free (n2.1 a g), fun a g => g.elim (fun g => same_al s2 (n1.2 a g)) (n2.2 a)⟩
theorem ba_ref (i : Nat) {x : Str} {es : List Expr} {gs : BAF} (hr : PA X es (rdBA Γ ar gs)) (hN : X.N[i]? = some x := by rfl) (hv : Vis X.env.scope x := by first | exact Or.inl rfl | exact Or.inr (Or.inl rfl) | exact Or.inr (Or.inr rfl)) (hd : (x == ("__debug__" : Str)) = false := by decide)
    (hcd : (x == ("__classdict__" : Str)) = false := by decide) (hs : starEach (.Name x pos :: es) X.env = (false, eval (.Name x pos) X.env) :: starEach es X.env := by rfl) : PA X (.Name x pos :: es) (rdBA Γ ar (baRef i gs)) :=
  PA.imp (pa_cons (pe_var hN hv hd hcd) hr hs) fun σ H Q q => by
    obtain ⟨S, F, as, R, ee, k⟩ := q
    unfold baRef argOf at ee
    cases e0 : sl S i with
    | none => rw [e0] at ee; cases ee
    | some t =>
      rw [e0] at ee
      simp only [Option.bind_some] at ee
      obtain ⟨v, ev, rv⟩ := R.slot (sl_some.mp e0)
      refine ⟨v, ev, ?_⟩
      cases e2 : gs S with
      | none => by_cases hi : t.im = true <;> simp [hi, e2] at ee
      | some l =>
        refine ⟨S, F, l, R, e2, fun vs H2 G2 s2 A2 n2 => ?_⟩
        by_cases hi : t.im = true
        · simp [hi, e2] at ee
          subst ee
          exact k (v :: vs) H2 (FU FE G2) s2 (A2.val ((rv.im hi FE).same s2) fun _ z => z.elim) ⟨fun a g => g.elim (fun z => z.elim) (n2.1 a), fun a g => g.elim (fun z => z.elim) (n2.2 a)⟩
        · simp [hi, e2] at ee
          subst ee
          exact k (v :: vs) H2 G2 s2 (A2.ref ev rfl) n2
def valsOf : List Arg → Option (List T)
  | [] => some []
  | .val t :: l => (valsOf l).bind fun ts => some (t :: ts)
  | .pth _ _ :: _ => none
theorem valsOf_get : ∀ {as : List Arg} {ts : List T}, valsOf as = some ts → as.length = ts.length ∧ ∀ (j : Nat) (t : T), ts[j]? = some t → as[j]? = some (.val t)
  | [], ts, e => by cases e; exact ⟨rfl, fun j t h => by simp at h⟩
  | .val u :: l, ts, e => by
    unfold valsOf at e
    cases e1 : valsOf l with
    | none => rw [e1] at e; cases e
    | some us =>
      rw [e1] at e
      cases e
      obtain ⟨h1, h2⟩ := valsOf_get e1
      refine ⟨by simp [h1], fun j t h => ?_⟩
      cases j with
      | zero => simp at h ⊢; exact h
      | succ j => simp at h ⊢; exact h2 j t h
  | .pth _ _ :: _, ts, e => by cases e
theorem ArgsP.vals {H : Hp} {σ : St} {vs : List V} {as : List Arg} {ts : List T} {G : FP} (h : ArgsP Γ H σ vs as G) (e : valsOf as = some ts) :
    vs.length = ts.length ∧ ∃ Gs : Nat → FP, (∀ (j : Nat) (v : V) (t : T), vs[j]? = some v → ts[j]? = some t → Rep Γ H v t (Gs j)) ∧ (∀ i j a, i ≠ j → Gs i a → Gs j a → False) ∧ ∀ i a, Gs i a → G a := by
  obtain ⟨len, Gs, h1, h2, h3, h4⟩ := h
  obtain ⟨e1, e2⟩ := valsOf_get e
  exact ⟨len.trans e1, Gs, fun j v t q1 q2 => h1 j v t q1 (e2 j t q2), h3, h4⟩
def eDisp (k : Kd) (fs : AF) : EF := fun S => (fs S).bind fun rx => match rx with
  | (.ex c, S1) => some (.ex c, S1)
  | (.ok l, S1) => (valsOf l).bind fun ts => if ts.length ≤ 100000 then some (.ok (.nd k ts), S1) else none
theorem upd_new {H : Hp} {p : Addr} {o : HO} (hp : H p = none) : Same H (upd H p o) := fun b u e => by rw [upd_ne (ne_of_none e hp)]; exact e
theorem disp_ok {k : Kd} {mk : List V → HO} (hk : ∀ H a vs, H a = some (mk vs) → At Γ H k a vs) {fs : AF} {σ : St} {H : Hp} {Q : VK} (q : rdE Γ ar W (eDisp k fs) σ H Q) :
    rdA Γ ar W fs σ H fun xs H1 => xs.length ≤ sizeLine ∧ ∀ p, H1 p = none → Q (.ref p) (upd H1 p (mk xs)) := by
  obtain ⟨S, F, r, S', R, e, kk⟩ := q
  unfold eDisp at e
  cases e1 : fs S with
  | none => rw [e1] at e; cases e
  | some o =>
    obtain ⟨r1, S1⟩ := o
    rw [e1] at e
    simp only [Option.bind_some] at e
    cases r1 with
    | ex c => cases e; exact ⟨S, F, _, _, R, e1, kk⟩
    | ok l =>
      simp only at e
      cases e2 : valsOf l with
      | none => rw [e2] at e; cases e
      | some ts =>
        rw [e2] at e
        simp only [Option.bind_some] at e
        by_cases hl : ts.length ≤ 100000
        · rw [if_pos hl] at e
          cases e
          refine ⟨S, F, _, _, R, e1, fun vs H1 F1 G1 R1 A1 d1 al1 u1 => ?_⟩
          obtain ⟨len, Gs, h1, h3, h4⟩ := A1.vals e2
          refine ⟨sz5 (by omega), fun p hp => ?_⟩
          have s := upd_new (o := mk vs) hp
          have npG : ¬ G1 p := fun g => al1 p g hp
          refine kk _ _ F1 (FU (fun a => a = p) G1) ⟨R1.same s, .nd (Fs := Gs) (hk _ p vs upd_same) len (fun _ => ⟨.inl rfl, fun i z => npG (h4 i p z)⟩) (fun i v t q1 q2 => (h1 i v t q1 q2).same s) h3 fun i a z => .inr (h4 i a z), ?_, ?_, ?_⟩
          · rintro a f (z | z)
            · rw [z] at f; exact R1.al p f hp
            · exact d1 a f z
          · rintro a (z | z)
            · rw [z, upd_same]; exact fun q => nomatch q
            · exact same_al s (al1 a z)
          · refine u1.trans ⟨Ke.of_same _ s, fun a z => ?_⟩
            rcases z with z | z | z
            · exact .inl (.inl z)
            · exact .inr (by rw [z]; exact hp)
            · exact .inl (.inr z)
        · rw [if_neg hl] at e; cases e
theorem e_lst {es : List Expr} {fs : AF} (h : PA X es (rdA Γ ar W fs)) : PE X (.List es pos) (rdE Γ ar W (eDisp .lst fs)) := PE.imp (pe_lst h) fun _ _ _ q => disp_ok (k := .lst) (mk := HO.lst) (fun _ _ _ e => e) q
def nTup (gs : BAF) : BF := fun S => (gs S).bind fun l => (valsOf l).bind fun ts => gd (ts.length ≤ 100000 ∧ T.imAll ts = true) (.nd .tup ts)
theorem n_tup {es : List Expr} {x1} {gs : BAF} (h : PA X es (rdBA Γ ar gs)) : PE X (.Tuple es x1 pos) (rdN Γ ar (nTup gs)) := PE.imp (pe_tup h) fun σ H Q q => by
  obtain ⟨S, F, t, R, e, k⟩ := q
  unfold nTup at e
  cases e1 : gs S with
  | none => rw [e1] at e; cases e
  | some l =>
    rw [e1] at e
    simp only [Option.bind_some] at e
    cases e2 : valsOf l with
    | none => rw [e2] at e; cases e
    | some ts =>
      rw [e2] at e
      obtain ⟨⟨c1, c2⟩, rfl⟩ := gd_some.mp e
      refine ⟨S, F, l, R, e1, fun vs H1 G1 s1 A1 n1 => ?_⟩
      obtain ⟨len, Gs, h1, h3, h4⟩ := A1.vals e2
      refine ⟨sz5 (by omega), fun p hp => ?_⟩
      obtain ⟨s, r, n⟩ := new_tup (Γ := Γ) (G := G1) hp len (fun i v t q1 q2 => (h1 i v t q1 q2).mono (h4 i)) c2
      exact k _ _ FE (s1.trans s) r (n.back s1)
end
end VT
namespace VT
open PySem L2
section
variable {Γ : Gx} {ar : Fx} {W : WX} {X : Cx} {a b e : Expr} {pos p : Pos} {ga gb : BF} {fa fb : EF}
def argTrees : TSt → List Arg → Option (List T)
  | _, [] => some []
  | S, .val t :: as => (argTrees S as).bind fun ts => some (t :: ts)
  | S, .pth i p :: as => (sl S i).bind fun t => (tAt p t).bind fun u => (argTrees (S.set i none) as).bind fun ts => some (u :: ts)
def putBack : TSt → List Arg → List T → TSt
  | S, [], _ => S
  | S, .val _ :: as, ts => putBack S as ts.tail
  | S, .pth i p :: as, ts => match sl S i, ts.head? with
    | some t, some u => (putBack (S.set i none) as ts.tail).set i (some (tPut p t u))
    | _, _ => putBack (S.set i none) as ts.tail
theorem RepS.mono {H : Hp} {σ : St} {S : TSt} {F F' : FP} (h : RepS Γ ar H σ S F) (s : ∀ a, F a → F' a) (al : ∀ a, F' a → H a ≠ none) : RepS Γ ar H σ S F' := by
  obtain ⟨len, arg, ⟨Fs, h1, h2, h3⟩, _⟩ := h
  exact ⟨len, arg, ⟨Fs, h1, h2, fun i a z => s a (h3 i a z)⟩, al⟩
theorem got {H : Hp} {σ : St} : ∀ (as : List Arg) {S : TSt} {F : FP} {vs : List V} {ts : List T}, RepS Γ ar H σ S F → vs.length = as.length →
    (∀ (j : Nat) (v : V) (i : Nat) (p : List Nat), vs[j]? = some v → as[j]? = some (.pth i p) → ∃ v0, σ[i]? = some (some v0) ∧ vAt H p v0 = some v) → argTrees S as = some ts →
    ∃ Ps : Nat → FP, ts.length = as.length ∧ (∀ (j : Nat) (u : T), as[j]? = some (.val u) → ts[j]? = some u) ∧
      (∀ (j : Nat) (v : V) (t : T) (i : Nat) (p : List Nat), vs[j]? = some v → ts[j]? = some t → as[j]? = some (.pth i p) → Rep Γ H v t (Ps j)) ∧ (∀ i j a, i ≠ j → Ps i a → Ps j a → False) ∧ (∀ j a, Ps j a → F a) ∧
      ∀ H' (ts' : List T) (Qs : Nat → FP), ts'.length = as.length → (∀ b o, F b → (∀ j, ¬ Ps j b) → H b = some o → H' b = some o) → (∀ b o, Im o → H b = some o → H' b = some o) →
        (∀ (j : Nat) (v : V) (t : T) (i : Nat) (p : List Nat), vs[j]? = some v → ts'[j]? = some t → as[j]? = some (.pth i p) → Rep Γ H' v t (Qs j)) → (∀ i j a, i ≠ j → Qs i a → Qs j a → False) →
        (∀ j a, Qs j a → (∃ m, Ps m a) ∨ ¬ F a) → (∀ j a, Qs j a → H' a ≠ none) →
        ∃ F', RepS Γ ar H' σ (putBack S as ts') F' ∧ ∀ a, F' a → (F a ∧ ∀ j, ¬ Ps j a) ∨ ∃ j, Qs j a
  | [], S, F, vs, ts, R, hl, hp, e => by
    cases e
    refine ⟨fun _ => FE, rfl, fun j u z => by simp at z, fun j v t i p _ z => by simp at z, fun _ _ _ _ z => z.elim, fun _ _ z => z.elim, fun H' ts' Qs l2 kp im r d nw al => ⟨F, ?_, fun a f => .inl ⟨f, fun _ z => z⟩⟩⟩
    obtain ⟨len, arg, ⟨Fs, h1, h2, h3⟩, al0⟩ := R
    refine ⟨len, arg, ⟨Fs, fun i t q => ?_, h2, h3⟩, fun a f => ?_⟩
    · obtain ⟨v, ev, rv⟩ := h1 i t q
      exact ⟨v, ev, rv.frame (fun a o f q => kp a o (h3 i a f) (fun _ z => z) q) im⟩
    · cases q : H a with
      | none => exact absurd q (al0 a f)
      | some o => rw [kp a o f (fun _ z => z) q]; exact fun z => nomatch z
  | .val u :: as, S, F, vs, ts, R, hl, hp, e => by
    unfold argTrees at e
    cases e1 : argTrees S as with
    | none => rw [e1] at e; cases e
    | some ts1 =>
      rw [e1] at e
      cases e
      match vs, hl with
      | v :: vs, hl =>
        obtain ⟨Ps, l1, a0, a1, a2, a3, back⟩ := got as R (vs := vs) (by simpa using hl) (fun j w i p q1 q2 => hp (j + 1) w i p (by simpa using q1) (by simpa using q2)) e1
        refine ⟨fun j => match j with | 0 => FE | j + 1 => Ps j, by simp [l1], fun j w q => ?_, fun j w t i p q1 q2 q3 => ?_, fun i j a ne z z' => ?_, fun j a z => ?_, fun H' ts' Qs l2 kp im r d nw al => ?_⟩
        · cases j with
          | zero => simp at q ⊢; exact q
          | succ j => simp at q ⊢; exact a0 j w q
        · cases j with
          | zero => simp at q3
          | succ j => exact a1 j w t i p (by simpa using q1) (by simpa using q2) (by simpa using q3)
        · cases i with
          | zero => exact z
          | succ i =>
            cases j with
            | zero => exact z'
            | succ j => exact a2 i j a (fun q => ne (by rw [q])) z z'
        · cases j with
          | zero => exact z.elim
          | succ j => exact a3 j a z
        · match ts', l2 with
          | t' :: ts', l2 =>
            obtain ⟨F', R', sub⟩ := back H' ts' (fun j => Qs (j + 1)) (by simpa using l2) (fun b o f n q => kp b o f (fun j => match j with | 0 => fun z => z | j + 1 => n j) q) im (fun j w t i p q1 q2 q3 => r (j + 1) w t i p (by simpa using q1) (by simpa using q2) (by simpa using q3))
              (fun i j a ne z z' => d (i + 1) (j + 1) a (by omega) z z') (fun j a z => (nw (j + 1) a z).elim (fun ⟨m, z⟩ => match m, z with | 0, z => z.elim | m + 1, z => .inl ⟨m, z⟩) .inr) fun j a z => al (j + 1) a z
            refine ⟨F', R', fun a f => (sub a f).elim (fun ⟨f, n⟩ => .inl ⟨f, fun j => match j with | 0 => fun z => z | j + 1 => n j⟩) fun ⟨j, z⟩ => .inr ⟨j + 1, z⟩⟩
  | .pth i p :: as, S, F, vs, ts, R, hl, hp, e => by
    unfold argTrees at e
    cases e0 : sl S i with
    | none => rw [e0] at e; cases e
    | some t0 =>
      rw [e0] at e
      simp only [Option.bind_some] at e
      cases e1 : tAt p t0 with
      | none => rw [e1] at e; cases e
      | some u0 =>
        rw [e1] at e
        simp only [Option.bind_some] at e
        cases e2 : argTrees (S.set i none) as with
        | none => rw [e2] at e; cases e
        | some ts1 =>
          rw [e2] at e
          cases e
          match vs, hl with
          | v :: vs, hl =>
            obtain ⟨v0, F1, Gi, ev, rv, R1, d1, s1, s2⟩ := R.take (sl_some.mp e0)
            obtain ⟨v1, G, b1, b2, b3, bk⟩ := VT.focus p rv e1
            obtain ⟨v0', q1, q2⟩ := hp 0 v i p rfl rfl
            have ee : v0 = v0' := Option.some.inj (Option.some.inj (ev.symm.trans q1))
            subst ee
            have ee : v1 = v := Option.some.inj (b1.symm.trans q2)
            subst ee
            obtain ⟨Ps, l1, a0, a1, a2, a3, back⟩ := got as R1 (vs := vs) (by simpa using hl) (fun j w i p q1 q2 => hp (j + 1) w i p (by simpa using q1) (by simpa using q2)) e2
            refine ⟨fun j => match j with | 0 => G | j + 1 => Ps j, by simp [l1], fun j w q => ?_, fun j w t i' p' q1 q2 q3 => ?_, fun i' j a ne z z' => ?_, fun j a z => ?_, fun H' ts' Qs l2 kp im r d nw al => ?_⟩
            · cases j with
              | zero => simp at q
              | succ j => simp at q ⊢; exact a0 j w q
            · cases j with
              | zero =>
                simp at q1 q2
                subst q1 q2
                exact b2
              | succ j => exact a1 j w t i' p' (by simpa using q1) (by simpa using q2) (by simpa using q3)
            · cases i' with
              | zero =>
                cases j with
                | zero => exact ne rfl
                | succ j => exact d1 a (a3 j a z') (b3 a z)
              | succ i' =>
                cases j with
                | zero => exact d1 a (a3 i' a z) (b3 a z')
                | succ j => exact a2 i' j a (fun q => ne (by rw [q])) z z'
            · cases j with
              | zero => exact s2 a (b3 a z)
              | succ j => exact s1 a (a3 j a z)
            · match ts', l2 with
              | t' :: ts', l2 =>
                have kpF1 : ∀ b o, F1 b → (∀ j, ¬ Ps j b) → H b = some o → H' b = some o := fun b o f n q => kp b o (s1 b f) (fun j => match j with | 0 => fun z => d1 b f (b3 b z) | j + 1 => n j) q
                obtain ⟨F', R', sub⟩ := back H' ts' (fun j => Qs (j + 1)) (by simpa using l2) kpF1 im (fun j w t i p q1 q2 q3 => r (j + 1) w t i p (by simpa using q1) (by simpa using q2) (by simpa using q3))
                  (fun i j a ne z z' => d (i + 1) (j + 1) a (by omega) z z') (fun j a z => (nw (j + 1) a z).elim (fun ⟨m, z⟩ => match m, z with | 0, z => .inr fun f => d1 a f (b3 a z) | m + 1, z => .inl ⟨m, z⟩) fun z => .inr fun f => z (s1 a f)) fun j a z => al (j + 1) a z
                have rb := bk H' t' (Qs 0) ⟨fun b o f n q => kp b o (s2 b f) (fun j => match j with | 0 => n | j + 1 => fun z => d1 b (a3 j b z) f) q, im⟩
                  (fun a z => (nw 0 a z).elim (fun ⟨m, z⟩ => match m, z with | 0, z => .inl z | m + 1, z => .inr fun f => d1 a (a3 m a z) f) fun z => .inr fun f => z (s2 a f)) (r 0 v1 t' i p rfl rfl rfl)
                have nP : ∀ a, Gi a → ∀ m, ¬ Ps m a := fun a g m z => d1 a (a3 m a z) g
                have dd : ∀ a, F' a → (Gi a ∧ ¬ G a) ∨ Qs 0 a → False := fun a f z => by
                  rcases sub a f with ⟨f, n⟩ | ⟨j, f⟩
                  · rcases z with z | z
                    · exact d1 a f z.1
                    · rcases nw 0 a z with ⟨m, y⟩ | y
                      · match m, y with
                        | 0, y => exact d1 a f (b3 a y)
                        | m + 1, y => exact n m y
                      · exact y (s1 a f)
                  · rcases z with z | z
                    · rcases nw (j + 1) a f with ⟨m, y⟩ | y
                      · match m, y with
                        | 0, y => exact z.2 y
                        | m + 1, y => exact nP a z.1 m y
                      · exact y (s2 a z.1)
                    · exact d 0 (j + 1) a (by omega) z f
                have alG : ∀ a, ((Gi a ∧ ¬ G a) ∨ Qs 0 a) → H' a ≠ none := fun a z => z.elim (fun z => by
                  cases q : H a with
                  | none => exact absurd q (R.al a (s2 a z.1))
                  | some o => rw [kp a o (s2 a z.1) (fun j => match j with | 0 => z.2 | j + 1 => nP a z.1 j) q]; exact fun y => nomatch y) (al 0 a)
                have Rg := R'.give ev rb dd alG
                refine ⟨fun a => F' a ∨ ((Gi a ∧ ¬ G a) ∨ Qs 0 a), ?_, fun a f => ?_⟩
                · show RepS Γ ar H' σ (putBack S (.pth i p :: as) (t' :: ts')) _
                  unfold putBack
                  rw [e0]
                  exact Rg
                · rcases f with f | f | f
                  · rcases sub a f with ⟨f, n⟩ | ⟨j, f⟩
                    · exact .inl ⟨s1 a f, fun j => match j with | 0 => fun z => d1 a f (b3 a z) | j + 1 => n j⟩
                    · exact .inr ⟨j + 1, f⟩
                  · exact .inl ⟨s2 a f.1, fun j => match j with | 0 => f.2 | j + 1 => nP a f.1 j⟩
                  · exact .inr ⟨0, f⟩
abbrev MF := List T → Option (Rs T × List T)
abbrev RepA (Γ : Gx) (H : Hp) (vs : List V) (ts : List T) (F : FP) : Prop := RepS Γ (fun i => vs[i]?) H (vs.map some) (ts.map some) F
def spT (Γ : Gx) (n : Nat) (m : MF) : Sp := fun vs H Q E => ∃ ts F r ts', vs.length = n ∧ RepA Γ H vs ts F ∧ m ts = some (r, ts') ∧ (match r with
  | .ok t => ∀ v H' F' G, RepA Γ H' vs ts' F' → Rep Γ H' v t G → (∀ a, F' a → G a → False) → (∀ a, G a → H' a ≠ none) → Upd H H' F (FU F' G) → Q v H'
  | .ex c => ∀ H' F', RepA Γ H' vs ts' F' → Upd H H' F F' → E (.ref (Γ.cl c)) none H')
theorem repA_get {H : Hp} {vs : List V} {ts : List T} {F : FP} (R : RepA Γ H vs ts F) : vs.length = ts.length ∧ ∃ Fs : Nat → FP, (∀ (j : Nat) (v : V) (t : T), vs[j]? = some v → ts[j]? = some t → Rep Γ H v t (Fs j)) ∧ (∀ i j a, i ≠ j → Fs i a → Fs j a → False) ∧ (∀ i a, Fs i a → F a) ∧ ∀ a, F a → H a ≠ none := by
  obtain ⟨len, arg, ⟨Fs, h1, h2, h3⟩, al⟩ := R
  refine ⟨by simpa using len.symm, Fs, fun j v t e1 e2 => ?_, h2, h3, al⟩
  obtain ⟨w, ew, r⟩ := h1 j t (by rw [List.getElem?_map, e2]; rfl)
  rw [List.getElem?_map, e1] at ew
  have q : v = w := Option.some.inj (Option.some.inj ew)
  rw [q]
  exact r
def Arg.isP : Arg → Bool
  | .val _ => false
  | .pth _ _ => true
/-- the heart of a call: the arguments' things ahead of it, and all behind it -/
theorem call_core {H : Hp} {σ : St} {S : TSt} {F Gv : FP} {vs : List V} {as : List Arg} {ts : List T} (R : RepS Γ ar H σ S F) (A : ArgsP Γ H σ vs as Gv) (d : ∀ a, F a → Gv a → False) (alv : ∀ a, Gv a → H a ≠ none) (e1 : argTrees S as = some ts) :
    ∃ Fa, RepA Γ H vs ts Fa ∧ (∀ a, Fa a → F a ∨ Gv a) ∧ ∀ {H' : Hp} {ts' : List T} {F' G : FP}, ts'.length = as.length → RepA Γ H' vs ts' F' → (∀ a, F' a → G a → False) → Upd H H' Fa (FU F' G) →
      ∃ (F'' : FP) (Fs' : Nat → FP), RepS Γ ar H' σ (putBack S as ts') F'' ∧ (∀ a, F'' a → G a → False) ∧ Upd H H' (FU F Gv) (FU (FU F'' G) (fun a => ∃ (j : Nat) (x : Arg), as[j]? = some x ∧ x.isP = false ∧ Fs' j a)) ∧
        (∀ (j : Nat) (v : V) (t : T), vs[j]? = some v → ts'[j]? = some t → Rep Γ H' v t (Fs' j)) ∧ (∀ i j a, i ≠ j → Fs' i a → Fs' j a → False) ∧ (∀ (j : Nat) (x : Arg) (a : Addr), as[j]? = some x → x.isP = false → Fs' j a → F'' a → False) ∧ (∀ j a, Fs' j a → G a → False) ∧ ∀ j a, Fs' j a → H' a ≠ none := by
  obtain ⟨len, Gs, g1, g2, g3, g4⟩ := A
  obtain ⟨Ps, l1, a0, a1, a2, a3, back⟩ := got as R len g2 e1
  have key : ∀ j v t, vs[j]? = some v → ts[j]? = some t → Rep Γ H v t (FU (Ps j) (Gs j)) := fun j v t q1 q2 => by
    have hj : j < as.length := by rw [← len]; exact (List.getElem?_eq_some_iff.mp q1).1
    cases q3 : as[j]? with
    | none => rw [List.getElem?_eq_none_iff] at q3; omega
    | some x =>
      cases x with
      | val u =>
        have q4 := a0 j u q3
        rw [q2] at q4
        cases q4
        exact (g1 j v t q1 q3).mono fun _ z => .inr z
      | pth i p => exact (a1 j v t i p q1 q2 q3).mono fun _ z => .inl z
  have hd : ∀ i j a, i ≠ j → FU (Ps i) (Gs i) a → FU (Ps j) (Gs j) a → False := fun i j a ne z z' => by
    rcases z with z | z <;> rcases z' with z' | z'
    · exact a2 i j a ne z z'
    · exact d a (a3 i a z) (g4 j a z')
    · exact d a (a3 j a z') (g4 i a z)
    · exact g3 i j a ne z z'
  refine ⟨fun a => ∃ j, FU (Ps j) (Gs j) a, ?_, fun a ⟨j, z⟩ => z.elim (fun z => .inl (a3 j a z)) fun z => .inr (g4 j a z), fun {H' ts' F' G} hlen R' dG u => ?_⟩
  · refine ⟨by rw [List.length_map, List.length_map, l1, len], fun i v q => by rw [List.getElem?_map, q]; rfl, ⟨fun j => FU (Ps j) (Gs j), fun j t q => ?_, hd, fun j a z => ⟨j, z⟩⟩, fun a ⟨j, z⟩ => z.elim (fun z => R.al a (a3 j a z)) fun z => alv a (g4 j a z)⟩
    rw [List.getElem?_map] at q
    cases q2 : ts[j]? with
    | none => rw [q2] at q; cases q
    | some t2 =>
      rw [q2] at q
      cases q
      have hj : j < vs.length := by rw [len, ← l1]; exact (List.getElem?_eq_some_iff.mp q2).1
      exact ⟨vs[j], by rw [List.getElem?_map, List.getElem?_eq_getElem hj]; rfl, key j _ _ (List.getElem?_eq_getElem hj) q2⟩
  · obtain ⟨lA, Fs', k1, k2, k3, k4⟩ := repA_get R'
    have nw : ∀ a, FU F' G a → (∃ m, Ps m a) ∨ ¬ F a := fun a z => by
      rcases u.new a z with ⟨m, z | z⟩ | z
      · exact .inl ⟨m, z⟩
      · exact .inr fun f => d a f (g4 m a z)
      · exact .inr fun f => R.al a f z
    obtain ⟨F'', R'', sub⟩ := back H' ts' (fun j a => (∃ x, as[j]? = some x ∧ x.isP = true) ∧ Fs' j a) hlen (fun b o f n q => u.keep b o q fun ⟨j, z⟩ => z.elim (n j) fun z => d b f (g4 j b z)) u.imm
      (fun j v t i p q1 q2 q3 => (k1 j v t q1 q2).mono fun a z => ⟨⟨_, q3, rfl⟩, z⟩) (fun i j a ne z z' => k2 i j a ne z.2 z'.2) (fun j a z => nw a (.inl (k3 j a z.2))) fun j a z => k4 a (k3 j a z.2)
    have aux : ∀ a, FU F' G a → FU F Gv a ∨ H a = none := fun a z => (u.new a z).elim (fun ⟨j, z⟩ => .inl (z.elim (fun z => .inl (a3 j a z)) fun z => .inr (g4 j a z))) .inr
    refine ⟨F'', Fs', R'', fun a f g => ?_, ⟨⟨fun b o q n => u.keep b o q fun ⟨j, z⟩ => n (z.elim (fun z => .inl (a3 j b z)) fun z => .inr (g4 j b z)), u.imm⟩, fun a z => ?_⟩, k1, k2, fun j x a q1 q2 z f => ?_, fun j a z g => dG a (k3 j a z) g, fun j a z => k4 a (k3 j a z)⟩
    · rcases sub a f with ⟨f, nn⟩ | ⟨j, f⟩
      · rcases nw a (.inr g) with ⟨m, z⟩ | z
        · exact nn m z
        · exact z f
      · exact dG a (k3 j a f.2) g
    · rcases z with (z | z) | ⟨j, x, _, _, z⟩
      · rcases sub a z with ⟨f, _⟩ | ⟨j, f⟩
        · exact .inl (.inl f)
        · exact aux a (.inl (k3 j a f.2))
      · exact aux a (.inr z)
      · exact aux a (.inl (k3 j a z))
    · rcases sub a f with ⟨f, nn⟩ | ⟨m, f⟩
      · rcases nw a (.inl (k3 j a z)) with ⟨m, y⟩ | y
        · exact nn m y
        · exact y f
      · by_cases hm : m = j
        · subst hm
          obtain ⟨⟨x', q3, q4⟩, _⟩ := f
          rw [q1] at q3
          cases q3
          rw [q2] at q4
          cases q4
        · exact k2 m j a hm f.2 z
def callR (m : MF) (n : Nat) (S : TSt) (as : List Arg) : Option (Rs T × TSt) := if as.length = n then (argTrees S as).bind fun ts => (m ts).bind fun rt => if rt.2.length = n then some (rt.1, putBack S as rt.2) else none else none
theorem call_ok {H : Hp} {σ : St} {S : TSt} {F Gv : FP} {vs : List V} {as : List Arg} {m : MF} {n : Nat} {r : Rs T} {S' : TSt} {Q : VK} {E : XK} (R : RepS Γ ar H σ S F) (A : ArgsP Γ H σ vs as Gv) (d : ∀ a, F a → Gv a → False) (alv : ∀ a, Gv a → H a ≠ none)
    (e : callR m n S as = some (r, S'))
    (hk : ∀ t, r = .ok t → ∀ v H' F' G, RepS Γ ar H' σ S' F' → Rep Γ H' v t G → (∀ a, F' a → G a → False) → (∀ a, G a → H' a ≠ none) → Upd H H' (FU F Gv) (FU F' G) → Q v H')
    (hx : ∀ c, r = .ex c → ∀ H' F', RepS Γ ar H' σ S' F' → Upd H H' (FU F Gv) F' → E (.ref (Γ.cl c)) none H') : spT Γ n m vs H Q E := by
  unfold callR at e
  by_cases hn : as.length = n
  · rw [if_pos hn] at e
    cases e1 : argTrees S as with
    | none => rw [e1] at e; cases e
    | some ts =>
      rw [e1] at e
      simp only [Option.bind_some] at e
      cases e2 : m ts with
      | none => rw [e2] at e; cases e
      | some rt =>
        obtain ⟨r0, ts'⟩ := rt
        rw [e2] at e
        simp only [Option.bind_some] at e
        by_cases hlen : ts'.length = n
        · rw [if_pos hlen] at e
          have e3 : (r0, putBack S as ts') = (r, S') := Option.some.inj e
          obtain ⟨Fa, RA, sA, fin⟩ := call_core R A d alv e1
          refine ⟨ts, Fa, r0, ts', A.len.trans hn, RA, e2, ?_⟩
          cases r0 with
          | ok t =>
            cases e3
            intro v H' F' G R' rv dG alG u
            obtain ⟨F'', Fs', R'', d'', u'', _⟩ := fin (hlen.trans hn.symm) R' dG u
            exact hk t rfl v H' F'' G R'' rv d'' alG (u''.sub fun a z => .inl z)
          | ex c =>
            cases e3
            intro H' F' R' u
            obtain ⟨F'', Fs', R'', d'', u'', _⟩ := fin (G := FE) (hlen.trans hn.symm) R' (fun _ _ z => z) (u.sub fun a z => z.elim id fun z => z.elim)
            exact hx c rfl H' F'' R'' (u''.sub fun a z => .inl (.inl z))
        · rw [if_neg hlen] at e; cases e
  · rw [if_neg hn] at e; cases e
def eCall (m : MF) (n : Nat) (fs : AF) : EF := fun S => (fs S).bind fun rx => match rx with
  | (.ex c, S1) => some (.ex c, S1)
  | (.ok as, S1) => callR m n S1 as
theorem tCall_ok {m : MF} {n : Nat} {fs : AF} {σ : St} {H : Hp} {Q : VK} (q : rdE Γ ar W (eCall m n fs) σ H Q) :
    rdA Γ ar W fs σ H fun vs H1 => spT Γ n m vs H1 Q (WE W σ) := by
  obtain ⟨S, F, r, S', R, e, k⟩ := q
  unfold eCall at e
  cases e1 : fs S with
  | none => rw [e1] at e; cases e
  | some o =>
    obtain ⟨r1, S1⟩ := o
    rw [e1] at e
    simp only [Option.bind_some] at e
    cases r1 with
    | ex c => cases e; exact ⟨S, F, _, _, R, e1, k⟩
    | ok as =>
      simp only at e
      refine ⟨S, F, _, _, R, e1, fun vs H1 F1 G1 R1 A1 d1 al1 u1 => ?_⟩
      refine call_ok R1 A1 d1 al1 e (fun t et v H' F' G R' rv d al u => ?_) fun c ec H' F' R' u => ?_
      · subst et
        exact k v H' F' G ⟨R', rv, d, al, u1.trans u⟩
      · subst ec
        exact k H' F' R' (u1.trans u)
structure DefOk (P : Program) (w : World) (Γ : Gx) (mg : Str → Option Value) (base : Heap) (k : Nat) (x : Str) (n : Nat) (m : MF) : Prop where
  ex : ∃ f fd ps, FnOk P w Γ.K mg base (L2N.CX P w) k f fd ps (spT Γ n m) ∧ mg x = some (.ref f) ∧ PySem.W.keepIn Γ.K (.ref f) = true ∧ Binds Γ.K fd ps []
structure MethOk (P : Program) (w : World) (Γ : Gx) (mg : Str → Option Value) (base : Heap) (k : Nat) (c : Nat) (x : Str) (n : Nat) (m : MF) : Prop where
  ex : ∃ f fd ps, FnOk P w Γ.K mg base (L2N.CX P w) k f fd ps (spT Γ n m) ∧ Cls Γ.K (Γ.cl c) ∧ Meth Γ.K (Γ.cl c) x f ∧ Binds Γ.K fd ps []
structure MakeOk (P : Program) (w : World) (Γ : Gx) (mg : Str → Option Value) (base : Heap) (k : Nat) (c : Nat) (x : Str) (n : Nat) (m : MF) : Prop where
  ex : ∃ f fd ps, FnOk P w Γ.K mg base (L2N.CX P w) k f fd ps (spT Γ n m) ∧ mg x = some (.ref (Γ.cl c)) ∧ Mk Γ.K (Γ.cl c) f ∧ Binds Γ.K fd ps []
theorem e_call {k n : Nat} {x : Str} {m : MF} {es : List Expr} {fs : AF} (D : DefOk X.prog X.w Γ X.mg X.base k x n m) (hr : Room k X.A) (tk : L2N.Takes X W) (ha : PA X (e :: es) (rdA Γ ar W fs)) (hK : X.K = Γ.K := by rfl) (hg : Gl X x := by rfl) (hdb : (x == ("__debug__" : Str)) = false := by decide)
    (he : starEach (e :: es) X.env = (false, eval e X.env) :: starEach es X.env := by rfl) (hpl : (backTo pos (starEach es X.env)).any (·.1) = false := by rfl) : PE X (.Call (.Name x p) (e :: es) [] pos) (rdE Γ ar W (eCall m n fs)) := by
  obtain ⟨f, fd, ps, F, hm, hk, hb⟩ := D.ex
  rw [← hK] at F hk hb
  exact PE.imp (pe_callS F hr hg hm hk hb (fun σ => L2N.passAt tk σ) ha hdb he hpl) fun σ H Q q => tCall_ok q
end
end VT
namespace VT
open PySem L2
theorem passN {X : Cx} : Passes (L2N.CX X.prog X.w) X E0 := fun _ _ _ _ _ _ _ h => by
  obtain ⟨a, B, H', cls, d, h1, h2, h3, h4, h5, h6, h7, z⟩ := h
  exact z.elim
section
variable {Γ : Gx} {ar : Fx} {W : WX} {X : Cx} {a b e o : Expr} {pos p apos : Pos} {ga gb : BF} {fa fb : EF} {es : List Expr}
theorem lookup_zip_none {x : Str} : ∀ {ns : List Str} {vs : List V}, x ∉ ns → (ns.zip vs).lookup x = none
  | [], _, _ => rfl
  | _ :: _, [], _ => rfl
  | n :: ns, v :: vs, h => by
    have h1 : x ≠ n := fun e => h (by rw [e]; exact List.mem_cons_self)
    have h2 : x ∉ ns := fun e => h (List.mem_cons_of_mem _ e)
    show (match x == n with | true => some v | false => (ns.zip vs).lookup x) = none
    rw [beq_eq_false_iff_ne.mpr h1]
    exact lookup_zip_none h2
/-- an instance stands there -/
theorem Rep.ins {H : Hp} {x : V} {c : Nat} {ns : List Str} {ts : List T} {G : FP} (h : Rep Γ H x (.nd (.obj c ns) ts) G) : ∃ a dx vs, x = .ref a ∧ H a = some (.ins (Γ.cl c) dx (ns.zip vs)) ∧ ns.length = vs.length := by
  cases h with
  | nd hat hl hm hc hd hs =>
    obtain ⟨l, dx, e⟩ := hat
    exact ⟨_, dx, _, rfl, e, l⟩
def tMethE (C : Addr) (m : Str) (sp : Sp) (E : St → XK) (ta : TE) (t : TA) : TE := fun σ H Q => ta σ H fun x H1 => ∃ a dx fs, x = .ref a ∧ H1 a = some (.ins C dx fs) ∧ fs.lookup m = none ∧ t σ H1 fun vs H2 => sp (x :: vs) H2 Q (E σ)
theorem pe_methE {CX : CXT} {k : Nat} {f C : Addr} {fd : FuncData} {ps : List Str} {sp : Sp} {E : St → XK} {m : Str} {ta : TE} {t : TA} {pl : Sem Bool} (he : PE X o ta) (c : Cls X.K C) (hm : Meth X.K C m f) (F : FnOk X.prog X.w X.K X.mg X.base CX k f fd ps sp) (hr : Room k X.A)
    (hb : Binds X.K fd ps []) (hx : ∀ σ, PassesAt CX X σ (E σ)) (ha : PA X (e :: es) t) (hst : starEach (e :: es) X.env = (false, eval e X.env) :: starEach es X.env) (hpl : (backTo pos (starEach es X.env)).any (·.1) = false)
    (ht : eval (.Call (.Attribute o m apos) (e :: es) [] pos) X.env = (do let ov ← eval o X.env; standAt apos.atName; let (g, one) ← holding [ov] (getMethod ov m pl); callWith pos g one (backTo pos (starEach (e :: es) X.env)) (backToKw pos (keywordEach [] X.env)))) :
    PE X (.Call (.Attribute o m apos) (e :: es) [] pos) (tMethE C m sp E ta t) := by
  refine ⟨fun pins s σ H Q I h => ?_⟩
  refine PySem.W.methodCall_KW (pl := pl) (thn (he.run pins s σ H _ I h) fun u s1 hu => ?_) ht
  obtain ⟨x, H1, I1, rx, a, dx, fs, ex, ea, l, q⟩ := hu
  subst ex
  have eu : u = Value.ref a := rx
  subst eu
  refine getmeth_ok I1 ea c hm l ?_
  refine PySem.W.callWith_K (first := [.ref a]) (h₀ := X.base) I.ok.mod.kin hm.kp (thn (ha.run pos pins s1 σ H1 _ I1 q) fun us s2 hus => ?_) hst hpl
  obtain ⟨vs, H2, I2, r, q2⟩ := hus
  exact ⟨I2.kIn, run_fnS (us := .ref a :: us) (vs := .ref a :: vs) F hr hb (hx σ) I2 (.cons rfl r) q2⟩
theorem pe_methE0 {CX : CXT} {k : Nat} {f C : Addr} {fd : FuncData} {ps : List Str} {sp : Sp} {E : St → XK} {m : Str} {ta : TE} {pl : Sem Bool} (he : PE X o ta) (c : Cls X.K C) (hm : Meth X.K C m f) (F : FnOk X.prog X.w X.K X.mg X.base CX k f fd ps sp) (hr : Room k X.A)
    (hb : Binds X.K fd ps []) (hx : ∀ σ, PassesAt CX X σ (E σ))
    (ht : eval (.Call (.Attribute o m apos) [] [] pos) X.env = (do let ov ← eval o X.env; standAt apos.atName; let (g, one) ← holding [ov] (getMethod ov m pl); callWith pos g one (backTo pos (starEach [] X.env)) (backToKw pos (keywordEach [] X.env)))) :
    PE X (.Call (.Attribute o m apos) [] [] pos) (tMethE C m sp E ta tNil) := by
  refine ⟨fun pins s σ H Q I h => ?_⟩
  refine PySem.W.methodCall_KW (pl := pl) (thn (he.run pins s σ H _ I h) fun u s1 hu => ?_) ht
  obtain ⟨x, H1, I1, rx, a, dx, fs, ex, ea, l, q⟩ := hu
  subst ex
  have eu : u = Value.ref a := rx
  subst eu
  refine getmeth_ok I1 ea c hm l ?_
  exact PySem.W.callWith_K0 (first := [.ref a]) I1.kIn hm.kp (run_fnS (us := [.ref a]) (vs := [.ref a]) F hr hb (hx σ) I1 (.cons rfl .nil) q)
/-- an instance of the class c, without an attribute x -/
def isObj (c : Nat) (x : Str) : T → Bool
  | .nd (.obj c' ns) _ => c' == c && !(ns.contains x)
  | _ => false
theorem isObj_of {c : Nat} {x : Str} {t : T} (h : isObj c x t = true) : ∃ ns ts, t = .nd (.obj c ns) ts ∧ x ∉ ns := by
  unfold isObj at h
  split at h
  · rw [Bool.and_eq_true] at h
    have h1 := beq_iff_eq.mp h.1
    subst h1
    refine ⟨_, _, rfl, fun m => ?_⟩
    have h2 := h.2
    rw [List.contains_iff_mem.mpr m] at h2
    cases h2
  · cases h
/-- x.m(..), x a name; the arguments with effects -/
def eMeth (m : MF) (n c : Nat) (x : Str) (i : Nat) (fs : AF) : EF := fun S => (sl S i).bind fun t => if isObj c x t = true then (fs S).bind fun rx => match rx with
  | (.ex k, S1) => some (.ex k, S1)
  | (.ok as, S1) => callR m n S1 (.pth i [] :: as) else none
theorem e_meth {k n c : Nat} (i : Nat) {x y : Str} {m : MF} {fs : AF} {pos' : Pos} {pl : Sem Bool} (D : MethOk X.prog X.w Γ X.mg X.base k c x n m) (hr : Room k X.A) (tk : L2N.Takes X W) (ha : PA X (e :: es) (rdA Γ ar W fs)) (hK : X.K = Γ.K := by rfl)
    (hst : starEach (e :: es) X.env = (false, eval e X.env) :: starEach es X.env := by rfl) (hpl : (backTo pos (starEach es X.env)).any (·.1) = false := by rfl)
    (ht : eval (.Call (.Attribute (.Name y pos') x apos) (e :: es) [] pos) X.env = (do let ov ← eval (.Name y pos') X.env; standAt apos.atName; let (g, one) ← holding [ov] (getMethod ov x pl); callWith pos g one (backTo pos (starEach (e :: es) X.env)) (backToKw pos (keywordEach [] X.env))) := by rfl)
    (hN : X.N[i]? = some y := by rfl) (hv : Vis X.env.scope y := by first | exact Or.inl rfl | exact Or.inr (Or.inl rfl) | exact Or.inr (Or.inr rfl)) (hd : (y == ("__debug__" : Str)) = false := by decide) (hcd : (y == ("__classdict__" : Str)) = false := by decide) :
    PE X (.Call (.Attribute (.Name y pos') x apos) (e :: es) [] pos) (rdE Γ ar W (eMeth m n c x i fs)) := by
  obtain ⟨f, fd, ps, F, hc, hm, hb⟩ := D.ex
  rw [← hK] at F hc hm hb
  refine PE.imp (pe_methE (pe_var hN hv hd hcd) hc hm F hr hb (fun σ => L2N.passAt tk σ) ha hst hpl ht) fun σ H Q q => ?_
  obtain ⟨S, F, r, S', R, ee, kk⟩ := q
  unfold eMeth at ee
  cases e0 : sl S i with
  | none => rw [e0] at ee; cases ee
  | some t0 =>
    rw [e0] at ee
    simp only [Option.bind_some] at ee
    by_cases ho : isObj c x t0 = true
    · rw [if_pos ho] at ee
      obtain ⟨ns, ts, rfl, hx⟩ := isObj_of ho
      obtain ⟨v, ev, rv⟩ := R.slot (sl_some.mp e0)
      obtain ⟨a, dx, vs0, rfl, ha0, hl0⟩ := rv.ins
      refine ⟨_, ev, a, dx, _, rfl, ha0, lookup_zip_none hx, ?_⟩
      cases e1 : fs S with
      | none => rw [e1] at ee; cases ee
      | some o1 =>
        obtain ⟨r1, S1⟩ := o1
        rw [e1] at ee
        simp only [Option.bind_some] at ee
        cases r1 with
        | ex k => cases ee; exact ⟨S, F, _, _, R, e1, kk⟩
        | ok as =>
          simp only at ee
          refine ⟨S, F, _, _, R, e1, fun vs H1 F1 G1 R1 A1 d1 al1 u1 => ?_⟩
          refine call_ok R1 (A1.ref ev rfl) d1 al1 ee (fun t et v H' F' G R' rv d al u => ?_) fun c ec H' F' R' u => ?_
          · subst et
            exact kk v H' F' G ⟨R', rv, d, al, u1.trans u⟩
          · subst ec
            exact kk H' F' R' (u1.trans u)
    · rw [if_neg ho] at ee; cases ee
/-- place.m(..); the arguments read only -/
def eMethP (m : MF) (n c : Nat) (x : Str) (pl : PF) (gs : BAF) : EF := fun S => (pl S).bind fun ip => (sl S ip.1).bind fun t => (tAt ip.2 t).bind fun u => if isObj c x u = true then (gs S).bind fun as => callR m n S (.pth ip.1 ip.2 :: as) else none
theorem methP_ok {m : MF} {n c : Nat} {x : Str} {pl : PF} {gs : BAF} {σ : St} {H : Hp} {Q : VK} (q : rdE Γ ar W (eMethP m n c x pl gs) σ H Q) :
    rdP Γ ar pl σ H fun v H1 => ∃ a dx fs, v = .ref a ∧ H1 a = some (.ins (Γ.cl c) dx fs) ∧ fs.lookup x = none ∧ rdBA Γ ar gs σ H1 fun vs H2 => spT Γ n m (v :: vs) H2 Q (WE W σ) := by
  obtain ⟨S, F, r, S', R, ee, kk⟩ := q
  unfold eMethP at ee
  cases e0 : pl S with
  | none => rw [e0] at ee; cases ee
  | some ip =>
    obtain ⟨i, p⟩ := ip
    rw [e0] at ee
    simp only [Option.bind_some] at ee
    cases e1 : sl S i with
    | none => rw [e1] at ee; cases ee
    | some t0 =>
      rw [e1] at ee
      simp only [Option.bind_some] at ee
      cases e2 : tAt p t0 with
      | none => rw [e2] at ee; cases ee
      | some u0 =>
        rw [e2] at ee
        simp only [Option.bind_some] at ee
        by_cases ho : isObj c x u0 = true
        · rw [if_pos ho] at ee
          obtain ⟨ns, ts, rfl, hx⟩ := isObj_of ho
          refine ⟨S, F, i, p, t0, _, R, e0, e1, e2, fun v0 v H1 h1 h2 s1 => ?_⟩
          obtain ⟨v0', ev, rv⟩ := R.slot (sl_some.mp e1)
          have ee0 : v0 = v0' := Option.some.inj (Option.some.inj (h1.symm.trans ev))
          subst ee0
          obtain ⟨v1, G, b1, b2, _, _⟩ := VT.focus p rv e2
          have ee1 : v = v1 := Option.some.inj (h2.symm.trans b1)
          subst ee1
          obtain ⟨a, dx, vs0, rfl, ha0, hl0⟩ := b2.ins
          refine ⟨a, dx, _, rfl, s1 _ _ ha0, lookup_zip_none hx, ?_⟩
          cases e3 : gs S with
          | none => rw [e3] at ee; cases ee
          | some as =>
            rw [e3] at ee
            have ee : callR m n S (.pth i p :: as) = some (r, S') := ee
            refine ⟨S, F, as, R.same s1, e3, fun vs H2 G2 s2 A2 n2 => ?_⟩
            have s12 := s1.trans s2
            refine call_ok (R.same s12) (A2.ref ev (vAt_same s12 b1)) (fun a f g => same_al s1 (R.al a f) (n2.1 a g)) n2.2 ee (fun t et v H' F' G R' rv d al u => ?_) fun c ec H' F' R' u => ?_
            · subst et
              refine kk v H' F' G ⟨R', rv, d, al, Upd.trans (F1 := FU F G2) ⟨Ke.of_same F s12, fun a z => z.elim .inl fun z => .inr (s1.free (n2.1 a z))⟩ u⟩
            · subst ec
              refine kk H' F' R' (Upd.trans (F1 := FU F G2) ⟨Ke.of_same F s12, fun a z => z.elim .inl fun z => .inr (s1.free (n2.1 a z))⟩ u)
        · rw [if_neg ho] at ee; cases ee
theorem e_methP0 {k n c : Nat} {x : Str} {m : MF} {plc : PF} {pl : Sem Bool} (D : MethOk X.prog X.w Γ X.mg X.base k c x n m) (hr : Room k X.A) (tk : L2N.Takes X W) (ho : PE X o (rdP Γ ar plc)) (hK : X.K = Γ.K := by rfl)
    (ht : eval (.Call (.Attribute o x apos) [] [] pos) X.env = (do let ov ← eval o X.env; standAt apos.atName; let (g, one) ← holding [ov] (getMethod ov x pl); callWith pos g one (backTo pos (starEach [] X.env)) (backToKw pos (keywordEach [] X.env))) := by rfl) :
    PE X (.Call (.Attribute o x apos) [] [] pos) (rdE Γ ar W (eMethP m n c x plc baNil)) := by
  obtain ⟨f, fd, ps, F, hc, hm, hb⟩ := D.ex
  rw [← hK] at F hc hm hb
  refine PE.imp (pe_methE0 ho hc hm F hr hb (fun σ => L2N.passAt tk σ) ht) fun σ H Q q => ?_
  obtain ⟨S, F, i, p, t0, t1, R, q1, q2, q3, k⟩ := methP_ok q
  refine ⟨S, F, i, p, t0, t1, R, q1, q2, q3, fun v0 v H' h1 h2 s => ?_⟩
  obtain ⟨a, dx, fs, e1, e2, e3, S2, F2, as, R2, e4, kk⟩ := k v0 v H' h1 h2 s
  cases e4
  exact ⟨a, dx, fs, e1, e2, e3, kk [] H' FE (Same.refl H') argsP_nil new_FE⟩
/-- C(..) -/
def eMake (m : MF) (n c : Nat) (fs : AF) : EF := fun S => (fs S).bind fun rx => match rx with
  | (.ex k, S1) => some (.ex k, S1)
  | (.ok as, S1) => if as.length + 1 = n then (argTrees S1 as).bind fun ts => (m (.nd (.obj c []) [] :: ts)).bind fun rt => match rt with
    | (.ok .non, t0 :: ts') => if ts'.length = as.length then some (.ok t0, putBack S1 as ts') else none
    | _ => none else none
theorem make_ok {m : MF} {n c : Nat} {fs : AF} {σ : St} {H : Hp} {Q : VK} (q : rdE Γ ar W (eMake m n c fs) σ H Q) :
    rdA Γ ar W fs σ H fun vs H1 => ∀ x dx, H1 x = none → H1 dx = none → dx ≠ x → spT Γ n m (.ref x :: (vs ++ [])) (upd (upd H1 dx (.own x)) x (.ins (Γ.cl c) dx [])) (fun v H2 => v = .non ∧ Q (.ref x) H2) E0 := by
  obtain ⟨S, F, r, S', R, ee, kk⟩ := q
  unfold eMake at ee
  cases e1 : fs S with
  | none => rw [e1] at ee; cases ee
  | some o =>
    obtain ⟨r1, S1⟩ := o
    rw [e1] at ee
    simp only [Option.bind_some] at ee
    cases r1 with
    | ex k => cases ee; exact ⟨S, F, _, _, R, e1, kk⟩
    | ok as =>
      simp only at ee
      refine ⟨S, F, _, _, R, e1, fun vs H1 F1 G1 R1 A1 d1 al1 u1 x dx hx hdx nx => ?_⟩
      by_cases hn : as.length + 1 = n
      · rw [if_pos hn] at ee
        cases e2 : argTrees S1 as with
        | none => rw [e2] at ee; cases ee
        | some ts =>
          rw [e2] at ee
          simp only [Option.bind_some] at ee
          cases e3 : m (.nd (.obj c []) [] :: ts) with
          | none => rw [e3] at ee; cases ee
          | some rt =>
            rw [e3] at ee
            simp only [Option.bind_some] at ee
            split at ee
            · rename_i t0 ts'
              by_cases hl : ts'.length = as.length
              · rw [if_pos hl] at ee
                cases ee
                rw [List.append_nil]
                have s0 : Same H1 (upd (upd H1 dx (.own x)) x (.ins (Γ.cl c) dx [])) := fun b u q => by rw [upd_ne (ne_of_none q hx), upd_ne (ne_of_none q hdx)]; exact q
                have rx : Rep Γ (upd (upd H1 dx (.own x)) x (.ins (Γ.cl c) dx [])) (.ref x) (.nd (.obj c []) []) (fun a => a = x) :=
                  .nd (Fs := fun _ => FE) (vs := []) ⟨rfl, dx, upd_same⟩ rfl (fun _ => ⟨rfl, fun _ z => z⟩) (fun i v t q => by simp at q) (fun _ _ _ _ z _ => z) fun _ _ z => z.elim
                have A2 := (A1.same s0).val rx fun a z g => by rw [z] at g; exact al1 x g hx
                have d2 : ∀ a, F1 a → FU (fun a => a = x) G1 a → False := fun a f g => g.elim (fun z => by rw [z] at f; exact R1.al x f hx) (d1 a f)
                have al2 : ∀ a, FU (fun a => a = x) G1 a → upd (upd H1 dx (.own x)) x (.ins (Γ.cl c) dx []) a ≠ none := fun a g => g.elim (fun z => by rw [z, upd_same]; exact fun q => nomatch q) fun z => same_al s0 (al1 a z)
                have e4 : argTrees S1 (.val (.nd (.obj c []) []) :: as) = some (.nd (.obj c []) [] :: ts) := by unfold argTrees; rw [e2]; rfl
                obtain ⟨Fa, RA, sA, fin⟩ := call_core (R1.same s0) A2 d2 al2 e4
                refine ⟨_, Fa, .ok .non, t0 :: ts', by rw [List.length_cons, A1.len]; exact hn, RA, e3, fun v H' F' G R' rv dG alG u => ?_⟩
                cases rv
                obtain ⟨F'', Fs', R'', d'', u'', k1, k2, k3, k4, k5⟩ := fin (by simp [hl]) R' dG u
                refine ⟨rfl, kk _ H' F'' (Fs' 0) ⟨R'', k1 0 _ t0 rfl rfl, fun a f g => k3 0 _ a rfl rfl g f, k5 0, ?_⟩⟩
                refine u1.trans (Upd.trans (F1 := FU F1 (FU (fun a => a = x) G1)) ⟨Ke.of_same _ s0, fun a z => ?_⟩ (u''.sub fun a z => ?_))
                · rcases z with z | z | z
                  · exact .inl (.inl z)
                  · exact .inr (by rw [z]; exact hx)
                  · exact .inl (.inr z)
                · rcases z with z | z
                  · exact .inl (.inl z)
                  · exact .inr ⟨0, _, rfl, rfl, z⟩
              · rw [if_neg hl] at ee; cases ee
            · cases ee
      · rw [if_neg hn] at ee; cases ee
theorem e_make0 {k n c : Nat} {x : Str} {m : MF} (D : MakeOk X.prog X.w Γ X.mg X.base k c x n m) (hr : Room (k + 1) X.A) (hK : X.K = Γ.K := by rfl) (hg : Gl X x := by rfl) (hdb : (x == ("__debug__" : Str)) = false := by decide) : PE X (.Call (.Name x p) [] [] pos) (rdE Γ ar W (eMake m n c aNil)) := by
  obtain ⟨f, fd, ps, F, hm, hM, hb⟩ := D.ex
  rw [← hK] at F hM hb
  refine PE.imp (pe_make0 hM F hr hg hm hb .nil passN hdb) fun σ H Q q => ?_
  obtain ⟨S, F, r, S', R, e1, k⟩ := make_ok q
  cases e1
  exact k [] H F FE R argsP_nil (fun _ _ z => z) (fun _ z => z.elim) ((Upd.refl H F).sub fun a z => z.elim id fun z => z.elim)
def sSeq (s u : SF) : SF := fun S => (s S).bind fun rx => match rx with
  | (.nx, S1) => u S1
  | (fl, S1) => some (fl, S1)
theorem rdS_after {σ : St} {H H1 : Hp} {F F1 : FP} {S1 : TSt} {u : SF} {fl : Fl} {S' : TSt} {D : Ends} (R1 : RepS Γ ar H1 σ S1 F1) (up : Upd H H1 F F1) (e : u S1 = some (fl, S')) (k : FlP Γ ar W D H F fl S') : rdS Γ ar W u D σ H1 := by
  refine ⟨S1, F1, fl, S', R1, e, ?_⟩
  cases fl with
  | nx => exact fun σ' H' F' R' u' => k σ' H' F' R' (up.trans u')
  | bk => exact fun σ' H' F' R' u' => k σ' H' F' R' (up.trans u')
  | ct => exact fun σ' H' F' R' u' => k σ' H' F' R' (up.trans u')
  | ex c => exact fun σ' H' F' R' u' => k σ' H' F' R' (up.trans u')
  | rt t => exact fun v σ' H' F' G o => k v σ' H' F' G ⟨o.rs, o.r, o.d, o.al, up.trans o.u⟩
variable {st : Stmt} {rest : List Stmt} {s u : SF}
theorem seq_ok {D : Ends} {σ : St} {H : Hp} (q : rdS Γ ar W (sSeq s u) D σ H) : rdS Γ ar W s { D with nx := rdS Γ ar W u D } σ H := by
  obtain ⟨S, F, fl, S', R, e, k⟩ := q
  unfold sSeq at e
  cases e1 : s S with
  | none => rw [e1] at e; cases e
  | some o =>
    obtain ⟨fl1, S1⟩ := o
    rw [e1] at e
    simp only [Option.bind_some] at e
    refine ⟨S, F, fl1, S1, R, e1, ?_⟩
    cases fl1 with
    | nx => exact fun σ' H' F' R' u' => rdS_after R' u' e k
    | bk => cases e; exact k
    | ct => cases e; exact k
    | ex c => cases e; exact k
    | rt t => cases e; exact k
theorem ss_cons (h1 : PS X st (rdS Γ ar W s)) (h2 : PSs X rest (rdS Γ ar W u)) : PSs X (st :: rest) (rdS Γ ar W (sSeq s u)) := PSs.imp (pss_cons h1 h2) fun D σ H q => seq_ok q
theorem ss_one (h1 : PS X st (rdS Γ ar W s)) : PSs X [st] (rdS Γ ar W s) := PSs.imp (pss_one h1) fun D σ H q => q
def sNil : SF := fun S => some (.nx, S)
theorem nil_ok {D : Ends} {σ : St} {H : Hp} (q : rdS Γ ar W sNil D σ H) : D.nx σ H := by
  obtain ⟨S, F, fl, S', R, e, k⟩ := q
  cases e
  exact k σ H F R (Upd.refl H F)
theorem ss_nil : PSs X [] (rdS Γ ar W sNil) := PSs.imp pss_nil fun D σ H q => nil_ok q
def sExpr (f : EF) : SF := fun S => (f S).bind fun rx => match rx with
  | (.ex c, S1) => some (.ex c, S1)
  | (.ok _, S1) => some (.nx, S1)
theorem expr_ok {D : Ends} {σ : St} {H : Hp} (q : rdS Γ ar W (sExpr fa) D σ H) : rdE Γ ar W fa σ H fun _ H1 => D.nx σ H1 := by
  obtain ⟨S, F, fl, S', R, e, k⟩ := q
  unfold sExpr at e
  cases e1 : fa S with
  | none => rw [e1] at e; cases e
  | some o =>
    obtain ⟨r1, S1⟩ := o
    rw [e1] at e
    simp only [Option.bind_some] at e
    cases r1 with
    | ex c => cases e; exact ⟨S, F, _, _, R, e1, fun H' F' R' u => k σ H' F' R' u⟩
    | ok t => cases e; exact ⟨S, F, _, _, R, e1, fun v H' F' G o => k σ H' F' o.rs (o.u.sub fun a z => .inl z)⟩
theorem s_expr (he : PE X e (rdE Γ ar W fa)) (hs : swapsWith e none pos.line X.env = pure false := by rfl) : PS X (.Expr e pos) (rdS Γ ar W (sExpr fa)) := PS.imp (ps_expr he hs) fun D σ H q => expr_ok q
def sRet (f : EF) : SF := fun S => (f S).bind fun rx => match rx with
  | (.ex c, S1) => some (.ex c, S1)
  | (.ok t, S1) => some (.rt t, S1)
theorem s_ret (he : PE X e (rdE Γ ar W fa)) : PS X (.Return (some e) pos) (rdS Γ ar W (sRet fa)) := PS.imp (ps_ret he) fun D σ H q => by
  obtain ⟨S, F, fl, S', R, e, k⟩ := q
  unfold sRet at e
  cases e1 : fa S with
  | none => rw [e1] at e; cases e
  | some o =>
    obtain ⟨r1, S1⟩ := o
    rw [e1] at e
    simp only [Option.bind_some] at e
    cases r1 with
    | ex c => cases e; exact ⟨S, F, _, _, R, e1, fun H' F' R' u => k σ H' F' R' u⟩
    | ok t => cases e; exact ⟨S, F, _, _, R, e1, fun v H' F' G o => k v σ H' F' G o⟩
def sSet (i : Nat) (f : EF) : SF := fun S => (f S).bind fun rx => match rx with
  | (.ex c, S1) => some (.ex c, S1)
  | (.ok t, S1) => some (.nx, S1.set i (some t))
theorem own_set {H H' : Hp} {F F' G : FP} {σ : St} {S' : TSt} {v : V} {t : T} {i : Nat} (hi : ar i = none) (o : Own Γ ar H F σ S' v t H' F' G) : RepS Γ ar H' (σ.set i (some v)) (S'.set i (some t)) (FU F' G) := o.rs.put hi o.r o.d o.al
theorem set_ok {i : Nat} (hi : ar i = none) {D : Ends} {σ : St} {H : Hp} (q : rdS Γ ar W (sSet i fa) D σ H) : rdE Γ ar W fa σ H fun v H1 => D.nx (σ.set i (some v)) H1 := by
  obtain ⟨S, F, fl, S', R, e, k⟩ := q
  unfold sSet at e
  cases e1 : fa S with
  | none => rw [e1] at e; cases e
  | some o =>
    obtain ⟨r1, S1⟩ := o
    rw [e1] at e
    simp only [Option.bind_some] at e
    cases r1 with
    | ex c => cases e; exact ⟨S, F, _, _, R, e1, fun H' F' R' u => k σ H' F' R' u⟩
    | ok t => cases e; exact ⟨S, F, _, _, R, e1, fun v H' F' G o => k _ H' _ (own_set hi o) o.u⟩
theorem s_set (i : Nat) {x : Str} {pos' : Pos} (hi' : ar i = none) (hN : X.N.Nodup) (he : PE X e (rdE Γ ar W fa)) (hi : X.N[i]? = some x := by rfl) (hx : Loc X.env.scope x := by first | exact Or.inl rfl | exact Or.inr rfl) (hs : swapsWith e (some (.Name x pos')) pos.line X.env = pure false := by rfl)
    (hf : X.fn x = true ∨ X.env.scope.names.lookup x = some .local := by first | exact .inl rfl | exact .inr rfl) : PS X (.Assign [.Name x pos'] e pos) (rdS Γ ar W (sSet i fa)) := PS.imp (ps_set hN hi hx he hs hf) fun D σ H q => set_ok hi' q
def sIf (f : EF) (s u : SF) : SF := fun S => (f S).bind fun rx => match rx with
  | (.ex c, S1) => some (.ex c, S1)
  | (.ok (.bl true), S1) => s S1
  | (.ok (.bl false), S1) => u S1
  | _ => none
theorem s_if {c : Expr} {sa sb : List Stmt} (hc : PT X c (rdT Γ ar W fa)) (ha : PSs X sa (rdS Γ ar W s)) (hb : PSs X sb (rdS Γ ar W u)) : PS X (.If c sa sb pos) (rdS Γ ar W (sIf fa s u)) := PS.imp (ps_if hc ha hb) fun D σ H q => by
  obtain ⟨S, F, fl, S', R, e, k⟩ := q
  unfold sIf at e
  cases e1 : fa S with
  | none => rw [e1] at e; cases e
  | some o =>
    rw [e1] at e
    simp only [Option.bind_some] at e
    split at e
    · cases e
      exact ⟨S, F, _, _, R, e1, fun H' F' R' u => k σ H' F' R' u⟩
    · exact bool_then R e1 fun H1 F1 R1 u1 => iteT (rdS_after R1 u1 e k)
    · exact bool_then R e1 fun H1 F1 R1 u1 => iteF (rdS_after R1 u1 e k)
    · cases e
def sRaise (c : Nat) : SF := fun S => some (.ex c, S)
theorem s_raise {c : Nat} {ee : Expr} (hc : X.calm = true) (tk : L2N.Takes X W) (hm : L2N.PMk X ee (fun _ H Q => Q (.ref (Γ.cl c)) none H)) : PS X (.Raise (some ee) none pos) (rdS Γ ar W (sRaise c)) := PS.imp (L2N.ps_raise hc tk hm) fun D σ H q => by
  obtain ⟨S, F, fl, S', R, e, k⟩ := q
  cases e
  exact k σ H F R (Upd.refl H F)
def allSome : List (Option T) → Option (List T)
  | [] => some []
  | none :: _ => none
  | some t :: l => (allSome l).bind fun ts => some (t :: ts)
theorem allSome_get : ∀ {l : List (Option T)} {ts : List T}, allSome l = some ts → l = ts.map some
  | [], ts, e => by cases e; rfl
  | none :: _, _, e => by cases e
  | some t :: l, ts, e => by
    unfold allSome at e
    cases e1 : allSome l with
    | none => rw [e1] at e; cases e
    | some us =>
      rw [e1] at e
      cases e
      rw [allSome_get e1]
      try rfl
def mBody (n N : Nat) (s : SF) : MF := fun ts => if ts.length = n then (s (ts.map some ++ List.replicate (N - n) none)).bind fun rx => (allSome (rx.2.take n)).bind fun ts' => match rx.1 with
  | .nx => some (.ok .non, ts')
  | .rt t => some (.ok t, ts')
  | .ex c => some (.ex c, ts')
  | _ => none else none
theorem repA_of {vs : List V} {H : Hp} {σ : St} {S : TSt} {F : FP} {ts : List T} (R : RepS Γ (fun i => vs[i]?) H σ S F) (e : allSome (S.take vs.length) = some ts) : RepA Γ H vs ts F := by
  obtain ⟨len, arg, ⟨Fs, h1, h2, h3⟩, al⟩ := R
  have e' := allSome_get e
  have hlen : vs.length ≤ σ.length := by
    by_cases h0 : vs.length = 0
    · omega
    · have q := arg (vs.length - 1) (vs[vs.length - 1]'(by omega)) (List.getElem?_eq_getElem (by omega))
      have := (List.getElem?_eq_some_iff.mp q).1
      omega
  have l2 : ts.length = vs.length := by
    have q := congrArg List.length e'
    rw [List.length_map, List.length_take, len] at q
    omega
  refine ⟨by rw [List.length_map, List.length_map, l2], fun i v q => by rw [List.getElem?_map, q]; rfl, ⟨Fs, fun i t q => ?_, h2, h3⟩, al⟩
  have hi : i < vs.length := by
    rw [List.getElem?_map] at q
    cases q2 : ts[i]? with
    | none => rw [q2] at q; cases q
    | some t2 => rw [← l2]; exact (List.getElem?_eq_some_iff.mp q2).1
  have q3 : S[i]? = some (some t) := by
    rw [← e', List.getElem?_take, if_pos hi] at q
    exact q
  obtain ⟨v, ev, r⟩ := h1 i t q3
  have q4 := arg i vs[i] (List.getElem?_eq_getElem hi)
  rw [ev] at q4
  have q5 : v = vs[i] := Option.some.inj (Option.some.inj q4)
  exact ⟨v, by rw [List.getElem?_map, List.getElem?_eq_getElem hi, q5]; rfl, r⟩
theorem repS_start {vs : List V} {H : Hp} {ts : List T} {F : FP} (R : RepA Γ H vs ts F) (N : List Str) : RepS Γ (fun i => vs[i]?) H (L2.start N vs) (ts.map some ++ List.replicate (N.length - vs.length) none) F := by
  obtain ⟨len, arg, ⟨Fs, h1, h2, h3⟩, al⟩ := R
  have l2 : ts.length = vs.length := by simpa using len
  refine ⟨by unfold L2.start; simp [l2], fun i v q => ?_, ⟨Fs, fun i t q => ?_, h2, h3⟩, al⟩
  · have hi : i < vs.length := (List.getElem?_eq_some_iff.mp q).1
    unfold L2.start
    rw [List.getElem?_append_left (by rw [List.length_map]; exact hi), List.getElem?_map, q]
    try rfl
  · by_cases hi : i < ts.length
    · rw [List.getElem?_append_left (by rw [List.length_map]; exact hi)] at q
      obtain ⟨v, ev, r⟩ := h1 i t q
      refine ⟨v, ?_, r⟩
      unfold L2.start
      rw [List.getElem?_append_left (by rw [List.length_map, ← l2]; exact hi)]
      exact ev
    · rw [List.getElem?_append_right (by rw [List.length_map]; omega)] at q
      have q2 := List.eq_of_mem_replicate (List.mem_of_getElem? q)
      cases q2
theorem fn_okT {P : Program} {w : World} {mg : Str → Option Value} {base : Heap} {x qual : Str} {f : Addr} {fd : FuncData} {N ps : List Str} {k : Nat} {body : SF} (F : Fun Γ.K x qual st f fd) (S : FnScope N ps (defScope st))
    (hbody : ∀ (cdv : Value) (A : Around) (outer : List Env) (s : Shared) (H : Hp) (E : XK) (ar : Fx), Room k (A.deeper (PyProof.Rows.envOfC qual (defScope st) s.heap.objs.size f cdv)) → (∀ i, ps.length ≤ i → ar i = none) →
      PSs (cxOf (L2N.CX P w) P w Γ.K mg base N qual (defScope st) f cdv A outer s H E) (defBody st) (rdS Γ ar (fun cls d _ H => E cls d H) body)) : FnOk P w Γ.K mg base (L2N.CX P w) (k + 1) f fd ps (spT Γ ps.length (mBody ps.length N.length body)) := by
  obtain ⟨xc, xd, xk, dc, pq, na, cdv, tc, zs, rfl, lk, hcd⟩ := F.ex
  refine fn_of (CX := L2N.CX P w) lk hcd S (fun vs H Q E h => ?_) (fun A outer s H vs Q E hr h => ?_)
  · obtain ⟨ts, F, r, ts', hl, _⟩ := h
    exact hl
  · obtain ⟨ts, F, r, ts', hl, RA, e, kk⟩ := h
    refine ⟨_, hbody cdv A outer s H E (fun i => vs[i]?) hr fun i hi => List.getElem?_eq_none (by omega), ?_⟩
    unfold mBody at e
    have l2 : ts.length = ps.length := by rw [← hl]; exact (repA_get RA).1.symm
    rw [if_pos l2] at e
    have R0 := repS_start RA N
    rw [hl] at R0
    cases e1 : body (ts.map some ++ List.replicate (N.length - ps.length) none) with
    | none => rw [e1] at e; cases e
    | some rx =>
      obtain ⟨fl, S'⟩ := rx
      rw [e1] at e
      simp only [Option.bind_some] at e
      cases e2 : allSome (S'.take ps.length) with
      | none => rw [e2] at e; cases e
      | some ts2 =>
        rw [e2] at e
        simp only [Option.bind_some] at e
        refine ⟨_, F, fl, S', R0, e1, ?_⟩
        rw [← hl] at e2
        cases fl with
        | nx =>
          cases e
          exact fun σ' H' F' R' u => kk .non H' F' FE (repA_of R' e2) .non (fun _ _ z => z) (fun _ z => z.elim) (u.sub fun a z => z.elim id fun z => z.elim)
        | rt t =>
          cases e
          exact fun v σ' H' F' G o => kk v H' F' G (repA_of o.rs e2) o.r o.d o.al o.u
        | ex c =>
          cases e
          exact fun σ' H' F' R' u => kk H' F' (repA_of R' e2) u
        | bk => cases e
        | ct => cases e
end
end VT
namespace VT
open PySem L2
section
variable {Γ : Gx} {ar : Fx} {W : WX} {X : Cx} {a b e o : Expr} {pos p apos : Pos} {ga gb g : BF} {fa fb : EF} {es : List Expr} {pl : PF}
theorem tAt_app : ∀ (p : List Nat) {t : T} {j : Nat}, tAt (p ++ [j]) t = (tAt p t).bind fun u => tAt [j] u
  | [], t, j => rfl
  | i :: p, .nd k ts, j => by
    show (if k.mu = true then ts[i]?.bind fun t => tAt (p ++ [j]) t else none) = (if k.mu = true then ts[i]?.bind fun t => tAt p t else none).bind _
    by_cases h : k.mu = true
    · rw [if_pos h, if_pos h]
      cases ts[i]? with
      | none => rfl
      | some u => exact tAt_app p
    · rw [if_neg h, if_neg h]; rfl
  | _ :: _, .non, _ => rfl
  | _ :: _, .bl _, _ => rfl
  | _ :: _, .int _, _ => rfl
  | _ :: _, .str _, _ => rfl
theorem vAt_app {H : Hp} : ∀ (p : List Nat) {v : V} {j : Nat}, vAt H (p ++ [j]) v = (vAt H p v).bind fun u => vAt H [j] u
  | [], v, j => rfl
  | i :: p, .ref a, j => by
    show (H a).bind _ = ((H a).bind _).bind _
    cases H a with
    | none => rfl
    | some o =>
      show (VT.kids o)[i]?.bind _ = ((VT.kids o)[i]?.bind _).bind _
      cases (VT.kids o)[i]? with
      | none => rfl
      | some u => exact vAt_app p
  | _ :: _, .non, _ => rfl
  | _ :: _, .bl _, _ => rfl
  | _ :: _, .int _, _ => rfl
  | _ :: _, .str _, _ => rfl
  | _ :: _, .byt _, _ => rfl
  | _ :: _, .flt _, _ => rfl
  | _ :: _, .ty _, _ => rfl
/-- the value at a place stands for the tree there -/
theorem RepS.place {H : Hp} {σ : St} {S : TSt} {F : FP} {i : Nat} {p : List Nat} {t u : T} (R : RepS Γ ar H σ S F) (e0 : sl S i = some t) (e1 : tAt p t = some u) : ∃ v0 v G, σ[i]? = some (some v0) ∧ vAt H p v0 = some v ∧ Rep Γ H v u G := by
  obtain ⟨v0, ev, rv⟩ := R.slot (sl_some.mp e0)
  obtain ⟨v1, G, b1, b2, _, _⟩ := VT.focus p rv e1
  exact ⟨v0, v1, G, ev, b1, b2⟩
/-- a step down from a place -/
theorem step_down {H : Hp} {σ : St} {S : TSt} {F : FP} {i j : Nat} {p : List Nat} {t u w : T} {k : Kd} {ts : List T} {Q : VK} (R : RepS Γ ar H σ S F) (e0 : sl S i = some t) (e1 : tAt (p ++ [j]) t = some w) (ek : tAt p t = some (.nd k ts))
    (kk : ∀ v0 v H', σ[i]? = some (some v0) → vAt H (p ++ [j]) v0 = some v → Same H H' → Q v H') (v0 v : V) (h1 : σ[i]? = some (some v0)) (h2 : vAt H p v0 = some v) :
    ∃ a vs vj, v = .ref a ∧ At Γ H k a vs ∧ vs.length = ts.length ∧ vs[j]? = some vj ∧ ∀ H', Same H H' → Q vj H' := by
  obtain ⟨v0', v1, G, ev, b1, b2⟩ := R.place e0 ek
  have q1 : v0 = v0' := Option.some.inj (Option.some.inj (h1.symm.trans ev))
  subst q1
  have q2 : v = v1 := Option.some.inj (h2.symm.trans b1)
  subst q2
  rw [tAt_app, ek] at e1
  simp only [Option.bind_some, tAt] at e1
  by_cases mu : k.mu = true
  · rw [if_pos mu] at e1
    cases e2 : ts[j]? with
    | none => rw [e2] at e1; cases e1
    | some w' =>
      cases b2 with
      | @nd _ _ a vs _ Fs hat hl hm hc hd hs =>
        have hj : j < ts.length := (List.getElem?_eq_some_iff.mp e2).1
        have ej : vs[j]? = some (vs[j]'(by omega)) := List.getElem?_eq_getElem (by omega)
        refine ⟨a, vs, _, rfl, hat, hl, ej, fun H' s => kk v0 _ H' h1 ?_ s⟩
        rw [vAt_app, h2]
        obtain ⟨ob, ho, hko⟩ := hat.kids mu
        show (H a).bind _ = _
        rw [ho]
        show (VT.kids ob)[j]?.bind _ = _
        rw [hko, ej]
        try rfl
  · rw [if_neg mu] at e1; cases e1
def ixOf (f : Str) : List Str → Option Nat
  | [] => none
  | n :: ns => if n = f then some 0 else (ixOf f ns).map (· + 1)
theorem lookup_ix {f : Str} : ∀ {ns : List Str} {vs : List V} {j : Nat} {v : V}, ixOf f ns = some j → vs[j]? = some v → (ns.zip vs).lookup f = some v
  | [], _, _, _, e, _ => by cases e
  | n :: ns, [], j, v, _, e => by simp at e
  | n :: ns, w :: vs, j, v, e, e2 => by
    unfold ixOf at e
    show (match f == n with | true => some w | false => (ns.zip vs).lookup f) = some v
    by_cases h : n = f
    · rw [if_pos h] at e
      cases e
      rw [beq_iff_eq.mpr h.symm]
      simpa using e2
    · rw [if_neg h] at e
      cases e3 : ixOf f ns with
      | none => rw [e3] at e; cases e
      | some j' =>
        rw [e3] at e
        cases e
        rw [beq_eq_false_iff_ne.mpr fun z => h z.symm]
        exact lookup_ix e3 (by simpa using e2)
def pFld (ct : Nat → List Str) (f : Str) (pl : PF) : PF := fun S => (pl S).bind fun ip => (sl S ip.1).bind fun t => (tAt ip.2 t).bind fun u => match u with
  | .nd (.obj c ns) _ => if (ct c).contains f = true then (ixOf f ns).bind fun j => some (ip.1, ip.2 ++ [j]) else none
  | _ => none
theorem p_fld {f : Str} (he : PE X e (rdP Γ ar pl)) (hb : attributeBase e f X.env (eval e X.env) = eval e X.env := by rfl) (hK : X.K = Γ.K := by rfl) : PE X (.Attribute e f pos) (rdP Γ ar (pFld Γ.ct f pl)) := by
  refine PE.imp (pe_fld he hb) fun σ H Q q => ?_
  obtain ⟨S, F, i, p', t, t1, R, ep, e0, e1, kk⟩ := q
  unfold pFld at ep
  cases q1 : pl S with
  | none => rw [q1] at ep; cases ep
  | some ip =>
    obtain ⟨i', p⟩ := ip
    rw [q1] at ep
    simp only [Option.bind_some] at ep
    cases q2 : sl S i' with
    | none => rw [q2] at ep; cases ep
    | some t' =>
      rw [q2] at ep
      simp only [Option.bind_some] at ep
      cases q3 : tAt p t' with
      | none => rw [q3] at ep; cases ep
      | some u =>
        rw [q3] at ep
        simp only [Option.bind_some] at ep
        split at ep
        · rename_i c ns ts
          by_cases hc : (Γ.ct c).contains f = true
          · rw [if_pos hc] at ep
            cases q4 : ixOf f ns with
            | none => rw [q4] at ep; cases ep
            | some j =>
              rw [q4] at ep
              cases ep
              rw [e0] at q2
              cases q2
              refine ⟨S, F, i, p, t, _, R, q1, e0, q3, fun v0 v H' h1 h2 s => ?_⟩
              obtain ⟨a, vs, vj, rfl, hat, hl, hj, fin⟩ := step_down (u := .non) R e0 e1 q3 kk v0 v h1 h2
              obtain ⟨l, dx, ha⟩ := hat
              obtain ⟨o1, o2⟩ := Γ.ok c f (List.contains_iff_mem.mp hc)
              rw [hK]
              exact ⟨a, _, dx, _, vj, rfl, s _ _ ha, o1, o2, lookup_ix q4 hj, fin H' s⟩
          · rw [if_neg hc] at ep; cases ep
        · cases ep
abbrev MuF := T → List T → Option (T × T)
def MutT (Γ : Gx) (r : V → List V → Hp → VK → Prop) (m : MuF) : Prop := ∀ (H : Hp) (x : V) (u : T) (us : List T) (u' res : T) (G Gx : FP) (Gs : Nat → FP) (vs : List V) (Q : VK), Rep Γ H x u G → vs.length = us.length →
  (∀ (j : Nat) (v : V) (t : T), vs[j]? = some v → us[j]? = some t → Rep Γ H v t (Gs j)) → (∀ i j a, i ≠ j → Gs i a → Gs j a → False) → (∀ j a, Gs j a → Gx a) → (∀ a, G a → Gx a → False) → m u us = some (u', res) →
  (∀ v H' G' Gr, Ke H H' G → (∀ a, G' a ∨ Gr a → G a ∨ Gx a) → (∀ a, G' a → Gr a → False) → (∀ a, H a ≠ none → H' a ≠ none) → Rep Γ H' x u' G' → Rep Γ H' v res Gr → Q v H') → r x vs H Q
theorem mut_core {r : V → List V → Hp → VK → Prop} {m : MuF} (hm : MutT Γ r m) {H : Hp} {σ : St} {S : TSt} {F Gx : FP} {vs : List V} {as : List Arg} {us : List T} {i : Nat} {p : List Nat} {t0 u u' res : T} {v0 v : V} {Q : VK} (R : RepS Γ ar H σ S F) (A : ArgsP Γ H σ vs as Gx) (ev : valsOf as = some us)
    (d : ∀ a, F a → Gx a → False) (al : ∀ a, Gx a → H a ≠ none) (e0 : sl S i = some t0) (e1 : tAt p t0 = some u) (e2 : m u us = some (u', res)) (h0 : σ[i]? = some (some v0)) (h1 : vAt H p v0 = some v)
    (k : ∀ w H' F' G, RepS Γ ar H' σ (S.set i (some (tPut p t0 u'))) F' → Rep Γ H' w res G → (∀ a, F' a → G a → False) → (∀ a, G a → H' a ≠ none) → Upd H H' (FU F Gx) (FU F' G) → Q w H') : r v vs H Q := by
  obtain ⟨w0, F1, Gi, ev0, rv, R1, d1, s1, s2⟩ := R.take (sl_some.mp e0)
  have q1 : v0 = w0 := Option.some.inj (Option.some.inj (h0.symm.trans ev0))
  subst q1
  obtain ⟨v1, G, b1, b2, b3, back⟩ := VT.focus p rv e1
  have q2 : v = v1 := Option.some.inj (h1.symm.trans b1)
  subst q2
  obtain ⟨len, Gs, g1, g3, g4⟩ := A.vals ev
  refine hm H v u us u' res G Gx Gs vs Q b2 len g1 g3 g4 (fun a g x => d a (s2 a (b3 a g)) x) e2 fun w H' G' Gr ke sub dj alk r1 r2 => ?_
  have nG : ∀ a, Gx a → ¬ F a := fun a x f => d a f x
  have rb := back H' u' G' ke.kin (fun a z => (sub a (.inl z)).elim .inl fun z => .inr fun f => nG a z (s2 a f)) r1
  have dd : ∀ a, F1 a → (Gi a ∧ ¬ G a) ∨ G' a → False := fun a f z => z.elim (fun z => d1 a f z.1) fun z => (sub a (.inl z)).elim (fun z => d1 a f (b3 a z)) fun z => nG a z (s1 a f)
  have alG : ∀ a, (Gi a ∧ ¬ G a) ∨ G' a → H' a ≠ none := fun a z => alk a (z.elim (fun z => R.al a (s2 a z.1)) fun z => (sub a (.inl z)).elim (fun z => R.al a (s2 a (b3 a z))) (al a))
  have Rg := (R1.ke ke fun a f g => d1 a f (b3 a g)).give ev0 rb dd alG
  rw [List.set_set] at Rg
  refine k w H' _ Gr Rg r2 (fun a f g => ?_) (fun a g => alk a ((sub a (.inr g)).elim (fun z => R.al a (s2 a (b3 a z))) (al a))) ⟨⟨fun b o q n => ke.keep b o q fun z => n (.inl (s2 b (b3 b z))), ke.imm⟩, fun a z => ?_⟩
  · have g' := sub a (.inr g)
    rcases f with f | f | f
    · exact g'.elim (fun z => d1 a f (b3 a z)) fun z => nG a z (s1 a f)
    · exact g'.elim f.2 fun z => nG a z (s2 a f.1)
    · exact dj a f g
  · have aux : G' a ∨ Gr a → FU F Gx a ∨ H a = none := fun z => (sub a z).elim (fun z => .inl (.inl (s2 a (b3 a z)))) fun z => .inl (.inr z)
    rcases z with (z | z | z) | z
    · exact .inl (.inl (s1 a z))
    · exact .inl (.inl (s2 a z.1))
    · exact aux (.inl z)
    · exact aux (.inr z)
/-- a node is written -/
theorem node_upd {H : Hp} {a : Addr} {o' ob : HO} {k' : Kd} {vs' : List V} {ts' : List T} {Fs' : Nat → FP} (ha : H a = some ob) (nim : ¬ Im ob) (hat' : At Γ (upd H a o') k' a vs') (hl : vs'.length = ts'.length)
    (kd : ∀ (j : Nat) (v : V) (t : T), vs'[j]? = some v → ts'[j]? = some t → Rep Γ H v t (Fs' j)) (hd : ∀ i j a, i ≠ j → Fs' i a → Fs' j a → False) (na : ∀ j, ¬ Fs' j a) : Rep Γ (upd H a o') (.ref a) (.nd k' ts') (fun x => x = a ∨ ∃ j, Fs' j x) := by
  refine .nd (Fs := Fs') hat' hl (fun _ => ⟨.inl rfl, na⟩) (fun j v t e1 e2 => (kd j v t e1 e2).frame (fun b u f q => ?_) fun b u im q => ?_) hd fun j x z => .inr ⟨j, z⟩
  · have nb : b ≠ a := fun z => na j (by rw [← z]; exact f)
    rw [upd_ne nb]; exact q
  · have nb : b ≠ a := fun z => by rw [z, ha] at q; cases q; exact nim im
    rw [upd_ne nb]; exact q
theorem ke_upd {H : Hp} {a : Addr} {o' ob : HO} {G : FP} (ha : H a = some ob) (nim : ¬ Im ob) (g : G a) : Ke H (upd H a o') G :=
  ⟨fun b u q n => by
    have nb : b ≠ a := fun z => n (by rw [z]; exact g)
    rw [upd_ne nb]; exact q, fun b u im q => by
    have nb : b ≠ a := fun z => by rw [z, ha] at q; cases q; exact nim im
    rw [upd_ne nb]; exact q⟩
theorem al_upd {H : Hp} {a : Addr} {o' : HO} (b : Addr) (h : H b ≠ none) : upd H a o' b ≠ none := by
  by_cases e : b = a
  · rw [e, upd_same]; exact fun z => nomatch z
  · rw [upd_ne e]; exact h
def appM : MuF
  | .nd .lst ts, [t] => if ts.length < 100000 then some (.nd .lst (ts ++ [t]), .non) else none
  | _, _ => none
theorem appM_ok : MutT Γ rAppend appM := by
  intro H x u us u' res G Gx Gs vs Q r hl hg hd hs dj e k
  unfold appM at e
  split at e
  · rename_i ts t
    by_cases hz : ts.length < 100000
    · rw [if_pos hz] at e
      cases e
      cases r with
      | @nd _ _ a ws _ Fs hat hlw hm hc hdd hss =>
        have hat : H a = some (.lst ws) := hat
        match vs, hl with
        | [y], _ =>
          have ry := hg 0 y t rfl rfl
          have hlw : ws.length = ts.length := hlw
          refine ⟨a, ws, y, rfl, rfl, hat, sz5' (by omega), ?_⟩
          refine k _ _ (fun x => x = a ∨ ∃ j, (if j < ts.length then Fs j else if j = ts.length then Gs 0 else FE) x) FE (ke_upd hat (fun z => z) (hm rfl).1) (fun b z => ?_) (fun _ _ z => z) al_upd
            (node_upd hat (fun z => z) upd_same (by simp [hlw]) (fun j v t' q1 q2 => ?_) (fun i j b ne z z' => ?_) fun j z => ?_) .non
          · rcases z with (z | ⟨j, z⟩) | z
            · rw [z]; exact .inl (hm rfl).1
            · by_cases c1 : j < ts.length
              · rw [if_pos c1] at z; exact .inl (hss j b z)
              · rw [if_neg c1] at z
                by_cases c2 : j = ts.length
                · rw [if_pos c2] at z; exact .inr (hs 0 b z)
                · rw [if_neg c2] at z; exact z.elim
            · exact z.elim
          · by_cases c1 : j < ts.length
            · rw [if_pos c1]
              rw [List.getElem?_append_left (by omega)] at q1 q2
              exact hc j v t' q1 q2
            · have hj : j = ts.length := by
                have := (List.getElem?_eq_some_iff.mp q2).1
                simp at this
                omega
              subst hj
              rw [if_neg c1, if_pos rfl]
              simp at q2
              subst q2
              rw [← hlw] at q1
              simp at q1
              subst q1
              exact ry
          · have aux : ∀ m, m < ts.length → Fs m b → Gs 0 b → False := fun m _ f g => dj b (hss m b f) (hs 0 b g)
            by_cases c1 : i < ts.length
            · rw [if_pos c1] at z
              by_cases c2 : j < ts.length
              · rw [if_pos c2] at z'; exact hdd i j b ne z z'
              · rw [if_neg c2] at z'
                by_cases c3 : j = ts.length
                · rw [if_pos c3] at z'; exact aux i c1 z z'
                · rw [if_neg c3] at z'; exact z'
            · rw [if_neg c1] at z
              by_cases c3 : i = ts.length
              · rw [if_pos c3] at z
                by_cases c2 : j < ts.length
                · rw [if_pos c2] at z'; exact aux j c2 z' z
                · rw [if_neg c2, if_neg (by omega)] at z'; exact z'
              · rw [if_neg c3] at z; exact z
          · by_cases c1 : j < ts.length
            · rw [if_pos c1] at z; exact (hm rfl).2 j z
            · rw [if_neg c1] at z
              by_cases c2 : j = ts.length
              · rw [if_pos c2] at z; exact dj a (hm rfl).1 (hs 0 a z)
              · rw [if_neg c2] at z; exact z
    · rw [if_neg hz] at e; cases e
  · cases e
def popM : MuF
  | .nd .lst ts, [.int i] => if 0 ≤ i ∧ i < 100000 then (ts[i.toNat]?).bind fun t => some (.nd .lst (ts.eraseIdx i.toNat), t) else none
  | _, _ => none
theorem seqIx_nat {i : Int} {n : Nat} (h0 : 0 ≤ i) (h1 : i.toNat < n) : seqIndex? i n = some i.toNat := by
  unfold seqIndex?
  have e : (if i < 0 then i + (n : Int) else i) = i := if_neg (by omega)
  simp only [e]
  rw [if_pos (by simp; omega)]
theorem popM_ok : MutT Γ rPopAt popM := by
  intro H x u us u' res G Gx Gs vs Q r hl hg hd hs dj e k
  unfold popM at e
  split at e
  · rename_i ts i
    by_cases hz : 0 ≤ i ∧ i < 100000
    · rw [if_pos hz] at e
      cases e1 : ts[i.toNat]? with
      | none => rw [e1] at e; cases e
      | some t =>
        rw [e1] at e
        cases e
        cases r with
        | @nd _ _ a ws _ Fs hat hlw hm hc hdd hss =>
          have hat : H a = some (.lst ws) := hat
          have hlw : ws.length = ts.length := hlw
          have hi : i.toNat < ts.length := (List.getElem?_eq_some_iff.mp e1).1
          match vs, hl with
          | [y], _ =>
            have ry := hg 0 y _ rfl rfl
            cases ry
            have ew : ws[i.toNat]? = some (ws[i.toNat]'(by omega)) := List.getElem?_eq_getElem (by omega)
            have rr := hc _ _ _ ew e1
            refine ⟨a, ws, i, i.toNat, _, rfl, rfl, hat, by omega, by omega, seqIx_nat hz.1 (by omega), ew, ?_⟩
            refine k _ _ (fun x => x = a ∨ ∃ j, (if j < i.toNat then Fs j else Fs (j + 1)) x) (Fs i.toNat) (ke_upd hat (fun z => z) (hm rfl).1) (fun b z => ?_) (fun b z z' => ?_) al_upd
              (node_upd hat (fun z => z) upd_same (by rw [List.length_eraseIdx, List.length_eraseIdx, hlw]) (fun j v t' q1 q2 => ?_) (fun i' j b ne z z' => ?_) fun j z => ?_)
              (rr.frame (fun b u f q => by
                have nb : b ≠ a := fun z => (hm rfl).2 _ (by rw [← z]; exact f)
                rw [upd_ne nb]; exact q) fun b u im q => by
                have nb : b ≠ a := fun z => by rw [z, hat] at q; cases q; exact im
                rw [upd_ne nb]; exact q)
            · rcases z with (z | ⟨j, z⟩) | z
              · rw [z]; exact .inl (hm rfl).1
              · by_cases c1 : j < i.toNat
                · rw [if_pos c1] at z; exact .inl (hss j b z)
                · rw [if_neg c1] at z; exact .inl (hss _ b z)
              · exact .inl (hss _ b z)
            · rcases z with z | ⟨j, z⟩
              · rw [z] at z'; exact (hm rfl).2 _ z'
              · by_cases c1 : j < i.toNat
                · rw [if_pos c1] at z; exact hdd j _ b (by omega) z z'
                · rw [if_neg c1] at z; exact hdd (j + 1) _ b (by omega) z z'
            · rw [List.getElem?_eraseIdx] at q1 q2
              by_cases c1 : j < i.toNat
              · rw [if_pos c1] at q1 q2 ⊢; exact hc j v t' q1 q2
              · rw [if_neg c1] at q1 q2 ⊢; exact hc (j + 1) v t' q1 q2
            · by_cases c1 : i' < i.toNat
              · rw [if_pos c1] at z
                by_cases c2 : j < i.toNat
                · rw [if_pos c2] at z'; exact hdd i' j b ne z z'
                · rw [if_neg c2] at z'; exact hdd i' (j + 1) b (by omega) z z'
              · rw [if_neg c1] at z
                by_cases c2 : j < i.toNat
                · rw [if_pos c2] at z'; exact hdd (i' + 1) j b (by omega) z z'
                · rw [if_neg c2] at z'; exact hdd (i' + 1) (j + 1) b (by omega) z z'
            · by_cases c1 : j < i.toNat
              · rw [if_pos c1] at z; exact (hm rfl).2 j z
              · rw [if_neg c1] at z; exact (hm rfl).2 _ z
    · rw [if_neg hz] at e; cases e
  · cases e
end
end VT
namespace VT
open PySem L2
section
variable {Γ : Gx} {ar : Fx} {W : WX} {X : Cx} {a b e o : Expr} {pos p apos cpos : Pos} {ga gb g : BF} {fa fb : EF} {es : List Expr} {pl : PF}
def rRemD (K : PySem.W.Frag) : V → List V → Hp → VK → Prop := fun x vs H Q => ∃ (l : Addr) (xs : List V) (y : V) (ds : List PyData) (d : PyData) (j : Nat), x = .ref l ∧ vs = [y] ∧ H l = some (.lst xs) ∧ DpAll K H xs ds ∧ Dp K H y d ∧
  PyData.canLayAll0 ds = true ∧ SeqAt.shaped d = true ∧ SeqAt.dataPlace ds d = some j ∧ xs.length ≤ sizeLine ∧ Q .non (upd H l (.lst (xs.eraseIdx j)))
theorem mt_remD (hu : X.A.units + 65 < cLine) : MtM X "list.remove" (rRemD X.K) := by
  intro pins s σ H x vs v us Q I rx rv h
  obtain ⟨l, xs, y, ds, d, j, rfl, rfl, hH, hds, hd, c1, c2, hp, hz, q⟩ := h
  cases rx
  obtain ⟨u, rfl, ru⟩ := rv.one
  obtain ⟨z, its, n, r, hl, ee⟩ := I.lstM hH
  obtain ⟨as, r1⟩ := Dp.readsAll I ds xs its hds r
  obtain ⟨bs, r2⟩ := Dp.reads I d y u hd ru
  refine SeqAt.remove_list_data (vs := its.toArray) ⟨_, ee, rfl, n, rfl⟩ (by simpa using r1) r2 (PyData.plainAll_of_canLay0 ds c1) (PyData.plain_of_canLay0 d (SeqAt.canLay_of_shaped c2)) (PyProof.Rows.room_in_shaped c2 hu) hp (by rw [List.size_toArray, ← hl]; exact hz) ?_
  refine ⟨.non, _, I.lset (its' := its.eraseIdx j) hH ee ?_ (r.eraseIdx j) ?_, rfl, q⟩
  · show its.toArray.eraseIdxIfInBounds j = (its.eraseIdx j).toArray
    rw [List.eraseIdxIfInBounds_toArray]
  · have hle : (xs.eraseIdx j).length ≤ xs.length := by rw [List.length_eraseIdx]; split <;> omega
    omega
def isLst : T → Bool
  | .nd .lst _ => true
  | _ => false
theorem Rep.tyL {H : Hp} {x : V} {u : T} {G : FP} (h : Rep Γ H x u G) (hl : isLst u = true) : tyV Γ.K "list" x H := by
  unfold isLst at hl
  split at hl
  · obtain ⟨a, vs, rfl, ha, _, _⟩ := h.lstAt
    exact .inl ⟨rfl, vs, .inl (.inl ha)⟩
  · cases hl
def eMutP (m : MuF) (pl : PF) (gs : BAF) : EF := fun S => (pl S).bind fun ip => (sl S ip.1).bind fun t => (tAt ip.2 t).bind fun u => if isLst u = true then (gs S).bind fun as => (valsOf as).bind fun us => (m u us).bind fun ur => some (.ok ur.2, S.set ip.1 (some (tPut ip.2 t ur.1))) else none
theorem e_lmP {r : V → List V → Hp → VK → Prop} {m : MuF} {id : String} {name : Str} {gs : BAF} (hm : MutT Γ r m) (slot : Slot "list" name id) (hty : typeOf (.builtin id) = pure (.type "method_descriptor")) (mt : MtM X id r) (ho : PE X o (rdP Γ ar pl)) (ha : PA X (e :: es) (rdBA Γ ar gs)) (hK : X.K = Γ.K := by rfl)
    (hbase : attributeBase o name X.env (eval o X.env) = eval o X.env := by rfl)
    (hfew : ((backTo cpos (starEach (e :: es) X.env)).all (fun x => !x.1) && (backToKw cpos (keywordEach [] X.env)).all (fun x => x.1.isSome) && decide ((e :: es).length + ([] : List Keyword).length + (if ([] : List Keyword).isEmpty then 0 else 1) < 30)) = true := by rfl)
    (hline : (apos.endLine == cpos.line) = true := by rfl)
    (hst : starEach (e :: es) X.env = (false, eval e X.env) :: starEach es X.env := by rfl)
    (hpl : (backTo cpos (starEach es X.env)).any (·.1) = false := by rfl) :
    PE X (.Call (.Attribute o name apos) (e :: es) [] cpos) (rdE Γ ar W (eMutP m pl gs)) := by
  refine PE.imp (pe_bm PySem.F.plainAttrs_list slot hty mt ho ha hbase hfew hline hst hpl) fun σ H Q q => ?_
  obtain ⟨S, F, rr, S', R, ee, kk⟩ := q
  unfold eMutP at ee
  cases q1 : pl S with
  | none => rw [q1] at ee; cases ee
  | some ip =>
    obtain ⟨i, p⟩ := ip
    rw [q1] at ee
    simp only [Option.bind_some] at ee
    cases q2 : sl S i with
    | none => rw [q2] at ee; cases ee
    | some t =>
      rw [q2] at ee
      simp only [Option.bind_some] at ee
      cases q3 : tAt p t with
      | none => rw [q3] at ee; cases ee
      | some u =>
        rw [q3] at ee
        simp only [Option.bind_some] at ee
        by_cases hl : isLst u = true
        · rw [if_pos hl] at ee
          cases q4 : gs S with
          | none => rw [q4] at ee; cases ee
          | some as =>
            rw [q4] at ee
            simp only [Option.bind_some] at ee
            cases q5 : valsOf as with
            | none => rw [q5] at ee; cases ee
            | some us =>
              rw [q5] at ee
              simp only [Option.bind_some] at ee
              cases q6 : m u us with
              | none => rw [q6] at ee; cases ee
              | some ur =>
                obtain ⟨u', res⟩ := ur
                rw [q6] at ee
                cases ee
                refine ⟨S, F, i, p, t, u, R, q1, q2, q3, fun v0 v H1 h1 h2 s1 => ?_⟩
                obtain ⟨v0', v', G0, ev, b1, b2⟩ := R.place q2 q3
                have z0 : v0 = v0' := Option.some.inj (Option.some.inj (h1.symm.trans ev))
                subst z0
                have z1 : v = v' := Option.some.inj (h2.symm.trans b1)
                subst z1
                refine ⟨hK ▸ (b2.same s1).tyL hl, S, F, as, R.same s1, q4, fun vs H2 G2 s2 A2 n2 => ?_⟩
                have s12 := s1.trans s2
                refine mut_core hm (R.same s12) A2 q5 (fun a f g => same_al s1 (R.al a f) (n2.1 a g)) n2.2 q2 q3 q6 h1 (vAt_same s12 h2) fun w H' F' G R' rw' d al u => ?_
                exact kk w H' F' G ⟨R', rw', d, al, Upd.trans (F1 := FU F G2) ⟨Ke.of_same F s12, fun a z => z.elim .inl fun z => .inr (s1.free (n2.1 a z))⟩ u⟩
        · rw [if_neg hl] at ee; cases ee
/-- the list is a name's; the arguments with effects -/
def eMutV (m : MuF) (i : Nat) (fs : AF) : EF := fun S => (sl S i).bind fun t => if isLst t = true then (fs S).bind fun rx => match rx with
  | (.ex c, S1) => some (.ex c, S1)
  | (.ok as, S1) => (sl S1 i).bind fun u => (valsOf as).bind fun us => (m u us).bind fun ur => some (.ok ur.2, S1.set i (some ur.1)) else none
theorem e_lmV {r : V → List V → Hp → VK → Prop} {m : MuF} {id : String} {name y : Str} {fs : AF} {pos' : Pos} (i : Nat) (hm : MutT Γ r m) (slot : Slot "list" name id) (hty : typeOf (.builtin id) = pure (.type "method_descriptor")) (mt : MtM X id r) (ha : PA X (e :: es) (rdA Γ ar W fs)) (hK : X.K = Γ.K := by rfl)
    (hN : X.N[i]? = some y := by rfl) (hv : Vis X.env.scope y := by first | exact Or.inl rfl | exact Or.inr (Or.inl rfl) | exact Or.inr (Or.inr rfl)) (hd : (y == ("__debug__" : Str)) = false := by decide) (hcd : (y == ("__classdict__" : Str)) = false := by decide)
    (hbase : attributeBase (.Name y pos') name X.env (eval (.Name y pos') X.env) = eval (.Name y pos') X.env := by rfl)
    (hfew : ((backTo cpos (starEach (e :: es) X.env)).all (fun x => !x.1) && (backToKw cpos (keywordEach [] X.env)).all (fun x => x.1.isSome) && decide ((e :: es).length + ([] : List Keyword).length + (if ([] : List Keyword).isEmpty then 0 else 1) < 30)) = true := by rfl)
    (hline : (apos.endLine == cpos.line) = true := by rfl)
    (hst : starEach (e :: es) X.env = (false, eval e X.env) :: starEach es X.env := by rfl)
    (hpl : (backTo cpos (starEach es X.env)).any (·.1) = false := by rfl) :
    PE X (.Call (.Attribute (.Name y pos') name apos) (e :: es) [] cpos) (rdE Γ ar W (eMutV m i fs)) := by
  refine PE.imp (pe_bm PySem.F.plainAttrs_list slot hty mt (pe_var hN hv hd hcd) ha hbase hfew hline hst hpl) fun σ H Q q => ?_
  obtain ⟨S, F, rr, S', R, ee, kk⟩ := q
  unfold eMutV at ee
  cases q2 : sl S i with
  | none => rw [q2] at ee; cases ee
  | some t =>
    rw [q2] at ee
    simp only [Option.bind_some] at ee
    by_cases hl : isLst t = true
    · rw [if_pos hl] at ee
      obtain ⟨v, ev, rv⟩ := R.slot (sl_some.mp q2)
      refine ⟨v, ev, hK ▸ rv.tyL hl, ?_⟩
      cases q4 : fs S with
      | none => rw [q4] at ee; cases ee
      | some o1 =>
        obtain ⟨r1, S1⟩ := o1
        rw [q4] at ee
        simp only [Option.bind_some] at ee
        cases r1 with
        | ex c => cases ee; exact ⟨S, F, _, _, R, q4, kk⟩
        | ok as =>
          simp only at ee
          cases q3 : sl S1 i with
          | none => rw [q3] at ee; cases ee
          | some u =>
            rw [q3] at ee
            simp only [Option.bind_some] at ee
            cases q5 : valsOf as with
            | none => rw [q5] at ee; cases ee
            | some us =>
              rw [q5] at ee
              simp only [Option.bind_some] at ee
              cases q6 : m u us with
              | none => rw [q6] at ee; cases ee
              | some ur =>
                obtain ⟨u', res⟩ := ur
                rw [q6] at ee
                cases ee
                refine ⟨S, F, _, _, R, q4, fun vs H1 F1 G1 R1 A1 d1 al1 u1 => ?_⟩
                refine mut_core (p := []) hm R1 A1 q5 d1 al1 q3 rfl q6 ev rfl fun w H' F' G R' rw' d al u2 => ?_
                exact kk w H' F' G ⟨R', rw', d, al, u1.trans u2⟩
    · rw [if_neg hl] at ee; cases ee
def rPutF (K : PySem.W.Frag) (f : Str) : V → List V → Hp → VK → Prop := fun x vs H Q => ∃ a C dx fs y, x = .ref a ∧ vs = [y] ∧ H a = some (.ins C dx fs) ∧ Cls K C ∧ NoAttr K C f ∧ fs.length < 1000 ∧ Q .non (upd H a (.ins C dx (putF f y fs)))
def putFM (ct : Nat → List Str) (f : Str) : MuF
  | .nd (.obj c ns) ts, [t] => if (ct c).contains f = true ∧ ns.length < 1000 then (match ixOf f ns with
    | some j => some (.nd (.obj c ns) (ts.set j t), .non)
    | none => some (.nd (.obj c (ns ++ [f])) (ts ++ [t]), .non)) else none
  | _, _ => none
theorem putF_some {f : Str} {y : V} : ∀ {ns : List Str} {vs : List V} {j : Nat}, ns.length = vs.length → ixOf f ns = some j → putF f y (ns.zip vs) = ns.zip (vs.set j y)
  | [], _, _, _, e => by cases e
  | n :: ns, [], _, hl, _ => by simp at hl
  | n :: ns, v :: vs, j, hl, e => by
    unfold ixOf at e
    show (if n = f then _ else _) = _
    by_cases h : n = f
    · rw [if_pos h] at e
      cases e
      rw [if_pos h]
      subst h
      rfl
    · rw [if_neg h] at e
      cases e3 : ixOf f ns with
      | none => rw [e3] at e; cases e
      | some j' =>
        rw [e3] at e
        cases e
        rw [if_neg h]
        show (n, v) :: putF f y (ns.zip vs) = _
        rw [putF_some (by simpa using hl) e3]
        try rfl
theorem putF_none {f : Str} {y : V} : ∀ {ns : List Str} {vs : List V}, ns.length = vs.length → ixOf f ns = none → putF f y (ns.zip vs) = (ns ++ [f]).zip (vs ++ [y])
  | [], [], _, _ => rfl
  | [], _ :: _, hl, _ => by simp at hl
  | n :: ns, [], hl, _ => by simp at hl
  | n :: ns, v :: vs, hl, e => by
    unfold ixOf at e
    show (if n = f then _ else _) = _
    by_cases h : n = f
    · rw [if_pos h] at e; cases e
    · rw [if_neg h] at e
      cases e3 : ixOf f ns with
      | some j' => rw [e3] at e; cases e
      | none =>
        rw [if_neg h]
        show (n, v) :: putF f y (ns.zip vs) = _
        rw [putF_none (by simpa using hl) e3]
        try rfl
theorem ixOf_lt {f : Str} : ∀ {ns : List Str} {j : Nat}, ixOf f ns = some j → j < ns.length
  | [], _, e => by cases e
  | n :: ns, j, e => by
    unfold ixOf at e
    by_cases h : n = f
    · rw [if_pos h] at e; cases e; simp
    · rw [if_neg h] at e
      cases e3 : ixOf f ns with
      | none => rw [e3] at e; cases e
      | some j' =>
        rw [e3] at e
        cases e
        have := ixOf_lt e3
        simp
        omega
/-- one child is another one now -/
theorem set_kids {H : Hp} {ws : List V} {ts : List T} {Fs : Nat → FP} {G1 : FP} {j : Nat} {y : V} {t : T} (hc : ∀ (i : Nat) (v : V) (t : T), ws[i]? = some v → ts[i]? = some t → Rep Γ H v t (Fs i)) (ry : Rep Γ H y t G1) (hj : j < ts.length) (hlw : ws.length = ts.length) :
    ∀ (i : Nat) (v : V) (t' : T), (ws.set j y)[i]? = some v → (ts.set j t)[i]? = some t' → Rep Γ H v t' ((fun m => if m = j then G1 else Fs m) i) := fun i v t' q1 q2 => by
  by_cases c : i = j
  · subst c
    simp only [if_true]
    rw [List.getElem?_set_self (by omega)] at q1 q2
    cases q1
    cases q2
    exact ry
  · simp only [if_neg c]
    rw [List.getElem?_set_ne (Ne.symm c)] at q1 q2
    exact hc i v t' q1 q2
theorem set_dj {Fs : Nat → FP} {G G1 : FP} {j : Nat} (hdd : ∀ i j a, i ≠ j → Fs i a → Fs j a → False) (hss : ∀ i a, Fs i a → G a) (dj : ∀ a, G a → G1 a → False) : ∀ i k a, i ≠ k → (fun m => if m = j then G1 else Fs m) i a → (fun m => if m = j then G1 else Fs m) k a → False := fun i k a ne z z' => by
  by_cases c : i = j
  · simp only [if_pos c] at z
    simp only [if_neg (fun q => ne (c.trans q.symm) : ¬ k = j)] at z'
    exact dj a (hss k a z') z
  · simp only [if_neg c] at z
    by_cases c' : k = j
    · simp only [if_pos c'] at z'
      exact dj a (hss i a z) z'
    · simp only [if_neg c'] at z'
      exact hdd i k a ne z z'
theorem putFM_ok {f : Str} : MutT Γ (rPutF Γ.K f) (putFM Γ.ct f) := by
  intro H x u us u' res G Gx Gs vs Q r hl hg hd hs dj e k
  unfold putFM at e
  split at e
  · rename_i c ns ts t
    by_cases hz : (Γ.ct c).contains f = true ∧ ns.length < 1000
    · rw [if_pos hz] at e
      obtain ⟨o1, o2⟩ := Γ.ok c f (List.contains_iff_mem.mp hz.1)
      cases r with
      | @nd _ _ a ws _ Fs hat hlw hm hc hdd hss =>
        obtain ⟨hln, dx, ha⟩ := hat
        match vs, hl with
        | [y], _ =>
          have ry := hg 0 y _ rfl rfl
          have lz : (ns.zip ws).length < 1000 := by rw [List.length_zip]; omega
          have dj1 : ∀ a, G a → Gs 0 a → False := fun a g z => dj a g (hs 0 a z)
          refine ⟨a, _, dx, _, y, rfl, rfl, ha, o1, o2, lz, ?_⟩
          split at e
          · rename_i j ej
            cases e
            have hj : j < ts.length := by have := ixOf_lt ej; omega
            rw [putF_some hln ej]
            refine k _ _ (fun x => x = a ∨ ∃ i, (fun m => if m = j then Gs 0 else Fs m) i x) FE (ke_upd ha (fun z => z) (hm rfl).1) (fun b z => ?_) (fun _ _ z => z) al_upd
              (node_upd ha (fun z => z) ⟨by rw [List.length_set]; exact hln, dx, upd_same⟩ (by rw [List.length_set, List.length_set]; exact hlw) (set_kids hc ry hj hlw) (set_dj hdd hss dj1) fun i z => ?_) .non
            · rcases z with (z | ⟨i, z⟩) | z
              · rw [z]; exact .inl (hm rfl).1
              · by_cases c1 : i = j
                · simp only [if_pos c1] at z; exact .inr (hs 0 b z)
                · simp only [if_neg c1] at z; exact .inl (hss i b z)
              · exact z.elim
            · by_cases c1 : i = j
              · simp only [if_pos c1] at z; exact dj1 a (hm rfl).1 z
              · simp only [if_neg c1] at z; exact (hm rfl).2 i z
          · rename_i ej
            cases e
            rw [putF_none hln ej]
            have kk : ∀ (i : Nat) (v : V) (t' : T), (ws ++ [y])[i]? = some v → (ts ++ [t])[i]? = some t' → Rep Γ H v t' ((fun m => if m = ts.length then Gs 0 else Fs m) i) := fun i v t' q1 q2 => by
              by_cases c1 : i < ts.length
              · simp only [if_neg (show ¬ i = ts.length by omega)]
                rw [List.getElem?_append_left (by omega)] at q1 q2
                exact hc i v t' q1 q2
              · have hj : i = ts.length := by
                  have := (List.getElem?_eq_some_iff.mp q2).1
                  simp at this
                  omega
                subst hj
                simp only [if_true]
                simp at q2
                subst q2
                rw [← hlw] at q1
                simp at q1
                subst q1
                exact ry
            refine k _ _ (fun x => x = a ∨ ∃ i, (fun m => if m = ts.length then Gs 0 else Fs m) i x) FE (ke_upd ha (fun z => z) (hm rfl).1) (fun b z => ?_) (fun _ _ z => z) al_upd
              (node_upd ha (fun z => z) ⟨by simp [hln], dx, upd_same⟩ (by simp [hlw]) kk (set_dj hdd hss dj1) fun i z => ?_) .non
            · rcases z with (z | ⟨i, z⟩) | z
              · rw [z]; exact .inl (hm rfl).1
              · by_cases c1 : i = ts.length
                · simp only [if_pos c1] at z; exact .inr (hs 0 b z)
                · simp only [if_neg c1] at z; exact .inl (hss i b z)
              · exact z.elim
            · by_cases c1 : i = ts.length
              · simp only [if_pos c1] at z; exact dj1 a (hm rfl).1 z
              · simp only [if_neg c1] at z; exact (hm rfl).2 i z
    · rw [if_neg hz] at e; cases e
  · cases e
/-- the value, then the place: what is stored there -/
def sMut (m : MuF) (pl : PF) (f : EF) : SF := fun S => (f S).bind fun rx => match rx with
  | (.ex c, S1) => some (.ex c, S1)
  | (.ok t, S1) => (pl S1).bind fun ip => (sl S1 ip.1).bind fun t0 => (tAt ip.2 t0).bind fun u => (m u [t]).bind fun ur => some (.nx, S1.set ip.1 (some (tPut ip.2 t0 ur.1)))
theorem sMut_ok {r : V → List V → Hp → VK → Prop} {m : MuF} (hm : MutT Γ r m) {D : Ends} {σ : St} {H : Hp} (q : rdS Γ ar W (sMut m pl fa) D σ H) : rdE Γ ar W fa σ H fun y H1 => rdP Γ ar pl σ H1 fun x H2 => r x [y] H2 fun _ H3 => D.nx σ H3 := by
  obtain ⟨S, F, fl, S', R, ee, kk⟩ := q
  unfold sMut at ee
  cases q0 : fa S with
  | none => rw [q0] at ee; cases ee
  | some o1 =>
    obtain ⟨r1, S1⟩ := o1
    rw [q0] at ee
    simp only [Option.bind_some] at ee
    cases r1 with
    | ex c => cases ee; exact ⟨S, F, _, _, R, q0, fun H' F' R' u => kk σ H' F' R' u⟩
    | ok t =>
      simp only at ee
      cases q1 : pl S1 with
      | none => rw [q1] at ee; cases ee
      | some ip =>
        obtain ⟨i, p⟩ := ip
        rw [q1] at ee
        simp only [Option.bind_some] at ee
        cases q2 : sl S1 i with
        | none => rw [q2] at ee; cases ee
        | some t0 =>
          rw [q2] at ee
          simp only [Option.bind_some] at ee
          cases q3 : tAt p t0 with
          | none => rw [q3] at ee; cases ee
          | some u =>
            rw [q3] at ee
            simp only [Option.bind_some] at ee
            cases q4 : m u [t] with
            | none => rw [q4] at ee; cases ee
            | some ur =>
              obtain ⟨u', res⟩ := ur
              rw [q4] at ee
              cases ee
              refine ⟨S, F, _, _, R, q0, fun y H1 F1 G1 o1 => ⟨S1, F1, i, p, t0, u, o1.rs, q1, q2, q3, fun v0 v H2 h1 h2 s => ?_⟩⟩
              have o2 := o1.same s
              have A : ArgsP Γ H2 σ [y] [.val t] (FU G1 FE) := argsP_nil.val o2.r fun _ _ z => z
              refine mut_core hm o2.rs A rfl (fun a f g => g.elim (o2.d a f) fun z => z) (fun a g => g.elim (o2.al a) fun z => z.elim) q2 q3 q4 h1 (vAt_same s h2) fun w H' F' G R' rw' d al u2 => ?_
              exact kk σ H' F' R' ((o2.u.sub fun a z => z.elim .inl fun z => z.elim .inr fun z => z.elim).trans (u2.sub fun a z => .inl z))
theorem s_fld {f : Str} {value : Expr} {pos' : Pos} (ho : PE X o (rdP Γ ar pl)) (hv : PE X value (rdE Γ ar W fa)) (hs : swapsWith value (some (.Attribute o f pos')) pos.line X.env = pure false := by rfl) (hK : X.K = Γ.K := by rfl) : PS X (.Assign [.Attribute o f pos'] value pos) (rdS Γ ar W (sMut (putFM Γ.ct f) pl fa)) := by
  refine PS.imp (ps_fld ho hv hs) fun D σ H q => rdE_mono (sMut_ok putFM_ok q) fun y H1 h => ?_
  obtain ⟨S, F, i, p, t0, t1, R, q1, q2, q3, k⟩ := h
  refine ⟨S, F, i, p, t0, t1, R, q1, q2, q3, fun v0 v H' h1 h2 s => ?_⟩
  obtain ⟨a, C, dx, fs, y', ex, ey, ha, c1, c2, hl, fin⟩ := k v0 v H' h1 h2 s
  cases ey
  rw [hK]
  exact ⟨a, C, dx, fs, ex, ha, c1, c2, hl, fin⟩
end
end VT
namespace VT
open PySem L2
section
variable {Γ : Gx} {ar : Fx} {W : WX} {X : Cx} {a b e o : Expr} {pos p apos cpos : Pos} {ga gb g : BF} {fa fb : EF} {es : List Expr} {pl : PF}
abbrev GF := T → TSt → Option TSt
def TgOk (Γ : Gx) (ar : Fx) (g : TG) (tf : GF) : Prop := ∀ (H : Hp) (σ : St) (S : TSt) (F G : FP) (v : V) (t : T) (S1 : TSt) (Q : St → Hp → Prop), RepS Γ ar H σ S F → Rep Γ H v t G → tf t S = some S1 → (∀ σ1, RepS Γ ar H σ1 S1 F → Q σ1 H) → g v σ H Q
def tgN (i : Nat) : GF := fun t S => if t.im = true then some (S.set i (some t)) else none
theorem RepS.putIm {H : Hp} {σ : St} {S : TSt} {F G : FP} {i : Nat} {v : V} {t : T} (h : RepS Γ ar H σ S F) (hi : ar i = none) (r : Rep Γ H v t G) (im : t.im = true) : RepS Γ ar H (σ.set i (some v)) (S.set i (some t)) F :=
  (h.put hi (r.im im FE) (fun _ _ z => z) fun _ z => z.elim).mono (fun a z => z.elim id fun z => z.elim) h.al
theorem tgN_ok {i : Nat} (hi : ar i = none) : TgOk Γ ar (gName i) (tgN i) := by
  intro H σ S F G v t S1 Q R r e k
  unfold tgN at e
  by_cases im : t.im = true
  · rw [if_pos im] at e
    cases e
    exact k _ (R.putIm hi r im)
  · rw [if_neg im] at e; cases e
def gNames : List Nat → TGs
  | [] => gNil
  | i :: is => gCons (gName i) (gNames is)
def setAll : List Nat → List T → TSt → Option TSt
  | [], [], S => some S
  | i :: is, t :: ts, S => setAll is ts (S.set i (some t))
  | _, _, _ => none
def tgT (is : List Nat) : GF := fun t S => match t with
  | .nd .tup ts => if T.imAll ts = true then setAll is ts S else none
  | _ => none
theorem setAll_ok {H : Hp} {F G : FP} {Q : St → Hp → Prop} : ∀ {is : List Nat} {ts : List T} {vs : List V} {σ : St} {S S1 : TSt}, (∀ i ∈ is, ar i = none) → RepS Γ ar H σ S F → vs.length = ts.length → (∀ (i : Nat) (v : V) (t : T), vs[i]? = some v → ts[i]? = some t → Rep Γ H v t G) → T.imAll ts = true → setAll is ts S = some S1 →
    (∀ σ1, RepS Γ ar H σ1 S1 F → Q σ1 H) → gNames is vs σ H Q
  | [], [], vs, σ, S, S1, hi, R, hl, hc, im, e, k => by
    cases e
    match vs, hl with
    | [], _ => exact ⟨rfl, k σ R⟩
  | i :: is, t :: ts, vs, σ, S, S1, hi, R, hl, hc, im, e, k => by
    match vs, hl with
    | v :: vs, hl =>
      rw [T.imAll, Bool.and_eq_true] at im
      refine ⟨v, vs, rfl, ?_⟩
      exact setAll_ok (fun j hj => hi j (List.mem_cons_of_mem _ hj)) (R.putIm (hi i List.mem_cons_self) (hc 0 v t rfl rfl) im.1) (by simpa using hl) (fun j w u q1 q2 => hc (j + 1) w u (by simpa using q1) (by simpa using q2)) im.2 e k
  | [], _ :: _, _, _, _, _, _, _, _, _, _, e, _ => by cases e
  | _ :: _, [], _, _, _, _, _, _, _, _, _, e, _ => by cases e
theorem setAll_len : ∀ {is : List Nat} {ts : List T} {S S1 : TSt}, setAll is ts S = some S1 → is.length = ts.length
  | [], [], _, _, _ => rfl
  | i :: is, t :: ts, S, S1, e => by rw [List.length_cons, List.length_cons, setAll_len (is := is) (ts := ts) e]
  | [], _ :: _, _, _, e => by cases e
  | _ :: _, [], _, _, e => by cases e
theorem tgT_ok {is : List Nat} (hi : ∀ i ∈ is, ar i = none) : TgOk Γ ar (gTup Γ.K is.length (gNames is)) (tgT is) := by
  intro H σ S F G v t S1 Q R r e k
  unfold tgT at e
  split at e
  · rename_i ts
    by_cases im : T.imAll ts = true
    · rw [if_pos im] at e
      obtain ⟨a, vs, rfl, hq, hl, hc⟩ := r.tupl
      exact ⟨a, vs, rfl, hq, by rw [hl]; exact (setAll_len e).symm, setAll_ok hi R hl hc im e k⟩
    · rw [if_neg im] at e; cases e
  · cases e
def runL (tf : GF) (body : SF) : List T → SF
  | [] => fun S => some (.nx, S)
  | t :: ts => fun S => (tf t S).bind fun S1 => (body S1).bind fun rx => match rx with
    | (.nx, S2) => runL tf body ts S2
    | (.ct, S2) => runL tf body ts S2
    | (.bk, S2) => some (.nx, S2)
    | (fl, S2) => some (fl, S2)
theorem loop_step {body : SF} {tf : GF} {g : TG} (tk : TgOk Γ ar g tf) {D : Ends} {H : Hp} {σ : St} {S : TSt} {F G : FP} {v : V} {t : T} {ts : List T} {fl : Fl} {SN : TSt} (R : RepS Γ ar H σ S F) (r : Rep Γ H v t G) (ee : runL tf body (t :: ts) S = some (fl, SN))
    (P : St → Hp → Prop) (hP : ∀ σ' H' S' F', RepS Γ ar H' σ' S' F' → Upd H H' F F' → runL tf body ts S' = some (fl, SN) → P σ' H') (k : FlP Γ ar W D H F fl SN) {tb : TS} (hb : ∀ D σ H, rdS Γ ar W body D σ H → tb D σ H) : g v σ H fun σ2 H2 => tb { D with nx := P, ct := P, bk := D.nx } σ2 H2 := by
  unfold runL at ee
  cases e1 : tf t S with
  | none => rw [e1] at ee; cases ee
  | some S1 =>
    rw [e1] at ee
    simp only [Option.bind_some] at ee
    cases e2 : body S1 with
    | none => rw [e2] at ee; cases ee
    | some rx =>
      obtain ⟨fl1, S2⟩ := rx
      rw [e2] at ee
      simp only [Option.bind_some] at ee
      refine tk H σ S F G v t S1 _ R r e1 fun σ1 R1 => hb _ _ _ ⟨S1, F, fl1, S2, R1, e2, ?_⟩
      cases fl1 with
      | nx => exact fun σ' H' F' R' u => hP σ' H' S2 F' R' u ee
      | ct => exact fun σ' H' F' R' u => hP σ' H' S2 F' R' u ee
      | bk => cases ee; exact k
      | rt t => cases ee; exact k
      | ex c => cases ee; exact k
theorem flp_after {D : Ends} {H H1 : Hp} {F F1 : FP} {fl : Fl} {SN : TSt} (u : Upd H H1 F F1) (k : FlP Γ ar W D H F fl SN) : FlP Γ ar W D H1 F1 fl SN := by
  cases fl with
  | nx => exact fun σ' H' F' R' u' => k σ' H' F' R' (u.trans u')
  | bk => exact fun σ' H' F' R' u' => k σ' H' F' R' (u.trans u')
  | ct => exact fun σ' H' F' R' u' => k σ' H' F' R' (u.trans u')
  | ex c => exact fun σ' H' F' R' u' => k σ' H' F' R' (u.trans u')
  | rt t => exact fun v σ' H' F' G o => k v σ' H' F' G ⟨o.rs, o.r, o.d, o.al, u.trans o.u⟩
def LoopR (g : TG) (tb : TS) (D : Ends) (σ : St) : It → Hp → Prop := fun J H1 => ∃ Wv : Nat → Nat → St → Hp → Prop, (∃ m, Wv 0 m σ H1) ∧ ∀ i m σ H, Wv i m σ H →
  (J.stop i H ∧ D.nx σ H) ∨ (J.go i H ∧ ∃ N : St → Hp → Prop, (∀ σ' H', N σ' H' → ∃ m', m' < m ∧ Wv (i + 1) m' σ' H') ∧ ∀ x H', J.yld i H x H' → g x σ H' fun σ2 H2 => tb { D with nx := N, ct := N, bk := D.nx } σ2 H2)
def ItX (K : PySem.W.Frag) (a : Addr) : Kd → It
  | .tup => Itt K a
  | _ => Itl K a
def isSq : Kd → Bool
  | .lst => true
  | .fz => true
  | .tup => true
  | _ => false
def SqX (K : PySem.W.Frag) (H : Hp) (k : Kd) (a : Addr) (vs : List V) : Prop := match k with
  | .tup => SqT K H a vs
  | _ => SqL K H a vs
theorem At.sqx {H : Hp} {k : Kd} {a : Addr} {vs : List V} (h : At Γ H k a vs) (hk : isSq k = true) : SqX Γ.K H k a vs := by
  cases k with
  | lst => exact .inl (.inl h)
  | fz => exact RoL.sq h
  | tup => exact .inl (.inl h)
  | dK _ => cases hk
  | dT _ => cases hk
  | fK _ => cases hk
  | any => cases hk
  | obj _ _ => cases hk
/-- what is walked stays as it is, while other things change -/
theorem iter_ok {H1 : Hp} {F1 G : FP} {x : V} {k : Kd} {ts : List T} (r : Rep Γ H1 x (.nd k ts) G) (dj : ∀ a, F1 a → G a → False) (im : T.imAll ts = true) : ∃ a vs, x = .ref a ∧ vs.length = ts.length ∧
    ∀ H' F', Upd H1 H' F1 F' → At Γ H' k a vs ∧ ∀ (i : Nat) (v : V) (t : T), vs[i]? = some v → ts[i]? = some t → Rep Γ H' v t FE := by
  cases r with
  | @nd _ _ a vs _ Fs hat hl hm hc hd hs =>
    refine ⟨a, vs, rfl, hl, fun H' F' u => ⟨hat.keep (fun m o q => u.keep a o q fun f => dj a f (hm m).1) u.imm, fun i v t q1 q2 => ?_⟩⟩
    exact ((hc i v t q1 q2).im (imAll_iff.mp im i t q2) FE).ke u.toKe fun _ z => z.elim
theorem drop_get {α : Type} {l : List α} {i : Nat} {x : α} (h : l[i]? = some x) : l.drop i = x :: l.drop (i + 1) := by
  have hi : i < l.length := (List.getElem?_eq_some_iff.mp h).1
  have e : l[i] = x := (List.getElem?_eq_some_iff.mp h).2
  rw [List.drop_eq_getElem_cons hi, e]
theorem for_core {body : SF} {tf : GF} {g : TG} (tk : TgOk Γ ar g tf) {D : Ends} {H1 : Hp} {σ : St} {S1 : TSt} {F1 G : FP} {x : V} {k : Kd} {ts : List T} {fl : Fl} {SN : TSt} (r : Rep Γ H1 x (.nd k ts) G) (hk : isSq k = true) (dj : ∀ a, F1 a → G a → False) (im : T.imAll ts = true) (R : RepS Γ ar H1 σ S1 F1)
    (ee : runL tf body ts S1 = some (fl, SN)) (kk : FlP Γ ar W D H1 F1 fl SN) {tb : TS} (hb : ∀ D σ H, rdS Γ ar W body D σ H → tb D σ H) :
    ∃ a vs, x = .ref a ∧ SqX Γ.K H1 k a vs ∧ LoopR g tb D σ (ItX Γ.K a k) H1 := by
  obtain ⟨a, vs, rfl, hl, st⟩ := iter_ok r dj im
  have sq : ∀ H' F', Upd H1 H' F1 F' → SqX Γ.K H' k a vs := fun H' F' u => (st H' F' u).1.sqx hk
  have h0 : ∃ S' F', RepS Γ ar H1 σ S' F' ∧ Upd H1 H1 F1 F' ∧ runL tf body (ts.drop 0) S' = some (fl, SN) := ⟨S1, F1, R, Upd.refl H1 F1, ee⟩
  have hs : ∀ (i : Nat) (y : V) (σ' : St) (H' : Hp), vs[i]? = some y → (∃ S' F', RepS Γ ar H' σ' S' F' ∧ Upd H1 H' F1 F' ∧ runL tf body (ts.drop i) S' = some (fl, SN)) →
      g y σ' H' fun σ2 H2 => tb { D with nx := fun σ' H' => ∃ S' F', RepS Γ ar H' σ' S' F' ∧ Upd H1 H' F1 F' ∧ runL tf body (ts.drop (i + 1)) S' = some (fl, SN), ct := fun σ' H' => ∃ S' F', RepS Γ ar H' σ' S' F' ∧ Upd H1 H' F1 F' ∧ runL tf body (ts.drop (i + 1)) S' = some (fl, SN), bk := D.nx } σ2 H2 := by
    rintro i y σ' H' hy ⟨S', F', R', u', e'⟩
    have hi : i < ts.length := by rw [← hl]; exact (List.getElem?_eq_some_iff.mp hy).1
    have et : ts[i]? = some ts[i] := List.getElem?_eq_getElem hi
    rw [drop_get et] at e'
    exact loop_step tk R' ((st H' F' u').2 i y _ hy et) e' _ (fun σ2 H2 S2 F2 R2 u2 e2 => ⟨S2, F2, R2, u'.trans u2, e2⟩) (flp_after u' kk) hb
  have hd : ∀ (σ' : St) (H' : Hp), (∃ S' F', RepS Γ ar H' σ' S' F' ∧ Upd H1 H' F1 F' ∧ runL tf body (ts.drop vs.length) S' = some (fl, SN)) → D.nx σ' H' := by
    rintro σ' H' ⟨S', F', R', u', e'⟩
    rw [hl, List.drop_length] at e'
    cases e'
    exact kk σ' H' F' R' u'
  refine ⟨a, vs, rfl, sq H1 F1 (Upd.refl H1 F1), ?_⟩
  cases k with
  | tup => exact for_tup (K := Γ.K) (a := a) (xs := vs) (fun i σ' H' => ∃ S' F', RepS Γ ar H' σ' S' F' ∧ Upd H1 H' F1 F' ∧ runL tf body (ts.drop i) S' = some (fl, SN)) h0 (fun i σ' H' _ ⟨_, F', _, u', _⟩ => sq H' F' u') hs hd
  | lst => exact for_list (K := Γ.K) (a := a) (xs := vs) (fun i σ' H' => ∃ S' F', RepS Γ ar H' σ' S' F' ∧ Upd H1 H' F1 F' ∧ runL tf body (ts.drop i) S' = some (fl, SN)) h0 (fun i σ' H' _ ⟨_, F', _, u', _⟩ => sq H' F' u') hs hd
  | fz => exact for_list (K := Γ.K) (a := a) (xs := vs) (fun i σ' H' => ∃ S' F', RepS Γ ar H' σ' S' F' ∧ Upd H1 H' F1 F' ∧ runL tf body (ts.drop i) S' = some (fl, SN)) h0 (fun i σ' H' _ ⟨_, F', _, u', _⟩ => sq H' F' u') hs hd
  | dK _ => cases hk
  | dT _ => cases hk
  | fK _ => cases hk
  | any => cases hk
  | obj _ _ => cases hk
def iSeq (K : PySem.W.Frag) (tl : TE) : TI := fun σ H R => iList K tl σ H R ∨ iTup K tl σ H R
theorem pi_seq {tg l : Expr} {tl : TE} (hl : PE X l tl) : PI X tg l (iSeq X.K tl) := ⟨fun pins s σ H R I h => h.elim (fun h => (pi_list hl).run pins s σ H R I h) fun h => (pi_tup hl).run pins s σ H R I h⟩
def seqO : T → Option (Kd × List T)
  | .nd k ts => if isSq k = true ∧ T.imAll ts = true then some (k, ts) else none
  | _ => none
theorem seqO_some {t : T} {k : Kd} {ts : List T} (h : seqO t = some (k, ts)) : t = .nd k ts ∧ isSq k = true ∧ T.imAll ts = true := by
  unfold seqO at h
  split at h
  · rename_i k' ts'
    by_cases c : isSq k' = true ∧ T.imAll ts' = true
    · rw [if_pos c] at h; cases h; exact ⟨rfl, c⟩
    · rw [if_neg c] at h; cases h
  · cases h
/-- over a thing made anew (or never changed) -/
def sForE (tf : GF) (f : EF) (body : SF) : SF := fun S => (f S).bind fun rx => match rx with
  | (.ex c, S1) => some (.ex c, S1)
  | (.ok t, S1) => (seqO t).bind fun kt => runL tf body kt.2 S1
theorem forE_ok {tf : GF} {g : TG} {body : SF} (tk : TgOk Γ ar g tf) {D : Ends} {σ : St} {H : Hp} (q : rdS Γ ar W (sForE tf fa body) D σ H) : tFor (iSeq Γ.K (rdE Γ ar W fa)) g (rdS Γ ar W body) D σ H := by
  obtain ⟨S, F, fl, SN, R, ee, kk⟩ := q
  unfold sForE at ee
  cases e1 : fa S with
  | none => rw [e1] at ee; cases ee
  | some o1 =>
    obtain ⟨r1, S1⟩ := o1
    rw [e1] at ee
    simp only [Option.bind_some] at ee
    cases r1 with
    | ex c =>
      cases ee
      exact .inl ⟨S, F, _, _, R, e1, fun H' F' R' u => kk σ H' F' R' u⟩
    | ok t =>
      simp only at ee
      cases e2 : seqO t with
      | none => rw [e2] at ee; cases ee
      | some kt =>
        obtain ⟨k, ts⟩ := kt
        rw [e2] at ee
        simp only [Option.bind_some] at ee
        obtain ⟨rfl, hk, im⟩ := seqO_some e2
        have main : ∀ v H' F' G, Own Γ ar H F σ S1 v (.nd k ts) H' F' G → ∃ a vs, v = .ref a ∧ SqX Γ.K H' k a vs ∧ LoopR g (rdS Γ ar W body) D σ (ItX Γ.K a k) H' := fun v H' F' G ow =>
          for_core tk ow.r hk ow.d im ow.rs ee (flp_after (ow.u.sub fun a z => .inl z) kk) fun _ _ _ z => z
        cases k with
        | tup =>
          refine .inr ⟨S, F, _, _, R, e1, fun v H' F' G ow => ?_⟩
          obtain ⟨a, vs, ev, hq, lp⟩ := main v H' F' G ow
          exact ⟨a, ev, ⟨vs, hq⟩, lp⟩
        | lst =>
          refine .inl ⟨S, F, _, _, R, e1, fun v H' F' G ow => ?_⟩
          obtain ⟨a, vs, ev, hq, lp⟩ := main v H' F' G ow
          exact ⟨a, ev, ⟨vs, hq⟩, lp⟩
        | fz =>
          refine .inl ⟨S, F, _, _, R, e1, fun v H' F' G ow => ?_⟩
          obtain ⟨a, vs, ev, hq, lp⟩ := main v H' F' G ow
          exact ⟨a, ev, ⟨vs, hq⟩, lp⟩
        | dK _ => cases hk
        | dT _ => cases hk
        | fK _ => cases hk
        | any => cases hk
        | obj _ _ => cases hk
theorem s_forE {tg iter : Expr} {body : List Stmt} {sb : SF} {tf : GF} {g : TG} (hp : PassesOwn (model X.prog X.w) X.A X.env X.xe) (hc : X.calm = true) (tk : TgOk Γ ar g tf) (hi : PE X iter (rdE Γ ar W fa)) (hg : PG X tg g) (hb : PSs X body (rdS Γ ar W sb)) (hK : X.K = Γ.K := by rfl)
    (hs : ∀ x, foldedSetIterable iter X.env x = pure x := by intro _; rfl) : PS X (.For tg iter body [] pos) (rdS Γ ar W (sForE tf fa sb)) := by
  refine PS.imp (ps_for hp hc (pi_seq hi) hg hb hs) fun D σ H q => ?_
  rw [hK]
  exact forE_ok tk q
/-- over what stands at a place of the name i: meanwhile the name is not to be read (but a thing that never changes may be) -/
def sForP (i : Nat) (tf : GF) (pl : PF) (body : SF) : SF := fun S => (pl S).bind fun ip => if ip.1 = i then (sl S i).bind fun t0 => (tAt ip.2 t0).bind fun u => (seqO u).bind fun kt => if u.im = true then runL tf body kt.2 S
  else (runL tf body kt.2 (S.set i none)).bind fun rx => some (rx.1, rx.2.set i (some t0)) else none
def fixAt (ar : Fx) (i : Nat) (v : V) : Fx := fun j => if j = i then some v else ar j
theorem forP_ok {i : Nat} {tf : GF} {g : TG} {body : SF} (tk : TgOk Γ ar g tf) (tk' : ∀ v, ar i = none ∨ ar i = some v → TgOk Γ (fixAt ar i v) g tf) {tb : TS} (hb0 : ∀ D σ H, rdS Γ ar W body D σ H → tb D σ H) (hb : ∀ v, ar i = none ∨ ar i = some v → ∀ D σ H, rdS Γ (fixAt ar i v) W body D σ H → tb D σ H)
    {D : Ends} {σ : St} {H : Hp} (q : rdS Γ ar W (sForP i tf pl body) D σ H) : tFor (iSeq Γ.K (rdP Γ ar pl)) g tb D σ H := by
  obtain ⟨S, F, fl, SN, R, ee, kk⟩ := q
  unfold sForP at ee
  cases q1 : pl S with
  | none => rw [q1] at ee; cases ee
  | some ip =>
    obtain ⟨i', p⟩ := ip
    rw [q1] at ee
    simp only [Option.bind_some] at ee
    by_cases hii : i' = i
    · subst hii
      rw [if_pos rfl] at ee
      cases q2 : sl S i' with
      | none => rw [q2] at ee; cases ee
      | some t0 =>
        rw [q2] at ee
        simp only [Option.bind_some] at ee
        cases q3 : tAt p t0 with
        | none => rw [q3] at ee; cases ee
        | some u =>
          rw [q3] at ee
          simp only [Option.bind_some] at ee
          cases q4 : seqO u with
          | none => rw [q4] at ee; cases ee
          | some kt =>
            obtain ⟨k, ts⟩ := kt
            rw [q4] at ee
            simp only [Option.bind_some] at ee
            obtain ⟨rfl, hk, im⟩ := seqO_some q4
            have main : ∀ v0 v H1, σ[i']? = some (some v0) → vAt H p v0 = some v → Same H H1 → ∃ a vs, v = .ref a ∧ SqX Γ.K H1 k a vs ∧ LoopR g tb D σ (ItX Γ.K a k) H1 := fun v0 v H1 h1 h2 s => by
              by_cases imu : (T.nd k ts).im = true
              · rw [if_pos imu] at ee
                obtain ⟨v0', v', G0, ev, b1, b2⟩ := R.place q2 q3
                have z0 : v0 = v0' := Option.some.inj (Option.some.inj (h1.symm.trans ev))
                subst z0
                have z1 : v = v' := Option.some.inj (h2.symm.trans b1)
                subst z1
                obtain ⟨a, vs, e1, e2, e3⟩ := for_core tk ((b2.im imu FE).same s) hk (fun _ _ z => z) im (R.same s) ee (flp_after (Upd.of_same s) kk) hb0
                exact ⟨a, vs, e1, e2, e3⟩
              · rw [if_neg imu] at ee
                cases q5 : runL tf body ts (S.set i' none) with
                | none => rw [q5] at ee; cases ee
                | some rx =>
                  obtain ⟨fl1, S2⟩ := rx
                  rw [q5] at ee
                  cases ee
                  obtain ⟨w0, F1, Gi, ev0, rv, R1, d1, s1, s2⟩ := R.take (sl_some.mp q2)
                  have z0 : v0 = w0 := Option.some.inj (Option.some.inj (h1.symm.trans ev0))
                  subst z0
                  obtain ⟨v1, G, b1, b2, b3, _⟩ := VT.focus p rv q3
                  have z1 : v = v1 := Option.some.inj (h2.symm.trans b1)
                  subst z1
                  have har : ar i' = none ∨ ar i' = some v0 := by
                    cases q6 : ar i' with
                    | none => exact .inl rfl
                    | some w =>
                      have := R.arg i' w q6
                      rw [h1] at this
                      exact .inr (by rw [Option.some.inj (Option.some.inj this)])
                  have R2 : RepS Γ (fixAt ar i' v0) H1 σ (S.set i' none) F1 := (R1.same s).fix fun j w qj => by
                    unfold fixAt at qj
                    by_cases hj : j = i'
                    · rw [if_pos hj] at qj
                      cases qj
                      rw [hj]
                      exact h1
                    · rw [if_neg hj] at qj
                      exact R1.arg j w qj
                  have give : ∀ {σ' : St} {H' : Hp} {S' : TSt} {F' : FP}, RepS Γ (fixAt ar i' v0) H' σ' S' F' → Upd H1 H' F1 F' → RepS Γ ar H' σ' (S'.set i' (some t0)) (FU F' Gi) ∧ Upd H H' F (FU F' Gi) ∧ (∀ a, F' a → Gi a → False) ∧ ∀ a, Gi a → H' a ≠ none := fun {σ' H' S' F'} R' u' => by
                    have djF : ∀ a, F' a → Gi a → False := fun a f gi => (u'.new a f).elim (fun z => d1 a z gi) fun z => same_al s (R.al a (s2 a gi)) z
                    have rv' := (rv.same s).ke u'.toKe fun a gi f => d1 a f gi
                    have alG : ∀ a, Gi a → H' a ≠ none := fun a gi => u'.toKe.al (same_al s (R.al a (s2 a gi))) fun f => d1 a f gi
                    have hv' : σ'[i']? = some (some v0) := R'.arg i' v0 (by unfold fixAt; rw [if_pos rfl])
                    refine ⟨(R'.give hv' rv' djF alG).fix fun j w qj => R'.arg j w ?_, ?_, djF, alG⟩
                    · unfold fixAt
                      by_cases hj : j = i'
                      · rw [if_pos hj]
                        rw [hj] at qj
                        rcases har with z | z
                        · rw [z] at qj; cases qj
                        · rw [z] at qj; exact qj
                      · rw [if_neg hj]; exact qj
                    · exact Upd.trans (F1 := FU F1 Gi) ⟨Ke.of_same F s, fun a z => .inl (z.elim (s1 a) (s2 a))⟩ u'.more
                  have kk2 : FlP Γ (fixAt ar i' v0) W D H1 F1 fl1 S2 := by
                    cases fl1 with
                    | nx => exact fun σ' H' F' R' u' => kk σ' H' _ (give R' u').1 (give R' u').2.1
                    | bk => exact fun σ' H' F' R' u' => kk σ' H' _ (give R' u').1 (give R' u').2.1
                    | ct => exact fun σ' H' F' R' u' => kk σ' H' _ (give R' u').1 (give R' u').2.1
                    | ex c => exact fun σ' H' F' R' u' => kk σ' H' _ (give R' u').1 (give R' u').2.1
                    | rt t =>
                      intro v σ' H' F' G2 ow
                      have u0 : Upd H1 H' F1 F' := ow.u.sub fun a z => .inl z
                      obtain ⟨g1, g2, g3, g4⟩ := give ow.rs u0
                      refine kk v σ' H' _ G2 ⟨g1, ow.r, fun a f gg => f.elim (fun f => ow.d a f gg) fun f => (ow.u.new a (.inr gg)).elim (fun z => d1 a z f) fun z => same_al s (R.al a (s2 a f)) z, ow.al, ?_⟩
                      have u1 := ow.u.more (G := Gi)
                      exact (Upd.trans (F1 := FU F1 Gi) ⟨Ke.of_same F s, fun a z => .inl (z.elim (s1 a) (s2 a))⟩ u1).sub fun a z => z.elim (fun z => z.elim (fun z => .inl (.inl z)) .inr) fun z => .inl (.inr z)
                  obtain ⟨a, vs, e1, e2, e3⟩ := for_core (tk' v0 har) (b2.same s) hk (fun a f gg => d1 a f (b3 a gg)) im R2 q5 kk2 (hb v0 har)
                  exact ⟨a, vs, e1, e2, e3⟩
            have fin : ∀ {J : Addr → It} {Z : Hp → Addr → Prop}, (∀ v0 v H1, σ[i']? = some (some v0) → vAt H p v0 = some v → Same H H1 → ∃ a, v = .ref a ∧ Z H1 a ∧ LoopR g tb D σ (J a) H1) →
                rdP Γ ar pl σ H fun x H1 => ∃ a, x = .ref a ∧ Z H1 a ∧ LoopR g tb D σ (J a) H1 := fun h => ⟨S, F, i', p, t0, _, R, q1, q2, q3, h⟩
            cases k with
            | tup => exact .inr (fin (J := fun a => Itt Γ.K a) (Z := fun H1 a => ∃ xs, SqT Γ.K H1 a xs) fun v0 v H1 h1 h2 s => let ⟨a, vs, e1, e2, e3⟩ := main v0 v H1 h1 h2 s; ⟨a, e1, ⟨vs, e2⟩, e3⟩)
            | lst => exact .inl (fin (J := fun a => Itl Γ.K a) (Z := fun H1 a => ∃ xs, SqL Γ.K H1 a xs) fun v0 v H1 h1 h2 s => let ⟨a, vs, e1, e2, e3⟩ := main v0 v H1 h1 h2 s; ⟨a, e1, ⟨vs, e2⟩, e3⟩)
            | fz => exact .inl (fin (J := fun a => Itl Γ.K a) (Z := fun H1 a => ∃ xs, SqL Γ.K H1 a xs) fun v0 v H1 h1 h2 s => let ⟨a, vs, e1, e2, e3⟩ := main v0 v H1 h1 h2 s; ⟨a, e1, ⟨vs, e2⟩, e3⟩)
            | dK _ => cases hk
            | dT _ => cases hk
            | fK _ => cases hk
            | any => cases hk
            | obj _ _ => cases hk
    · rw [if_neg hii] at ee; cases ee
/-- the body's rule for all ways in which names are held -/
def rdSX (Γ : Gx) (W : WX) (C : Fx → Prop) (s : SF) : TS := fun D σ H => ∃ ar', C ar' ∧ rdS Γ ar' W s D σ H
theorem ss_all {body : List Stmt} {C : Fx → Prop} {sb : SF} (h : ∀ ar', C ar' → PSs X body (rdS Γ ar' W sb)) : PSs X body (rdSX Γ W C sb) := ⟨fun pins s σ H D I ⟨ar', c, q⟩ => (h ar' c).run pins s σ H D I q⟩
abbrev Loc' (L : List Nat) (ar : Fx) : Prop := ∀ j ∈ L, ar j = none
theorem fix_loc {L L' : List Nat} {i : Nat} {v : V} (h : Loc' L ar) (hs : ∀ j ∈ L', j ≠ i ∧ j ∈ L) : Loc' L' (fixAt ar i v) := fun j hj => by
  unfold fixAt
  rw [if_neg (hs j hj).1]
  exact h j (hs j hj).2
theorem s_forP {L : List Nat} (i : Nat) (L' : List Nat) {tg iter : Expr} {body : List Stmt} {sb : SF} {tf : GF} {g : TG} (hp : PassesOwn (model X.prog X.w) X.A X.env X.xe) (hc : X.calm = true) (hL : Loc' L ar) (hi : PE X iter (rdP Γ ar pl)) (tk : ∀ ar', Loc' L' ar' → TgOk Γ ar' g tf) (hg : PG X tg g)
    (hb : ∀ ar', Loc' L' ar' → PSs X body (rdS Γ ar' W sb)) (hs' : ∀ j ∈ L', j ≠ i ∧ j ∈ L := by decide) (hK : X.K = Γ.K := by rfl) (hs : ∀ x, foldedSetIterable iter X.env x = pure x := by intro _; rfl) : PS X (.For tg iter body [] pos) (rdS Γ ar W (sForP i tf pl sb)) := by
  refine PS.imp (ps_for hp hc (pi_seq hi) hg (ss_all hb) hs) fun D σ H q => ?_
  rw [hK]
  have h0 : Loc' L' ar := fun j hj => hL j (hs' j hj).2
  exact forP_ok (tk ar h0) (fun v _ => tk _ (fix_loc hL hs')) (fun D σ H z => ⟨ar, h0, z⟩) (fun v _ D σ H z => ⟨_, fix_loc hL hs', z⟩) q
/-- 0, 1, .. -/
def rgT (n : Int) : List T := (List.range n.toNat).map fun (k : Nat) => T.int (k : Int)
/-- for x in range(e) -/
def sForR (tf : GF) (f : EF) (body : SF) : SF := fun S => (f S).bind fun rx => match rx with
  | (.ex c, S1) => some (.ex c, S1)
  | (.ok (.int n), S1) => if 0 ≤ n ∧ n < 100000 then runL tf body (rgT n) S1 else none
  | _ => none
theorem forR_ok {tf : GF} {g : TG} {body : SF} (tk : TgOk Γ ar g tf) {D : Ends} {σ : St} {H : Hp} (q : rdS Γ ar W (sForR tf fa body) D σ H) : tFor (iRng1 (tCons (rdE Γ ar W fa) tNil)) g (rdS Γ ar W body) D σ H := by
  obtain ⟨S, F, fl, SN, R, ee, kk⟩ := q
  unfold sForR at ee
  cases e1 : fa S with
  | none => rw [e1] at ee; cases ee
  | some o1 =>
    rw [e1] at ee
    simp only [Option.bind_some] at ee
    split at ee
    · cases ee
      exact ⟨S, F, _, _, R, e1, fun H' F' R' u => kk σ H' F' R' u⟩
    · rename_i n S1
      by_cases hn : 0 ≤ n ∧ n < 100000
      · rw [if_pos hn] at ee
        refine ⟨S, F, _, _, R, e1, fun v H1 F1 G ow => ?_⟩
        obtain ⟨R1, rv, _, _, u1⟩ := ow
        have u1 : Upd H H1 F F1 := u1.sub fun a z => .inl z
        generalize hnn : (T.int n) = tn at rv
        cases rv with
        | int i =>
          cases hnn
          refine ⟨n, rfl, by omega, by omega, ?_⟩
          refine for_range (lo := 0) (n := n.toNat) (fun i σ' H' => ∃ S' F', RepS Γ ar H' σ' S' F' ∧ Upd H1 H' F1 F' ∧ runL tf body ((rgT n).drop i) S' = some (fl, SN)) ⟨S1, F1, R1, Upd.refl H1 F1, ee⟩ ?_ ?_
          · rintro i σ' H' hi ⟨S', F', R', u', e'⟩
            have et : (rgT n)[i]? = some (.int (i : Int)) := by simp [rgT, hi]
            rw [drop_get et] at e'
            rw [Int.zero_add]
            exact loop_step tk R' (.int (F := FE) (i : Int)) e' _ (fun σ2 H2 S2 F2 R2 u2 e2 => ⟨S2, F2, R2, u'.trans u2, e2⟩) (flp_after (u1.trans u') kk) fun _ _ _ z => z
          · rintro σ' H' ⟨S', F', R', u', e'⟩
            rw [List.drop_eq_nil_of_le (by simp [rgT])] at e'
            cases e'
            exact kk σ' H' F' R' (u1.trans u')
        | nd => cases hnn
        | _ => cases hnn
      · rw [if_neg hn] at ee; cases ee
    · cases ee
theorem s_forR {tg e1 : Expr} {p1 pos1 : Pos} {body : List Stmt} {sb : SF} {tf : GF} {g : TG} (hp : PassesOwn (model X.prog X.w) X.A X.env X.xe) (hc : X.calm = true) (tk : TgOk Γ ar g tf) (hm : X.mg "range" = none) (hi : PE X e1 (rdE Γ ar W fa)) (hg : PG X tg g) (hb : PSs X body (rdS Γ ar W sb)) (hgl : Gl X "range" := by rfl)
    (hst : starEach [e1] X.env = (false, eval e1 X.env) :: starEach [] X.env := by rfl) (hs : ∀ x, foldedSetIterable (.Call (.Name "range" p1) [e1] [] pos1) X.env x = pure x := by intro _; rfl) : PS X (.For tg (.Call (.Name "range" p1) [e1] [] pos1) body [] pos) (rdS Γ ar W (sForR tf fa sb)) :=
  PS.imp (ps_for hp hc (pi_range1 hgl hm (pa_cons hi pa_nil hst) hst) hg hb hs) fun D σ H q => forR_ok tk q
end
end VT
namespace VT
open PySem L2
section
variable {Γ : Gx} {ar : Fx} {W : WX} {X : Cx} {a b e o : Expr} {pos p apos cpos : Pos} {ga gb g : BF} {fa fb : EF} {es : List Expr} {pl : PF}
abbrev W0 : WX := fun _ _ _ _ => False
def wipeS (S : TSt) : List Nat → TSt
  | [] => S
  | v :: vs => (wipeS S vs).set v none
/-- names that are held no more -/
def freeAt (ar : Fx) (vs : List Nat) : Fx := fun j => if j ∈ vs then none else ar j
theorem wipeS_length (S : TSt) : ∀ vs : List Nat, (wipeS S vs).length = S.length
  | [] => rfl
  | v :: vs => by unfold wipeS; rw [List.length_set, wipeS_length S vs]
theorem wipeS_some {S : TSt} {i : Nat} {t : T} : ∀ {vs : List Nat}, (wipeS S vs)[i]? = some (some t) → S[i]? = some (some t) ∧ i ∉ vs
  | [], h => ⟨h, by simp⟩
  | v :: vs, h => by
    unfold wipeS at h
    by_cases hi : v = i
    · subst hi
      by_cases hv : v < (wipeS S vs).length
      · rw [List.getElem?_set_self hv] at h; cases h
      · rw [List.getElem?_eq_none (by simpa using hv)] at h; cases h
    · rw [List.getElem?_set_ne hi] at h
      obtain ⟨h1, h2⟩ := wipeS_some h
      exact ⟨h1, by simp only [List.mem_cons, not_or]; exact ⟨fun e => hi e.symm, h2⟩⟩
theorem wipe_other {σ : St} {i : Nat} : ∀ {vs : List Nat}, i ∉ vs → (wipe σ vs)[i]? = σ[i]?
  | [], _ => rfl
  | v :: vs, h => by
    unfold wipe
    rw [List.getElem?_set_ne fun z => h (by rw [z]; exact List.mem_cons_self)]
    exact wipe_other fun z => h (List.mem_cons_of_mem _ z)
theorem RepS.wiped {H : Hp} {σ : St} {S : TSt} {F : FP} {ar' : Fx} (R : RepS Γ ar H σ S F) (vs : List Nat) (har : ∀ (j : Nat) (v : V), ar' j = some v → j ∉ vs ∧ ar j = some v) : RepS Γ ar' H (L2.wipe σ vs) (wipeS S vs) F := by
  obtain ⟨len, arg, ⟨Fs, h1, h2, h3⟩, al⟩ := R
  refine ⟨by rw [wipeS_length, wipe_length]; exact len, fun j v q => ?_, ⟨Fs, fun j t q => ?_, h2, h3⟩, al⟩
  · rw [wipe_other (har j v q).1]; exact arg j v (har j v q).2
  · obtain ⟨q1, q2⟩ := wipeS_some q
    obtain ⟨v, ev, r⟩ := h1 j t q1
    exact ⟨v, by rw [wipe_other q2]; exact ev, r⟩
/-- back from the block -/
theorem RepS.unwipe {H H' : Hp} {σ : St} {S SN : TSt} {F F' : FP} {ar' : Fx} {vs : List Nat} (R : RepS Γ ar H σ S F) (R' : RepS Γ ar' H' (L2.wipe σ vs) SN F') (hw : wipeS SN vs = SN) : RepS Γ ar H' σ SN F' := by
  obtain ⟨len, arg, _, _⟩ := R
  obtain ⟨len', _, ⟨Fs, h1, h2, h3⟩, al⟩ := R'
  refine ⟨by rw [len', wipe_length], arg, ⟨Fs, fun j t q => ?_, h2, h3⟩, al⟩
  obtain ⟨v, ev, r⟩ := h1 j t q
  rw [← hw] at q
  exact ⟨v, by rw [← wipe_other (wipeS_some q).2]; exact ev, r⟩
/-- what never changes is as it was -/
def restS (S S' : TSt) : List Nat → TSt
  | [] => S'
  | v :: vs => match sl S v with
    | some t => if t.im = true then (restS S S' vs).set v (some t) else restS S S' vs
    | none => restS S S' vs
theorem RepS.rest {H H' : Hp} {σ : St} {S S' : TSt} {F F' : FP} (R : RepS Γ ar H σ S F) (im : ∀ b o, Im o → H b = some o → H' b = some o) (R' : RepS Γ ar H' σ S' F') : ∀ vs : List Nat, RepS Γ ar H' σ (restS S S' vs) F'
  | [] => R'
  | v :: vs => by
    have ih := RepS.rest R im R' vs
    unfold restS
    split
    · rename_i t e
      by_cases hi : t.im = true
      · rw [if_pos hi]
        obtain ⟨w, ew, r⟩ := R.slot (sl_some.mp e)
        have r2 := (r.im hi FE).frame (H' := H') (fun _ _ z => z.elim) im
        exact (ih.give ew r2 (fun _ _ z => z) fun _ z => z.elim).mono (fun a z => z.elim id fun z => z.elim) ih.al
      · rw [if_neg hi]; exact ih
    · exact ih
theorem wipe_set {σ : St} {x : Option V} : ∀ {vs : List Nat} {j : Nat}, j ∈ vs → L2.wipe ((L2.wipe σ vs).set j x) vs = L2.wipe σ vs := fun {vs j} hj => by
  apply List.ext_getElem?
  intro i
  by_cases hi : i ∈ vs
  · have z : ∀ τ : St, τ.length = σ.length → i < σ.length → (L2.wipe τ vs)[i]? = some none := fun τ hτ hl => by
      have hlt : i < (L2.wipe τ vs).length := by rw [wipe_length, hτ]; exact hl
      cases q : (L2.wipe τ vs)[i]? with
      | none => rw [List.getElem?_eq_none_iff] at q; omega
      | some o =>
        cases o with
        | none => rfl
        | some v => exact absurd hi (wipe_some q).2
    by_cases hl : i < σ.length
    · rw [z _ (by rw [List.length_set, wipe_length]) hl, z σ rfl hl]
    · rw [List.getElem?_eq_none (by rw [wipe_length, List.length_set, wipe_length]; omega), List.getElem?_eq_none (by rw [wipe_length]; omega)]
  · rw [wipe_other hi, List.getElem?_set_ne fun z => hi (by rw [← z]; exact hj)]
theorem wipeS_idem {S : TSt} (vs : List Nat) : wipeS (wipeS S vs) vs = wipeS S vs := by
  apply List.ext_getElem?
  intro i
  by_cases hi : i ∈ vs
  · have z : ∀ τ : TSt, τ.length = S.length → i < S.length → (wipeS τ vs)[i]? = some none := fun τ hτ hl => by
      have hlt : i < (wipeS τ vs).length := by rw [wipeS_length, hτ]; exact hl
      cases q : (wipeS τ vs)[i]? with
      | none => rw [List.getElem?_eq_none_iff] at q; omega
      | some o =>
        cases o with
        | none => rfl
        | some v => exact absurd hi (wipeS_some q).2
    by_cases hl : i < S.length
    · rw [z _ (by rw [wipeS_length]) hl, z S rfl hl]
    · rw [List.getElem?_eq_none (by rw [wipeS_length, wipeS_length]; omega), List.getElem?_eq_none (by rw [wipeS_length]; omega)]
  · have wo : ∀ {τ : TSt} {us : List Nat}, i ∉ us → (wipeS τ us)[i]? = τ[i]? := fun {τ us} => by
      induction us with
      | nil => intro _; rfl
      | cons v us ih =>
        intro h
        unfold wipeS
        rw [List.getElem?_set_ne fun z => h (by rw [z]; exact List.mem_cons_self)]
        exact ih fun z => h (List.mem_cons_of_mem _ z)
    rw [wo hi]
def runC (j : Nat) (vs : List Nat) (cond elt : EF) : List T → TSt → List T → Option (List T × TSt)
  | [], S, acc => some (acc, S)
  | t :: ts, S, acc => (tgN j t S).bind fun S1 => (cond S1).bind fun rb => match rb with
    | (.ok (.bl true), S2) => (elt S2).bind fun ru => match ru with
      | (.ok u, S3) => runC j vs cond elt ts (wipeS S3 vs) (acc ++ [u])
      | _ => none
    | (.ok (.bl false), S2) => runC j vs cond elt ts (wipeS S2 vs) acc
    | _ => none
/-- the list that is made, at Dl: what is in it so far -/
structure Acc (Γ : Gx) (ar : Fx) (H0 : Hp) (F0 : FP) (σ : St) (Dl : Addr) (H : Hp) (S : TSt) (F : FP) (tacc : List T) (Ga : FP) : Prop where
  rs : RepS Γ ar H σ S F
  up : Upd H0 H F0 (FU F (FU Ga (fun a => a = Dl)))
  at_ : ∃ acc : List V, H Dl = some (.lst acc) ∧ acc.length = tacc.length ∧ ∃ Gs : Nat → FP, (∀ (i : Nat) (v : V) (t : T), acc[i]? = some v → tacc[i]? = some t → Rep Γ H v t (Gs i)) ∧ (∀ i j a, i ≠ j → Gs i a → Gs j a → False) ∧ ∀ i a, Gs i a → Ga a
  dj : ∀ a, F a → Ga a → False
  nF : ¬ F Dl
  nG : ¬ Ga Dl
  al : ∀ a, Ga a → H a ≠ none
theorem Acc.step {H0 H H' : Hp} {F0 F F' Ga : FP} {σ σ' : St} {Dl : Addr} {S S' : TSt} {tacc : List T} {ar' : Fx} (A : Acc Γ ar H0 F0 σ Dl H S F tacc Ga) (R : RepS Γ ar' H' σ' S' F') (u : Upd H H' F F') : Acc Γ ar' H0 F0 σ' Dl H' S' F' tacc Ga := by
  obtain ⟨acc, hD, hl, Gs, h1, h2, h3⟩ := A.at_
  have nw : ∀ a, F' a → F a ∨ H a = none := u.new
  refine ⟨R, A.up.trans u.more, ⟨acc, u.keep _ _ hD A.nF, hl, Gs, fun i v t q1 q2 => (h1 i v t q1 q2).ke u.toKe fun a z f => A.dj a f (h3 i a z), h2, h3⟩, fun a f z => (nw a f).elim (fun f => A.dj a f z) (A.al a z), fun f => (nw _ f).elim A.nF (fun z => by rw [hD] at z; cases z), A.nG, fun a z => u.toKe.al (A.al a z) fun f => A.dj a f z⟩
theorem Acc.add {H0 H : Hp} {F0 F Ga G : FP} {σ : St} {Dl : Addr} {S : TSt} {tacc : List T} {v : V} {t : T} (A : Acc Γ ar H0 F0 σ Dl H S F tacc Ga) (r : Rep Γ H v t G) (dF : ∀ a, F a → G a → False) (dG : ∀ a, Ga a → G a → False) (nG : ¬ G Dl) (al : ∀ a, G a → H a ≠ none) (nw : ∀ a, G a → F0 a ∨ H0 a = none) :
    ∃ acc, H Dl = some (.lst acc) ∧ acc.length = tacc.length ∧ Acc Γ ar H0 F0 σ Dl (upd H Dl (.lst (acc ++ [v]))) S F (tacc ++ [t]) (FU Ga G) := by
  obtain ⟨acc, hD, hl, Gs, h1, h2, h3⟩ := A.at_
  have ke : ∀ {E : FP}, E Dl → Ke H (upd H Dl (.lst (acc ++ [v]))) E := fun z => ke_upd hD (fun z => z) z
  have fr : ∀ {w : V} {s : T} {E : FP}, Rep Γ H w s E → ¬ E Dl → Rep Γ (upd H Dl (.lst (acc ++ [v]))) w s E := fun {w s E} r nE => r.ke (ke (E := fun a => a = Dl) rfl) fun a z q => nE (by rw [← q]; exact z)
  refine ⟨acc, hD, hl, A.rs.ke (ke (E := fun a => a = Dl) rfl) fun a f q => A.nF (by rw [← q]; exact f), ?_, ⟨acc ++ [v], upd_same, by simp [hl], fun i => if i = tacc.length then G else Gs i, fun i w s q1 q2 => ?_, fun i j a ne z z' => ?_, fun i a z => ?_⟩, fun a f z => z.elim (A.dj a f) (dF a f), A.nF, fun z => z.elim A.nG nG, fun a z => al_upd a (z.elim (A.al a) (al a))⟩
  · refine ⟨⟨fun b o q n => ?_, fun b o im q => (ke (E := fun a => a = Dl) rfl).imm b o im (A.up.imm b o im q)⟩, fun a z => ?_⟩
    · have q2 := A.up.keep b o q n
      have nb : b ≠ Dl := fun z => by
        rcases A.up.new b (.inr (.inr z)) with y | y
        · exact n y
        · rw [q] at y; cases y
      rw [upd_ne nb]; exact q2
    · rcases z with z | (z | z) | z
      · exact A.up.new a (.inl z)
      · exact A.up.new a (.inr (.inl z))
      · exact nw a z
      · exact A.up.new a (.inr (.inr z))
  · by_cases c : i < tacc.length
    · simp only [if_neg (show ¬ i = tacc.length by omega)]
      rw [List.getElem?_append_left (by omega)] at q1 q2
      exact fr (h1 i w s q1 q2) fun z => A.nG (h3 i _ z)
    · have hi : i = tacc.length := by
        have := (List.getElem?_eq_some_iff.mp q2).1
        simp at this
        omega
      subst hi
      simp only [if_true]
      simp at q2
      subst q2
      rw [← hl] at q1
      simp at q1
      subst q1
      exact fr r nG
  · by_cases c : i = tacc.length
    · simp only [if_pos c] at z
      simp only [if_neg (fun q => ne (c.trans q.symm) : ¬ j = tacc.length)] at z'
      exact dG a (h3 j a z') z
    · simp only [if_neg c] at z
      by_cases c' : j = tacc.length
      · simp only [if_pos c'] at z'
        exact dG a (h3 i a z) z'
      · simp only [if_neg c'] at z'
        exact h2 i j a ne z z'
  · by_cases c : i = tacc.length
    · simp only [if_pos c] at z; exact .inr z
    · simp only [if_neg c] at z; exact .inl (h3 i a z)
/-- one turn of a comprehension -/
theorem comp_turn {j : Nat} {vs : List Nat} {cond elt : EF} {ar' : Fx} (hj : j ∈ vs) (haj : ar' j = none) (hfr : ∀ v ∈ vs, ar' v = none) {tt : TT} {te : TE} (ht : ∀ σ H Q, rdT Γ ar' W0 cond σ H Q → tt σ H Q) (he : ∀ σ H Q, rdE Γ ar' W0 elt σ H Q → te σ H Q)
    {H0 H : Hp} {F0 F Ga G : FP} {σ : St} {Dl : Addr} {S : TSt} {tacc : List T} {x : V} {t : T} {ts : List T} {fin : List T × TSt} (A : Acc Γ ar' H0 F0 (wipe σ vs) Dl H S F tacc Ga) (hacc : tacc.length < 100000) (r : Rep Γ H x t G) (ee : runC j vs cond elt (t :: ts) S tacc = some fin)
    (P : Hp → Prop) (hP : ∀ H' S' F' tacc' Ga', Acc Γ ar' H0 F0 (wipe σ vs) Dl H' S' F' tacc' Ga' → tacc'.length ≤ tacc.length + 1 → runC j vs cond elt ts S' tacc' = some fin → P H') :
    gName j x (wipe σ vs) H fun σ2 H2 => wipe σ2 vs = wipe σ vs ∧ tt σ2 H2 fun b H3 => if b = true then te σ2 H3 fun y H4 => ∃ acc, H4 Dl = some (.lst acc) ∧ acc.length < sizeLine ∧ P (upd H4 Dl (.lst (acc ++ [y]))) else P H3 := by
  unfold runC at ee
  cases e1 : tgN j t S with
  | none => rw [e1] at ee; cases ee
  | some S1 =>
    rw [e1] at ee
    simp only [Option.bind_some] at ee
    unfold tgN at e1
    by_cases im : t.im = true
    · rw [if_pos im] at e1
      cases e1
      have R1 := A.rs.putIm haj r im
      refine ⟨wipe_set hj, ht _ _ _ ?_⟩
      have A1 := A.step R1 (Upd.refl H F)
      cases e2 : cond (S.set j (some t)) with
      | none => rw [e2] at ee; cases ee
      | some rb =>
        rw [e2] at ee
        simp only [Option.bind_some] at ee
        have back : ∀ {H' : Hp} {S' : TSt} {F' : FP} {ta : List T} {Gb : FP}, Acc Γ ar' H0 F0 ((wipe σ vs).set j (some x)) Dl H' S' F' ta Gb → Acc Γ ar' H0 F0 (wipe σ vs) Dl H' (wipeS S' vs) F' ta Gb := fun {H' S' F' ta Gb} B => by
          have R3 := B.rs.wiped (ar' := ar') vs fun i w q => ⟨fun z => (by rw [hfr i z] at q; cases q), q⟩
          rw [wipe_set hj] at R3
          exact B.step R3 (Upd.refl H' F')
        split at ee
        · rename_i S2
          cases e3 : elt S2 with
          | none => rw [e3] at ee; cases ee
          | some ru =>
            obtain ⟨r3, S3⟩ := ru
            rw [e3] at ee
            simp only [Option.bind_some] at ee
            cases r3 with
            | ex c => cases ee
            | ok u =>
              simp only at ee
              refine bool_then R1 e2 fun H3 F3 R3 u3 => iteT (he _ _ _ ⟨S2, F3, _, _, R3, e3, fun v H4 F4 G4 ow => ?_⟩)
              have A3 := A1.step R3 u3
              have A4 := A3.step ow.rs (ow.u.sub fun a z => .inl z)
              obtain ⟨acc3, hD3, _⟩ := A3.at_
              have nwG : ∀ a, G4 a → F3 a ∨ H3 a = none := fun a z => ow.u.new a (.inr z)
              obtain ⟨acc, q1, q2, A5⟩ := A4.add ow.r ow.d (fun a z z' => (nwG a z').elim (fun f => A3.dj a f z) (A3.al a z)) (fun z => (nwG _ z).elim A3.nF fun y => by rw [hD3] at y; cases y) ow.al
                (fun a z => (nwG a z).elim (fun f => A3.up.new a (.inl f)) fun y => by
                  by_cases f0 : F0 a
                  · exact .inl f0
                  · exact .inr (A3.up.toKe.free y f0))
              exact ⟨acc, q1, sz5' (by omega), hP _ _ _ _ _ (back A5) (by simp) ee⟩
        · refine bool_then R1 e2 fun H3 F3 R3 u3 => iteF ?_
          exact hP _ _ _ _ _ (back (A1.step R3 u3)) (by omega) ee
        · cases ee
    · rw [if_neg im] at e1; cases e1
def eLcFrom (j : Nat) (vs : List Nat) (cond elt : EF) (ts : List T) (S : TSt) : Option (Rs T × TSt) := if ts.length < 100000 then (runC j vs cond elt ts (wipeS S vs) []).bind fun r => some (.ok (.nd .lst r.1), wipeS r.2 vs) else none
def CompR (g : TG) (tt : TT) (te : TE) (vs : List Nat) (σ : St) (Q : VK) : It → Hp → Prop := fun J H1 => ∀ D, H1 D = none → ∃ Wv : Nat → Nat → Hp → Prop, (∃ m, Wv 0 m (upd H1 D (.lst []))) ∧ ∀ i m H, Wv i m H →
  (J.stop i H ∧ Q (.ref D) H) ∨ (J.go i H ∧ ∃ Nx : Hp → Prop, (∀ H', Nx H' → ∃ m', m' < m ∧ Wv (i + 1) m' H') ∧ ∀ x H', J.yld i H x H' → g x (wipe σ vs) H' fun σ2 H2 => wipe σ2 vs = wipe σ vs ∧ tt σ2 H2 fun b H3 =>
    if b = true then te σ2 H3 fun y H4 => ∃ acc, H4 D = some (.lst acc) ∧ acc.length < sizeLine ∧ Nx (upd H4 D (.lst (acc ++ [y]))) else Nx H3)
theorem Acc.done {H0 H : Hp} {F0 F Ga : FP} {σ : St} {Dl : Addr} {S : TSt} {tacc : List T} (A : Acc Γ ar H0 F0 σ Dl H S F tacc Ga) : Rep Γ H (.ref Dl) (.nd .lst tacc) (FU Ga (fun a => a = Dl)) ∧ (∀ a, F a → FU Ga (fun a => a = Dl) a → False) ∧ ∀ a, FU Ga (fun a => a = Dl) a → H a ≠ none := by
  obtain ⟨acc, hD, hl, Gs, h1, h2, h3⟩ := A.at_
  exact ⟨.nd (Fs := Gs) hD hl (fun _ => ⟨.inr rfl, fun i z => A.nG (h3 i _ z)⟩) h1 h2 fun i a z => .inl (h3 i a z), fun a f z => z.elim (A.dj a f) fun q => A.nF (by rw [← q]; exact f), fun a z => z.elim (A.al a) fun q => by rw [q, hD]; exact fun y => nomatch y⟩
theorem acc_start {H1 : Hp} {F1 : FP} {σ : St} {S : TSt} {Dl : Addr} {vs : List Nat} {ar' : Fx} (R : RepS Γ ar H1 σ S F1) (hD : H1 Dl = none) (har : ∀ (j : Nat) (v : V), ar' j = some v → j ∉ vs ∧ ar j = some v) : Acc Γ ar' H1 F1 (wipe σ vs) Dl (upd H1 Dl (.lst [])) (wipeS S vs) F1 [] FE :=
  ⟨(R.wiped vs har).same (upd_new hD), ⟨Ke.of_same _ (upd_new hD), fun a z => z.elim .inl fun z => z.elim (fun z => z.elim) fun z => .inr (by rw [z]; exact hD)⟩, ⟨[], upd_same, rfl, fun _ => FE, fun i v t q => by simp at q, fun _ _ _ _ z => z.elim, fun _ _ z => z⟩, fun _ _ z => z, fun f => R.al Dl f hD, fun z => z, fun _ z => z.elim⟩
/-- over a list or tuple that stays as it is -/
theorem comp_core {j : Nat} {vs : List Nat} {cond elt : EF} {ar' : Fx} (hj : j ∈ vs) (hfr : ∀ v ∈ vs, ar' v = none) {tt : TT} {te : TE} (ht : ∀ σ H Q, rdT Γ ar' W0 cond σ H Q → tt σ H Q) (he : ∀ σ H Q, rdE Γ ar' W0 elt σ H Q → te σ H Q)
    {H1 : Hp} {σ : St} {S1 : TSt} {F1 G : FP} {x : V} {k : Kd} {ts : List T} {rt : Rs T} {SN : TSt} {Q : VK} (r : Rep Γ H1 x (.nd k ts) G) (hk : isSq k = true) (dj : ∀ a, F1 a → G a → False) (im : T.imAll ts = true) (R : RepS Γ ar H1 σ S1 F1) (har : ∀ (j : Nat) (v : V), ar' j = some v → j ∉ vs ∧ ar j = some v)
    (ee : eLcFrom j vs cond elt ts S1 = some (rt, SN)) (kk : ∀ t, rt = .ok t → ∀ v H' F' G, RepS Γ ar' H' (wipe σ vs) SN F' → wipeS SN vs = SN → Rep Γ H' v t G → (∀ a, F' a → G a → False) → (∀ a, G a → H' a ≠ none) → Upd H1 H' F1 (FU F' G) → Q v H') :
    ∃ a ws, x = .ref a ∧ SqX Γ.K H1 k a ws ∧ CompR (gName j) tt te vs σ Q (ItX Γ.K a k) H1 := by
  unfold eLcFrom at ee
  by_cases hz : ts.length < 100000
  · rw [if_pos hz] at ee
    cases e1 : runC j vs cond elt ts (wipeS S1 vs) [] with
    | none => rw [e1] at ee; cases ee
    | some fin =>
      rw [e1] at ee
      cases ee
      obtain ⟨a, ws, rfl, hl, st⟩ := iter_ok r dj im
      refine ⟨a, ws, rfl, (st H1 F1 (Upd.refl H1 F1)).1.sqx hk, fun Dl hD => ?_⟩
      have upG : ∀ {H' : Hp} {S' : TSt} {F' Ga : FP} {tacc : List T}, Acc Γ ar' H1 F1 (wipe σ vs) Dl H' S' F' tacc Ga → Upd H1 H' F1 F' := fun A => A.up.sub fun a z => .inl z
      have h0 : ∃ S' F' tacc Ga, Acc Γ ar' H1 F1 (wipe σ vs) Dl (upd H1 Dl (.lst [])) S' F' tacc Ga ∧ tacc.length ≤ 0 ∧ runC j vs cond elt (ts.drop 0) S' tacc = some fin := ⟨_, F1, [], FE, acc_start R hD har, Nat.le_refl _, e1⟩
      have hs : ∀ (i : Nat) (y : V) (H' : Hp), ws[i]? = some y → (∃ S' F' tacc Ga, Acc Γ ar' H1 F1 (wipe σ vs) Dl H' S' F' tacc Ga ∧ tacc.length ≤ i ∧ runC j vs cond elt (ts.drop i) S' tacc = some fin) →
          gName j y (wipe σ vs) H' fun σ2 H2 => wipe σ2 vs = wipe σ vs ∧ tt σ2 H2 fun b H3 => if b = true then te σ2 H3 fun y H4 => ∃ acc, H4 Dl = some (.lst acc) ∧ acc.length < sizeLine ∧ (∃ S' F' tacc Ga, Acc Γ ar' H1 F1 (wipe σ vs) Dl (upd H4 Dl (.lst (acc ++ [y]))) S' F' tacc Ga ∧ tacc.length ≤ i + 1 ∧ runC j vs cond elt (ts.drop (i + 1)) S' tacc = some fin)
            else ∃ S' F' tacc Ga, Acc Γ ar' H1 F1 (wipe σ vs) Dl H3 S' F' tacc Ga ∧ tacc.length ≤ i + 1 ∧ runC j vs cond elt (ts.drop (i + 1)) S' tacc = some fin := by
        rintro i y H' hy ⟨S', F', tacc, Ga, A, hta, e'⟩
        have hi : i < ts.length := by rw [← hl]; exact (List.getElem?_eq_some_iff.mp hy).1
        have et : ts[i]? = some ts[i] := List.getElem?_eq_getElem hi
        rw [drop_get et] at e'
        exact comp_turn hj (hfr j hj) hfr ht he A (by omega) ((st H' F' (upG A)).2 i y _ hy et) e' (fun H' => ∃ S' F' tacc Ga, Acc Γ ar' H1 F1 (wipe σ vs) Dl H' S' F' tacc Ga ∧ tacc.length ≤ i + 1 ∧ runC j vs cond elt (ts.drop (i + 1)) S' tacc = some fin)
          fun H2 S2 F2 ta2 Ga2 A2 hl2 e2 => ⟨S2, F2, ta2, Ga2, A2, by omega, e2⟩
      have hd : ∀ H' : Hp, (∃ S' F' tacc Ga, Acc Γ ar' H1 F1 (wipe σ vs) Dl H' S' F' tacc Ga ∧ tacc.length ≤ ws.length ∧ runC j vs cond elt (ts.drop ws.length) S' tacc = some fin) → Q (.ref Dl) H' := by
        rintro H' ⟨S', F', tacc, Ga, A, _, e'⟩
        rw [hl, List.drop_length] at e'
        cases e'
        obtain ⟨d1, d2, d3⟩ := A.done
        have R3 := A.rs.wiped (ar' := ar') vs fun i w q => ⟨fun z => (by rw [hfr i z] at q; cases q), q⟩
        have ww : wipe (wipe σ vs) vs = wipe σ vs := by
          have := wipe_set (σ := σ) (x := ((wipe σ vs)[j]?).getD none) hj
          by_cases hjl : j < (wipe σ vs).length
          · have e4 : (wipe σ vs).set j (((wipe σ vs)[j]?).getD none) = wipe σ vs := by
              apply List.ext_getElem?
              intro i
              by_cases hi : j = i
              · subst hi
                rw [List.getElem?_set_self hjl, List.getElem?_eq_getElem hjl]
                try rfl
              · rw [List.getElem?_set_ne hi]
            rw [e4] at this
            exact this
          · rw [List.set_eq_of_length_le (by omega)] at this
            exact this
        rw [ww] at R3
        exact kk _ rfl _ H' F' _ R3 (wipeS_idem vs) d1 d2 d3 A.up
      have sq : ∀ (i : Nat) (H' : Hp), i ≤ ws.length → (∃ S' F' tacc Ga, Acc Γ ar' H1 F1 (wipe σ vs) Dl H' S' F' tacc Ga ∧ tacc.length ≤ i ∧ runC j vs cond elt (ts.drop i) S' tacc = some fin) → SqX Γ.K H' k a ws := fun i H' _ ⟨_, F', _, _, A, _⟩ => (st H' F' (upG A)).1.sqx hk
      cases k with
      | tup => exact lc_tup (K := Γ.K) (a := a) (xs := ws) (Qd := fun H' => Q (.ref Dl) H') (fun i H' => ∃ S' F' tacc Ga, Acc Γ ar' H1 F1 (wipe σ vs) Dl H' S' F' tacc Ga ∧ tacc.length ≤ i ∧ runC j vs cond elt (ts.drop i) S' tacc = some fin) h0 sq hs hd
      | lst => exact lc_list (K := Γ.K) (a := a) (xs := ws) (Qd := fun H' => Q (.ref Dl) H') (fun i H' => ∃ S' F' tacc Ga, Acc Γ ar' H1 F1 (wipe σ vs) Dl H' S' F' tacc Ga ∧ tacc.length ≤ i ∧ runC j vs cond elt (ts.drop i) S' tacc = some fin) h0 sq hs hd
      | fz => exact lc_list (K := Γ.K) (a := a) (xs := ws) (Qd := fun H' => Q (.ref Dl) H') (fun i H' => ∃ S' F' tacc Ga, Acc Γ ar' H1 F1 (wipe σ vs) Dl H' S' F' tacc Ga ∧ tacc.length ≤ i ∧ runC j vs cond elt (ts.drop i) S' tacc = some fin) h0 sq hs hd
      | dK _ => cases hk
      | dT _ => cases hk
      | fK _ => cases hk
      | any => cases hk
      | obj _ _ => cases hk
  · rw [if_neg hz] at ee; cases ee
def lcEnd (vs : List Nat) (S : TSt) (r : Option (Rs T × TSt)) : Option (Rs T × TSt) := r.bind fun x => some (x.1, restS S x.2 vs)
def eLcE (j : Nat) (vs : List Nat) (f cond elt : EF) : EF := fun S => (f S).bind fun rx => match rx with
  | (.ex c, S1) => some (.ex c, S1)
  | (.ok t, S1) => (seqO t).bind fun kt => lcEnd vs S1 (eLcFrom j vs cond elt kt.2 S1)
def rdTX (Γ : Gx) (C : Fx → Prop) (f : EF) : TT := fun σ H Q => ∃ ar', C ar' ∧ rdT Γ ar' W0 f σ H Q
def rdEX (Γ : Gx) (C : Fx → Prop) (f : EF) : TE := fun σ H Q => ∃ ar', C ar' ∧ rdE Γ ar' W0 f σ H Q
theorem ee_all {C : Fx → Prop} {f : EF} (h : ∀ ar', C ar' → PE X e (rdE Γ ar' W0 f)) : PE X e (rdEX Γ C f) := ⟨fun pins s σ H Q I ⟨ar', c, q⟩ => (h ar' c).run pins s σ H Q I q⟩
theorem tt_one {C : Fx → Prop} {f : EF} {c : Expr} (h : ∀ ar', C ar' → PT X c (rdT Γ ar' W0 f)) : PTs X [c] (rdTX Γ C f) := pts_one ⟨fun pins s σ H Q I ⟨ar', c, q⟩ => (h ar' c).run pins s σ H Q I q⟩
def eYes : EF := fun S => some (.ok (.bl true), S)
theorem tt_nil {C : Fx → Prop} : PTs X [] (rdTX Γ C eYes) := ⟨fun pins s σ H Q I ⟨ar', c, q⟩ => pts_nil.run pins s σ H Q I (by
  obtain ⟨S, F, r, S', R, e, k⟩ := q
  cases e
  obtain ⟨b, eb, hb⟩ := k (.bl true) H F FE ⟨R, .bl true, fun _ _ z => z, fun _ z => z.elim, (Upd.refl H F).sub fun a z => z.elim id fun z => z.elim⟩
  cases eb
  exact hb)⟩
theorem free_ok {vs : List Nat} : (∀ v ∈ vs, freeAt ar vs v = none) ∧ ∀ (j : Nat) (v : V), freeAt ar vs j = some v → j ∉ vs ∧ ar j = some v := by
  refine ⟨fun v hv => if_pos hv, fun j v q => ?_⟩
  unfold freeAt at q
  by_cases hj : j ∈ vs
  · rw [if_pos hj] at q; cases q
  · rw [if_neg hj] at q; exact ⟨hj, q⟩
theorem lcE_ok {j : Nat} {vs : List Nat} {cond elt : EF} {C : Fx → Prop} (hj : j ∈ vs) (hC : C (freeAt ar vs)) {σ : St} {H : Hp} {Q : VK} (q : rdE Γ ar W (eLcE j vs fa cond elt) σ H Q) : tLc (iSeq Γ.K (rdE Γ ar W fa)) (gName j) (rdTX Γ C cond) (rdEX Γ C elt) vs σ H Q := by
  obtain ⟨S, F, r, S', R, ee, kk⟩ := q
  unfold eLcE at ee
  cases e1 : fa S with
  | none => rw [e1] at ee; cases ee
  | some o1 =>
    obtain ⟨r1, S1⟩ := o1
    rw [e1] at ee
    simp only [Option.bind_some] at ee
    cases r1 with
    | ex c => cases ee; exact .inl ⟨S, F, _, _, R, e1, kk⟩
    | ok t =>
      simp only at ee
      cases e2 : seqO t with
      | none => rw [e2] at ee; cases ee
      | some kt =>
        obtain ⟨k, ts⟩ := kt
        rw [e2] at ee
        simp only [Option.bind_some] at ee
        obtain ⟨rfl, hk, im⟩ := seqO_some e2
        unfold lcEnd at ee
        cases e3 : eLcFrom j vs cond elt ts S1 with
        | none => rw [e3] at ee; cases ee
        | some fin =>
          obtain ⟨rt, SN⟩ := fin
          rw [e3] at ee
          cases ee
          have main : ∀ v H' F' G, Own Γ ar H F σ S1 v (.nd k ts) H' F' G → ∃ a ws, v = .ref a ∧ SqX Γ.K H' k a ws ∧ CompR (gName j) (rdTX Γ C cond) (rdEX Γ C elt) vs σ Q (ItX Γ.K a k) H' := fun v H' F' G ow => by
            refine comp_core hj free_ok.1 (fun σ H Q z => ⟨_, hC, z⟩) (fun σ H Q z => ⟨_, hC, z⟩) ow.r hk ow.d im ow.rs free_ok.2 e3 fun t et w H2 F2 G2 R2 hw r2 d2 al2 u2 => ?_
            subst et
            exact kk w H2 F2 G2 ⟨(ow.rs.rest u2.imm (ow.rs.unwipe R2 hw) vs), r2, d2, al2, (ow.u.sub fun a z => .inl z).trans u2⟩
          cases k with
          | tup =>
            refine .inr ⟨S, F, _, _, R, e1, fun v H' F' G ow => ?_⟩
            obtain ⟨a, ws, ev, hq, lp⟩ := main v H' F' G ow
            exact ⟨a, ev, ⟨ws, hq⟩, lp⟩
          | lst =>
            refine .inl ⟨S, F, _, _, R, e1, fun v H' F' G ow => ?_⟩
            obtain ⟨a, ws, ev, hq, lp⟩ := main v H' F' G ow
            exact ⟨a, ev, ⟨ws, hq⟩, lp⟩
          | fz =>
            refine .inl ⟨S, F, _, _, R, e1, fun v H' F' G ow => ?_⟩
            obtain ⟨a, ws, ev, hq, lp⟩ := main v H' F' G ow
            exact ⟨a, ev, ⟨ws, hq⟩, lp⟩
          | dK _ => cases hk
          | dT _ => cases hk
          | fK _ => cases hk
          | any => cases hk
          | obj _ _ => cases hk
end
end VT
namespace VT
open PySem L2
section
variable {Γ : Gx} {ar : Fx} {W : WX} {X : Cx} {a b e o : Expr} {pos p apos cpos : Pos} {ga gb g : BF} {fa fb : EF} {es : List Expr} {pl : PF}
abbrev CT : Fx → Prop := fun _ => True
/-- over range(e) -/
def eLcR (j : Nat) (vs : List Nat) (f cond elt : EF) : EF := fun S => (f S).bind fun rx => match rx with
  | (.ex c, S1) => some (.ex c, S1)
  | (.ok (.int n), S1) => if 0 ≤ n ∧ n < 100000 then lcEnd vs S1 (eLcFrom j vs cond elt (rgT n) S1) else none
  | _ => none
theorem lcR_ok {j : Nat} {vs : List Nat} {cond elt : EF} {C : Fx → Prop} (hj : j ∈ vs) (hC : C (freeAt ar vs)) {σ : St} {H : Hp} {Q : VK} (q : rdE Γ ar W (eLcR j vs fa cond elt) σ H Q) : tLc (iRng1 (tCons (rdE Γ ar W fa) tNil)) (gName j) (rdTX Γ C cond) (rdEX Γ C elt) vs σ H Q := by
  obtain ⟨S, F, r, S', R, ee, kk⟩ := q
  unfold eLcR at ee
  cases e1 : fa S with
  | none => rw [e1] at ee; cases ee
  | some o1 =>
    rw [e1] at ee
    simp only [Option.bind_some] at ee
    split at ee
    · cases ee
      exact ⟨S, F, _, _, R, e1, kk⟩
    · rename_i n S1
      by_cases hn : 0 ≤ n ∧ n < 100000
      · rw [if_pos hn] at ee
        unfold lcEnd at ee
        cases e3 : eLcFrom j vs cond elt (rgT n) S1 with
        | none => rw [e3] at ee; cases ee
        | some fin0 =>
          obtain ⟨rt, SN⟩ := fin0
          rw [e3] at ee
          cases ee
          refine ⟨S, F, _, _, R, e1, fun v H1 F1 G ow => ?_⟩
          have u1 : Upd H H1 F F1 := ow.u.sub fun a z => .inl z
          have R1 := ow.rs
          have rv := ow.r
          generalize hnn : (T.int n) = tn at rv
          cases rv with
          | int i =>
            cases hnn
            refine ⟨n, rfl, by omega, by omega, fun Dl hD => ?_⟩
            unfold eLcFrom at e3
            by_cases hz : (rgT n).length < 100000
            · rw [if_pos hz] at e3
              cases e4 : runC j vs cond elt (rgT n) (wipeS S1 vs) [] with
              | none => rw [e4] at e3; cases e3
              | some fin =>
                rw [e4] at e3
                cases e3
                have hl : (rgT n).length = n.toNat := by simp [rgT]
                refine lc_range (lo := 0) (n := n.toNat) (Qd := fun H' => Q (.ref Dl) H') (fun i H' => ∃ S' F' tacc Ga, Acc Γ (freeAt ar vs) H1 F1 (wipe σ vs) Dl H' S' F' tacc Ga ∧ tacc.length ≤ i ∧ runC j vs cond elt ((rgT n).drop i) S' tacc = some fin) ⟨_, F1, [], FE, acc_start R1 hD free_ok.2, Nat.le_refl _, e4⟩ ?_ ?_
                · rintro i H' hi ⟨S', F', tacc, Ga, A, hta, e'⟩
                  have et : (rgT n)[i]? = some (.int (i : Int)) := by simp [rgT, hi]
                  rw [drop_get et] at e'
                  rw [Int.zero_add]
                  exact comp_turn hj (free_ok.1 j hj) free_ok.1 (fun σ H Q z => ⟨_, hC, z⟩) (fun σ H Q z => ⟨_, hC, z⟩) A (by omega) (.int (F := FE) (i : Int)) e' (fun H' => ∃ S' F' tacc Ga, Acc Γ (freeAt ar vs) H1 F1 (wipe σ vs) Dl H' S' F' tacc Ga ∧ tacc.length ≤ i + 1 ∧ runC j vs cond elt ((rgT n).drop (i + 1)) S' tacc = some fin)
                    fun H2 S2 F2 ta2 Ga2 A2 hl2 e2 => ⟨S2, F2, ta2, Ga2, A2, by omega, e2⟩
                · rintro H' ⟨S', F', tacc, Ga, A, _, e'⟩
                  rw [List.drop_eq_nil_of_le (by omega)] at e'
                  cases e'
                  obtain ⟨d1, d2, d3⟩ := A.done
                  have R3 := A.rs.wiped (ar' := freeAt ar vs) vs fun i w q => ⟨(free_ok.2 i w q).1, q⟩
                  have ww : wipe (wipe σ vs) vs = wipe σ vs := by
                    have hw := wipe_set (σ := wipe σ vs) (x := none) hj
                    apply List.ext_getElem?
                    intro i
                    by_cases hi : i ∈ vs
                    · by_cases hlt : i < σ.length
                      · have z : ∀ τ : St, τ.length = σ.length → (wipe τ vs)[i]? = some none := fun τ hτ => by
                          cases q : (wipe τ vs)[i]? with
                          | none => rw [List.getElem?_eq_none_iff, wipe_length] at q; omega
                          | some o =>
                            cases o with
                            | none => rfl
                            | some v => exact absurd hi (wipe_some q).2
                        rw [z _ (wipe_length σ vs), z σ rfl]
                      · rw [List.getElem?_eq_none (by rw [wipe_length, wipe_length]; omega), List.getElem?_eq_none (by rw [wipe_length]; omega)]
                    · rw [wipe_other hi]
                  rw [ww] at R3
                  exact kk _ H' F' _ ⟨(R1.rest A.up.imm (R1.unwipe R3 (wipeS_idem vs)) vs), d1, d2, d3, u1.trans A.up⟩
            · rw [if_neg hz] at e3; cases e3
          | nd => cases hnn
          | _ => cases hnn
      · rw [if_neg hn] at ee; cases ee
    · cases ee
section
variable {elt tg iter : Expr} {ifs : List Expr} {scope : Scope} {own : List (Str × Nat)} {cond el : EF} {j : Nat}
/-- y = [..] -/
theorem s_lcE (i : Nat) {y : Str} {py spos : Pos} (hi' : ar i = none) (hc : X.calm = true) (hN : X.N.Nodup) (hsw : swapsWith (.ListComp elt [⟨tg, iter, ifs, 0⟩] scope pos) (some (.Name y py)) spos.line X.env = pure true) (hi : PE X iter (rdE Γ ar W fa)) (ok : BlkOk X.N X.env.scope scope own) (hg : ∀ (s : Shared) (H : Hp) (C : Addr) (cl : List (Str × Addr)) (fp : List Addr), PG (X.blk s H scope (compEnvC scope cl C X.env) fp) tg (gName j))
    (ht : ∀ (s : Shared) (H : Hp) (C : Addr) (cl : List (Str × Addr)) (fp : List Addr), PTs (X.blk s H scope (compEnvC scope cl C X.env) fp) ifs (rdTX Γ CT cond)) (he : ∀ (s : Shared) (H : Hp) (C : Addr) (cl : List (Str × Addr)) (fp : List Addr), PE (X.blk s H scope (compEnvC scope cl C X.env) fp) elt (rdEX Γ CT el))
    (hy : X.N[i]? = some y := by rfl) (hyl : X.env.scope.names.lookup y = some .local := by rfl) (hj : j ∈ own.map (·.2) := by decide) (hK : X.K = Γ.K := by rfl) (hs : ∀ x, foldedSetIterable iter X.env x = pure x := by intro _; rfl) :
    PS X (.Assign [.Name y py] (.ListComp elt [⟨tg, iter, ifs, 0⟩] scope pos) spos) (rdS Γ ar W (sSet i (eLcE j (own.map (·.2)) fa cond el))) := by
  refine PS.imp (ps_setLc hc hN hy hyl hsw (pi_seq hi) ok hg ht he hs) fun D σ H q => ?_
  rw [hK]
  exact lcE_ok hj trivial (set_ok hi' q)
theorem s_lcR (i : Nat) {y : Str} {e1 : Expr} {p1 pos1 py spos : Pos} (hi' : ar i = none) (hc : X.calm = true) (hN : X.N.Nodup) (hm : X.mg "range" = none) (hsw : swapsWith (.ListComp elt [⟨tg, .Call (.Name "range" p1) [e1] [] pos1, ifs, 0⟩] scope pos) (some (.Name y py)) spos.line X.env = pure true) (hi : PE X e1 (rdE Γ ar W fa)) (ok : BlkOk X.N X.env.scope scope own) (hg : ∀ (s : Shared) (H : Hp) (C : Addr) (cl : List (Str × Addr)) (fp : List Addr), PG (X.blk s H scope (compEnvC scope cl C X.env) fp) tg (gName j))
    (ht : ∀ (s : Shared) (H : Hp) (C : Addr) (cl : List (Str × Addr)) (fp : List Addr), PTs (X.blk s H scope (compEnvC scope cl C X.env) fp) ifs (rdTX Γ CT cond)) (he : ∀ (s : Shared) (H : Hp) (C : Addr) (cl : List (Str × Addr)) (fp : List Addr), PE (X.blk s H scope (compEnvC scope cl C X.env) fp) elt (rdEX Γ CT el))
    (hy : X.N[i]? = some y := by rfl) (hyl : X.env.scope.names.lookup y = some .local := by rfl) (hj : j ∈ own.map (·.2) := by decide) (hgl : Gl X "range" := by rfl) (hst : starEach [e1] X.env = (false, eval e1 X.env) :: starEach [] X.env := by rfl) (hs : ∀ x, foldedSetIterable (.Call (.Name "range" p1) [e1] [] pos1) X.env x = pure x := by intro _; rfl) :
    PS X (.Assign [.Name y py] (.ListComp elt [⟨tg, .Call (.Name "range" p1) [e1] [] pos1, ifs, 0⟩] scope pos) spos) (rdS Γ ar W (sSet i (eLcR j (own.map (·.2)) fa cond el))) :=
  PS.imp (ps_setLc hc hN hy hyl hsw (pi_range1 hgl hm (pa_cons hi pa_nil hst) hst) ok hg ht he hs) fun D σ H q => lcR_ok hj trivial (set_ok hi' q)
end
section
variable {r : List V → Hp → VK → Prop} {f : T → Option T} {x : Str} {id tn : String}
theorem nCallB (hf : UnT Γ (fun x => r [x]) f) (hc : CallR X (.builtin id) r) (hm : X.mg x = none) (hv : bootBuiltins x = some (.builtin id)) (ha : PE X e (rdB Γ ar ga)) (hg : Gl X x := by rfl) (hn : x ≠ "__name__" := by decide) (hdb : (x == ("__debug__" : Str)) = false := by decide) (he : starEach [e] X.env = (false, eval e X.env) :: starEach [] X.env := by rfl)
    (hpl : (backTo pos (starEach [] X.env)).any (·.1) = false := by rfl) : PE X (.Call (.Name x p) [e] [] pos) (rdN Γ ar (bUn f ga)) := PE.imp (pe_callB hc hg hm hv (pa_cons ha pa_nil he) hn hdb he hpl) fun σ H Q q => tUn_b hf σ H Q q
theorem eCallB (hf : UnT Γ (fun x => r [x]) f) (hc : CallR X (.builtin id) r) (hm : X.mg x = none) (hv : bootBuiltins x = some (.builtin id)) (ha : PE X e (rdE Γ ar W fa)) (hg : Gl X x := by rfl) (hn : x ≠ "__name__" := by decide) (hdb : (x == ("__debug__" : Str)) = false := by decide) (he : starEach [e] X.env = (false, eval e X.env) :: starEach [] X.env := by rfl)
    (hpl : (backTo pos (starEach [] X.env)).any (·.1) = false := by rfl) : PE X (.Call (.Name x p) [e] [] pos) (rdE Γ ar W (eUn f fa)) := PE.imp (pe_callB hc hg hm hv (pa_cons ha pa_nil he) hn hdb he hpl) fun σ H Q q => tUn_e hf σ H Q q
theorem nCallT (hf : UnT Γ (fun x => r [x]) f) (hc : CallR X (.type tn) r) (hm : X.mg x = none) (hv : bootBuiltins x = some (.type tn)) (ha : PE X e (rdB Γ ar ga)) (hg : Gl X x := by rfl) (hn : x ≠ "__name__" := by decide) (hdb : (x == ("__debug__" : Str)) = false := by decide) (he : starEach [e] X.env = (false, eval e X.env) :: starEach [] X.env := by rfl)
    (hpl : (backTo pos (starEach [] X.env)).any (·.1) = false := by rfl) : PE X (.Call (.Name x p) [e] [] pos) (rdN Γ ar (bUn f ga)) := PE.imp (pe_callTy hc hg hm hv (pa_cons ha pa_nil he) hn hdb he hpl) fun σ H Q q => tUn_b hf σ H Q q
end
def lenT : T → Option T
  | .nd k ts => if isSq k = true then some (.int (ts.length : Int)) else none
  | .str z => if z.length ≤ 100000 then some (.int (z.length : Int)) else none
  | _ => none
theorem Rep.sq {H : Hp} {x : V} {k : Kd} {ts : List T} {G : FP} (h : Rep Γ H x (.nd k ts) G) (hk : isSq k = true) :
    ∃ a vs, x = .ref a ∧ (SqL Γ.K H a vs ∨ SqT Γ.K H a vs) ∧ vs.length = ts.length ∧ ∀ (i : Nat) (v : V) (t : T), vs[i]? = some v → ts[i]? = some t → Rep Γ H v t G := by
  cases k with
  | lst => obtain ⟨a, vs, e, q, hl, hc⟩ := h.list (.inl rfl); exact ⟨a, vs, e, .inl q, hl, hc⟩
  | fz => obtain ⟨a, vs, e, q, hl, hc⟩ := h.list (.inr rfl); exact ⟨a, vs, e, .inl q, hl, hc⟩
  | tup => obtain ⟨a, vs, e, q, hl, hc⟩ := h.tupl; exact ⟨a, vs, e, .inr q, hl, hc⟩
  | dK _ => cases hk
  | dT _ => cases hk
  | fK _ => cases hk
  | any => cases hk
  | obj _ _ => cases hk
def rLenT (K : PySem.W.Frag) : List V → Hp → VK → Prop := fun xs H Q => (∃ p ys, xs = [.ref p] ∧ (SqL K H p ys ∨ SqT K H p ys) ∧ Q (.int ys.length) H) ∨ ∃ x n, xs = [x] ∧ LenV K x H n ∧ Q (.int n) H
theorem call_lenT : CallR X (.builtin "len") (rLenT X.K) := or_CallR call_len_seq call_len
theorem lenT_ok : UnT Γ (fun x => rLenT Γ.K [x]) lenT := by
  intro H x t1 t G1 Q r1 e k
  unfold lenT at e
  split at e
  · rename_i kd ts
    by_cases hk : isSq kd = true
    · rw [if_pos hk] at e
      cases e
      obtain ⟨a, vs, rfl, q, hl, _⟩ := r1.sq hk
      exact .inl ⟨a, vs, rfl, q, by rw [hl]; exact k _ H FE (Same.refl H) (.int _) new_FE⟩
    · rw [if_neg hk] at e; cases e
  · rename_i z
    by_cases hz : z.length ≤ 100000
    · rw [if_pos hz] at e
      cases e
      cases r1
      exact .inr ⟨_, z.length, rfl, ⟨sz5 hz, rfl⟩, k _ H FE (Same.refl H) (.int _) new_FE⟩
    · rw [if_neg hz] at e; cases e
  · cases e
theorem n_len (hm : X.mg "len" = none) (ha : PE X e (rdB Γ ar ga)) (hK : X.K = Γ.K := by rfl) (hg : Gl X "len" := by rfl) (he : starEach [e] X.env = (false, eval e X.env) :: starEach [] X.env := by rfl) : PE X (.Call (.Name "len" p) [e] [] pos) (rdN Γ ar (bUn lenT ga)) := nCallB lenT_ok (hK ▸ call_lenT) hm PySem.boot_len ha hg (he := he)
theorem e_len (hm : X.mg "len" = none) (ha : PE X e (rdE Γ ar W fa)) (hK : X.K = Γ.K := by rfl) (hg : Gl X "len" := by rfl) (he : starEach [e] X.env = (false, eval e X.env) :: starEach [] X.env := by rfl) : PE X (.Call (.Name "len" p) [e] [] pos) (rdE Γ ar W (eUn lenT fa)) := eCallB lenT_ok (hK ▸ call_lenT) hm PySem.boot_len ha hg (he := he)
/-- list(x), tuple(x) -/
def listT : T → Option T
  | .nd k ts => if isSq k = true ∧ T.imAll ts = true then some (.nd .lst ts) else none
  | _ => none
def tupleT : T → Option T
  | .nd k ts => if isSq k = true ∧ T.imAll ts = true then some (.nd .tup ts) else none
  | _ => none
theorem listT_ok : UnT Γ (fun x => (fun xs H Q => ∃ p ys, xs = [V.ref p] ∧ (SqL Γ.K H p ys ∨ SqT Γ.K H p ys) ∧ ∀ l, H l = none → Q (.ref l) (upd H l (.lst ys))) [x]) listT := by
  intro H x t1 t G1 Q r1 e k
  unfold listT at e
  split at e
  · rename_i kd ts
    by_cases hk : isSq kd = true ∧ T.imAll ts = true
    · rw [if_pos hk] at e
      cases e
      obtain ⟨a, vs, rfl, q, hl, hc⟩ := r1.sq hk.1
      refine ⟨a, vs, rfl, q, fun l hl0 => ?_⟩
      obtain ⟨s, r, n⟩ := new_lst (Γ := Γ) hl0 hl hc hk.2
      exact k _ _ _ s r n
    · rw [if_neg hk] at e; cases e
  · cases e
theorem tupleT_ok : UnT Γ (fun x => (fun xs H Q => ∃ p ys, xs = [V.ref p] ∧ ((SqL Γ.K H p ys ∧ ∀ l, H l = none → Q (.ref l) (upd H l (.tup ys))) ∨ (SqT Γ.K H p ys ∧ Q (.ref p) H))) [x]) tupleT := by
  intro H x t1 t G1 Q r1 e k
  unfold tupleT at e
  split at e
  · rename_i kd ts
    by_cases hk : isSq kd = true ∧ T.imAll ts = true
    · rw [if_pos hk] at e
      cases e
      have mk : ∀ {G : FP} {vs : List V}, vs.length = ts.length → (∀ (i : Nat) (v : V) (t : T), vs[i]? = some v → ts[i]? = some t → Rep Γ H v t G) → ∀ l, H l = none → Q (.ref l) (upd H l (.tup vs)) := fun hl hc l hl0 => by
        obtain ⟨s, r, n⟩ := new_tup (Γ := Γ) hl0 hl hc hk.2
        exact k _ _ _ s r n
      cases kd with
      | tup =>
        obtain ⟨a, vs, rfl, q, hl, hc⟩ := r1.tupl
        exact ⟨a, vs, rfl, .inr ⟨q, k _ H FE (Same.refl H) (r1.im (by simp [T.im, hk.2]) FE) new_FE⟩⟩
      | lst =>
        obtain ⟨a, vs, rfl, q, hl, hc⟩ := r1.list (.inl rfl)
        exact ⟨a, vs, rfl, .inl ⟨q, mk hl hc⟩⟩
      | fz =>
        obtain ⟨a, vs, rfl, q, hl, hc⟩ := r1.list (.inr rfl)
        exact ⟨a, vs, rfl, .inl ⟨q, mk hl hc⟩⟩
      | dK _ => cases hk.1
      | dT _ => cases hk.1
      | fK _ => cases hk.1
      | any => cases hk.1
      | obj _ _ => cases hk.1
    · rw [if_neg hk] at e; cases e
  · cases e
end
end VT
namespace VT
open PySem L2
section
variable {Γ : Gx} {ar : Fx} {W : WX} {X : Cx} {a b e o : Expr} {pos p apos cpos : Pos} {ga gb g : BF} {fa fb : EF} {es : List Expr} {pl : PF}
theorem n_list (hm : X.mg "list" = none) (ha : PE X e (rdB Γ ar ga)) (hK : X.K = Γ.K := by rfl) (hg : Gl X "list" := by rfl) (he : starEach [e] X.env = (false, eval e X.env) :: starEach [] X.env := by rfl) : PE X (.Call (.Name "list" p) [e] [] pos) (rdN Γ ar (bUn listT ga)) := nCallT listT_ok (hK ▸ call_list_of) hm PyProof.Rows.boot_list ha hg (he := he)
theorem n_tuple (hm : X.mg "tuple" = none) (ha : PE X e (rdB Γ ar ga)) (hK : X.K = Γ.K := by rfl) (hg : Gl X "tuple" := by rfl) (he : starEach [e] X.env = (false, eval e X.env) :: starEach [] X.env := by rfl) : PE X (.Call (.Name "tuple" p) [e] [] pos) (rdN Γ ar (bUn tupleT ga)) := nCallT tupleT_ok (hK ▸ call_tuple_of) hm PyProof.Rows.boot_tuple ha hg (he := he)
def minT : T → T → Option T
  | .int i, .int j => some (.int (if j < i then j else i))
  | _, _ => none
theorem minT_ok : OpT Γ (fun x y H Q => (fun xs H Q => ∃ i j, xs = [V.int i, V.int j] ∧ Q (.int (if j < i then j else i)) H) [x, y] H Q) minT := opT_int (C := fun _ _ => True) (gt := fun i j => .int (if j < i then j else i)) (fun i j H Q _ q => ⟨i, j, rfl, q⟩) (fun i j H => .int _) fun t1 t2 t e => by
  unfold minT at e
  split at e
  · cases e; exact ⟨_, _, rfl, rfl, trivial, rfl⟩
  · cases e
theorem n_min (hc : X.calm = true) (hm : X.mg "min" = none) (ha : PE X a (rdB Γ ar ga)) (hb : PE X b (rdB Γ ar gb)) (hg : Gl X "min" := by rfl) (he : starEach [a, b] X.env = (false, eval a X.env) :: starEach [b] X.env := by rfl) (he2 : starEach [b] X.env = (false, eval b X.env) :: starEach [] X.env := by rfl) (hpl : (backTo pos (starEach [b] X.env)).any (·.1) = false := by rfl) : PE X (.Call (.Name "min" p) [a, b] [] pos) (rdN Γ ar (bOp minT ga gb)) :=
  PE.imp (pe_callB (call_min2 hc) hg hm PyProof.Rows.boot_min (pa_cons ha (pa_cons hb pa_nil he2) he) (by decide) (by decide) he hpl) fun σ H Q q => tOp_b minT_ok σ H Q q
theorem e_min (hc : X.calm = true) (hm : X.mg "min" = none) (ha : PE X a (rdE Γ ar W fa)) (hb : PE X b (rdE Γ ar W fb)) (hg : Gl X "min" := by rfl) (he : starEach [a, b] X.env = (false, eval a X.env) :: starEach [b] X.env := by rfl) (he2 : starEach [b] X.env = (false, eval b X.env) :: starEach [] X.env := by rfl) (hpl : (backTo pos (starEach [b] X.env)).any (·.1) = false := by rfl) : PE X (.Call (.Name "min" p) [a, b] [] pos) (rdE Γ ar W (eOp minT fa fb)) :=
  PE.imp (pe_callB (call_min2 hc) hg hm PyProof.Rows.boot_min (pa_cons ha (pa_cons hb pa_nil he2) he) (by decide) (by decide) he hpl) fun σ H Q q => tOp_e minT_ok σ H Q q
def tyN : T → Option String
  | .non => some "NoneType"
  | .bl _ => some "bool"
  | .int _ => some "int"
  | .str _ => some "str"
  | .nd .lst _ => some "list"
  | .nd .fz _ => some "list"
  | .nd .tup _ => some "tuple"
  | .nd (.dK _) _ => some "dict"
  | .nd (.dT _) _ => some "dict"
  | .nd (.fK _) _ => some "dict"
  | .nd .any _ => none
  | .nd (.obj _ _) _ => none
def isiB (a n : String) : Bool := a == n || (a == "bool" && n == "int")
def isiT (n : String) (t : T) : Option T := (tyN t).bind fun a => some (.bl (isiB a n))
theorem kitB_all : (["NoneType", "bool", "int", "str", "list", "tuple", "dict"].all fun a => ["int", "bool", "list", "tuple", "str"].all fun n => kitB a n == some (isiB a n)) = true := by decide +kernel
theorem Rep.tyN {H : Hp} {x : V} {t : T} {G : FP} {s : String} (h : Rep Γ H x t G) (e : VT.tyN t = some s) : TyX Γ.K H x (.type s) ∧ s ∈ ["NoneType", "bool", "int", "str", "list", "tuple", "dict"] := by
  cases h with
  | non => cases e; exact ⟨.base .non, by simp⟩
  | bl b => cases e; exact ⟨.base (.bl b), by simp⟩
  | int i => cases e; exact ⟨.base (.int i), by simp⟩
  | str x => cases e; exact ⟨.base (.str x), by simp⟩
  | @nd _ k a vs ts Fs hat _ _ _ _ _ =>
    cases k with
    | lst => cases e; exact ⟨.base (.lst hat), by simp⟩
    | tup => cases e; exact ⟨.base (.tup hat), by simp⟩
    | fz =>
      cases e
      refine ⟨?_, by simp⟩
      rcases hat with ⟨o, q⟩ | q
      · exact .base (.frz q)
      · rcases q (fun _ => none) with (z | ⟨o, z⟩) | ⟨o, its, n, z1, z2, _⟩
        · cases z
        · cases z
        · exact .kList z1 z2
    | dK ks => cases e; exact ⟨.base (.dK hat.2), by simp⟩
    | dT ks => cases e; exact ⟨.base (.dT hat.2), by simp⟩
    | fK ks => cases e; exact hat.2.elim fun o q => ⟨.fDict q, by simp⟩
    | any => cases e
    | obj c ns => cases e
theorem isiT_ok {n : String} (hn : n ∈ ["int", "bool", "list", "tuple", "str"]) : UnT Γ (fun x => rIsi Γ.K [x, .ty n]) (isiT n) := by
  intro H x t1 t G1 Q r1 e k
  unfold isiT at e
  cases e1 : tyN t1 with
  | none => rw [e1] at e; cases e
  | some s =>
    rw [e1] at e
    cases e
    obtain ⟨ty, hs⟩ := r1.tyN e1
    have kb : kitB s n = some (isiB s n) := by
      have h := List.all_eq_true.mp kitB_all s hs
      exact beq_iff_eq.mp (List.all_eq_true.mp h n hn)
    exact ⟨x, .ty n, _, _, _, rfl, .ty n, ty, kit_ty kb, k _ H FE (Same.refl H) (.bl _) new_FE⟩
theorem n_isi {n : String} {x : Str} {p1 : Pos} (hn : n ∈ ["int", "bool", "list", "tuple", "str"]) (hm : X.mg "isinstance" = none) (hmT : X.mg x = none) (hvT : bootBuiltins x = some (.type n)) (ha : PE X e (rdB Γ ar ga)) (hK : X.K = Γ.K := by rfl) (hg : Gl X "isinstance" := by rfl) (hgT : Gl X x := by rfl) (hnn : x ≠ "__name__" := by decide) (hdb : (x == ("__debug__" : Str)) = false := by decide)
    (he : starEach [e, .Name x p1] X.env = (false, eval e X.env) :: starEach [.Name x p1] X.env := by rfl) : PE X (.Call (.Name "isinstance" p) [e, .Name x p1] [] pos) (rdN Γ ar (bUn (isiT n) ga)) :=
  PE.imp (pe_callB (r := rIsi Γ.K) (hK ▸ call_isi) hg hm PyProof.Rows.boot_isinstance (pa_cons ha (pa_cons (pe_bltn (v := .ty n) hgT hmT hvT rfl hnn hdb) pa_nil) he) (by decide) (by decide) he) fun σ H Q q => tUn_b (isiT_ok hn) σ H Q q
def lrgT : T → Option T
  | .int n => if 0 ≤ n ∧ n ≤ 100000 then some (.nd .lst (rgT n)) else none
  | _ => none
theorem rgT_im (n : Int) : T.imAll (rgT n) = true := imAll_mem.mpr fun t ht => by
  obtain ⟨k, _, rfl⟩ := List.mem_map.mp ht
  rfl
theorem lrgT_ok : UnT Γ (fun x H Q => ∃ n, x = V.int n ∧ RgOk 0 n ∧ ∀ q, H q = none → Q (.ref q) (upd H q (.lst (rgV 0 n)))) lrgT := by
  intro H x t1 t G1 Q r1 e k
  unfold lrgT at e
  split at e
  · rename_i n
    by_cases hn : 0 ≤ n ∧ n ≤ 100000
    · rw [if_pos hn] at e
      cases e
      cases r1
      refine ⟨n, rfl, .of_le (by omega) (by omega) (by omega) (by omega), fun q hq => ?_⟩
      have hl : (rgV 0 n).length = (rgT n).length := by rw [rgV_length]; simp [rgT]
      obtain ⟨s, r, nw⟩ := new_lst (Γ := Γ) (G := FE) hq hl (fun i v t q1 q2 => by
        have hi : i < n.toNat := by
          have := (List.getElem?_eq_some_iff.mp q2).1
          simpa [rgT] using this
        have e1 : (rgV 0 n)[i]? = some (.int (i : Int)) := by
          have hr : (List.range (n - 0).toNat)[i]? = some i := by rw [List.getElem?_range (by omega)]
          unfold rgV
          rw [List.getElem?_map, hr]
          show some (V.int (0 + (i : Int))) = _
          rw [Int.zero_add]
        have e2 : (rgT n)[i]? = some (.int (i : Int)) := by simp [rgT, hi]
        rw [e1] at q1
        rw [e2] at q2
        cases q1
        cases q2
        exact .int _) (rgT_im n)
      exact k _ _ _ s r nw
    · rw [if_neg hn] at e; cases e
  · cases e
theorem n_listRg {p1 pos1 : Pos} (hc : X.calm = true) (hm : X.mg "list" = none) (hm2 : X.mg "range" = none) (ha : PE X e (rdB Γ ar ga)) (hg : Gl X "list" := by rfl) (hg2 : Gl X "range" := by rfl) (h1 : starEach [e] X.env = (false, eval e X.env) :: starEach [] X.env := by rfl) : PE X (.Call (.Name "list" p) [.Call (.Name "range" p1) [e] [] pos1] [] pos) (rdN Γ ar (bUn lrgT ga)) :=
  PE.imp (pe_listRg hc hg hm (prg_1 hg2 hm2 ha h1)) fun σ H Q q => tUn_b lrgT_ok σ H Q q
theorem PO.imp {e : Option Expr} {t t' : TO} (h : PO X e t) (k : ∀ σ H Q, t' σ H Q → t σ H Q) : PO X e t' := ⟨fun pins s σ H Q I q => h.run pins s σ H Q I (k σ H Q q)⟩
theorem SlR.or {r r' : V → Option Int → Option Int → Hp → VK → Prop} (h : SlR X r) (h' : SlR X r') : SlR X (fun x lo hi H Q => r x lo hi H Q ∨ r' x lo hi H Q) := by
  intro pins s σ H x v vl vu lo hi sl Q I rx hs pl pu q
  rcases q with q | q
  · exact h pins s σ H x v vl vu lo hi sl Q I rx hs pl pu q
  · exact h' pins s σ H x v vl vu lo hi sl Q I rx hs pl pu q
def setM (k : Int) : MuF
  | .nd .lst ts, [t] => (ixN ts.length k).bind fun j => some (.nd .lst (ts.set j t), .non)
  | _, _ => none
def rSetX (k : Int) : V → List V → Hp → VK → Prop := fun x vs H Q => ∃ y, vs = [y] ∧ rSetL x (.int k) y H fun H3 => Q .non H3
theorem ixN_lt {n : Nat} {i : Int} {j : Nat} (h : ixN n i = some j) : j < n := by
  unfold ixN at h
  split at h
  · split at h
    · cases h; omega
    · cases h
  · split at h
    · cases h; omega
    · cases h
theorem setM_ok {i : Int} : MutT Γ (rSetX i) (setM i) := by
  intro H x u us u' res G Gx Gs vs Q r hl hg hd hs dj e k
  unfold setM at e
  split at e
  · rename_i ts t
    cases e1 : ixN ts.length i with
    | none => rw [e1] at e; cases e
    | some j =>
      rw [e1] at e
      cases e
      cases r with
      | @nd _ _ a ws _ Fs hat hlw hm hc hdd hss =>
        have hat : H a = some (.lst ws) := hat
        have hlw : ws.length = ts.length := hlw
        have hj : j < ts.length := ixN_lt e1
        match vs, hl with
        | [y], _ =>
          have ry := hg 0 y _ rfl rfl
          have dj1 : ∀ a, G a → Gs 0 a → False := fun a g z => dj a g (hs 0 a z)
          refine ⟨y, rfl, a, ws, i, j, rfl, rfl, hat, by rw [hlw]; exact e1, ?_⟩
          refine k _ _ (fun x => x = a ∨ ∃ i, (fun m => if m = j then Gs 0 else Fs m) i x) FE (ke_upd hat (fun z => z) (hm rfl).1) (fun b z => ?_) (fun _ _ z => z) al_upd
            (node_upd hat (fun z => z) upd_same (by rw [List.length_set, List.length_set]; exact hlw) (set_kids hc ry hj hlw) (set_dj hdd hss dj1) fun i z => ?_) .non
          · rcases z with (z | ⟨i, z⟩) | z
            · rw [z]; exact .inl (hm rfl).1
            · by_cases c1 : i = j
              · simp only [if_pos c1] at z; exact .inr (hs 0 b z)
              · simp only [if_neg c1] at z; exact .inl (hss i b z)
            · exact z.elim
          · by_cases c1 : i = j
            · simp only [if_pos c1] at z; exact dj1 a (hm rfl).1 z
            · simp only [if_neg c1] at z; exact (hm rfl).2 i z
  · cases e
end
end VT
namespace VT
open PySem L2
section
variable {Γ : Gx} {ar : Fx} {W : WX} {X : Cx} {a b e o : Expr} {pos p apos cpos : Pos} {ga gb g : BF} {fa fb : EF} {es : List Expr} {pl : PF} {r : R2} {f : T → T → Option T}
theorem en_ok {σ : St} {H : Hp} {Q : VK} (q : rdE Γ ar W (eOfN g) σ H Q) : rdN Γ ar g σ H Q := by
  obtain ⟨S, F, r, S', R, e, k⟩ := q
  unfold eOfN at e
  cases e1 : g S with
  | none => rw [e1] at e; cases e
  | some t =>
    rw [e1] at e
    have e2 : (Rs.ok t, S) = (r, S') := Option.some.inj e
    cases e2
    exact ⟨S, F, t, R, e1, fun v H' G s r n => k v H' F G (own_new R s r n)⟩
theorem t_cmpN {op : CmpOp} (ho : OpR X (compareOp op) r) (hf : OpT Γ r f) (ha : PE X a (rdB Γ ar ga)) (hb : PE X b (rdB Γ ar gb)) (hm : behindInMarks op b = false) : PT X (.Compare a [op] [b] pos) (rdT Γ ar W (eOfN (bOp f ga gb))) :=
  PT.imp (pt_cmpR ho ha hb hm) fun σ H Q q => tOp_b hf σ H _ (en_ok q)
/-- the left with effects, the right read behind it -/
def eOpB (f : T → T → Option T) (fa : EF) (gb : BF) : EF := fun S => (fa S).bind fun rx => match rx with
  | (.ex c, S1) => some (.ex c, S1)
  | (.ok x, S1) => (gb S1).bind fun y => (f x y).bind fun z => some (.ok z, S1)
theorem tOp_eb (h : OpT Γ r f) {σ : St} {H : Hp} {Q : VK} (q : rdE Γ ar W (eOpB f fa gb) σ H Q) : tOp r (rdE Γ ar W fa) (rdB Γ ar gb) σ H Q := by
  obtain ⟨S, F, rr, S', R, e, k⟩ := q
  unfold eOpB at e
  cases e1 : fa S with
  | none => rw [e1] at e; cases e
  | some o1 =>
    obtain ⟨r1, S1⟩ := o1
    rw [e1] at e
    simp only [Option.bind_some] at e
    cases r1 with
    | ex c => cases e; exact ⟨S, F, .ex c, _, R, e1, k⟩
    | ok x =>
      simp only at e
      cases e2 : gb S1 with
      | none => rw [e2] at e; cases e
      | some y =>
        rw [e2] at e
        simp only [Option.bind_some] at e
        cases e3 : f x y with
        | none => rw [e3] at e; cases e
        | some z =>
          rw [e3] at e
          cases e
          refine ⟨S, F, .ok x, _, R, e1, fun v H1 F1 G1 o1 => ⟨_, F1, y, o1.rs, e2, fun w H2 G2 s2 r2 => ?_⟩⟩
          refine h H2 v w x y z G1 G2 Q (o1.r.same s2) r2 e3 fun v3 H3 G s3 r3 n => ?_
          exact k v3 H3 F1 G (own_after ((o1.same s2).u.sub fun a z => .inl z) (o1.rs.same s2) s3 r3 n)
theorem eOpEB {op : Operator} (ho : OpR X (binaryOp op) r) (hf : OpT Γ r f) (ha : PE X a (rdE Γ ar W fa)) (hb : PE X b (rdB Γ ar gb)) : PE X (.BinOp a op b pos) (rdE Γ ar W (eOpB f fa gb)) := PE.imp (pe_op ho ha hb) fun _ _ _ q => tOp_eb hf q
theorem eCmpEB {op : CmpOp} (ho : OpR X (compareOp op) r) (hf : OpT Γ r f) (ha : PE X a (rdE Γ ar W fa)) (hb : PE X b (rdB Γ ar gb)) (hm : behindInMarks op b = false) : PE X (.Compare a [op] [b] pos) (rdE Γ ar W (eOpB f fa gb)) := PE.imp (pe_cmpR ho ha hb hm) fun _ _ _ q => tOp_eb hf q
theorem t_cmpEB {op : CmpOp} (ho : OpR X (compareOp op) r) (hf : OpT Γ r f) (ha : PE X a (rdE Γ ar W fa)) (hb : PE X b (rdB Γ ar gb)) (hm : behindInMarks op b = false) : PT X (.Compare a [op] [b] pos) (rdT Γ ar W (eOpB f fa gb)) := PT.imp (pt_cmpR ho ha hb hm) fun _ _ _ q => tOp_eb hf q
end
end VT
namespace VT
open PySem L2
theorem ob_some {α β : Type} {a : α} {f : α → Option β} : (some a).bind f = f a := rfl
def kEn (S : TSt) (t : T) : Option (Rs T × TSt) := some (.ok t, S)
def kOp2 (f : T → T → Option T) (x : T) : Rs T × TSt → Option (Rs T × TSt)
  | (.ex c, S2) => some (.ex c, S2)
  | (.ok y, S2) => (f x y).bind (kEn S2)
def kOp1 (f : T → T → Option T) (fb : EF) : Rs T × TSt → Option (Rs T × TSt)
  | (.ex c, S1) => some (.ex c, S1)
  | (.ok x, S1) => (fb S1).bind (kOp2 f x)
def kB1 (f : T → T → Option T) (x : T) (S : TSt) (y : T) : Option (Rs T × TSt) := (f x y).bind (kEn S)
def kOpB (f : T → T → Option T) (gb : BF) : Rs T × TSt → Option (Rs T × TSt)
  | (.ex c, S1) => some (.ex c, S1)
  | (.ok x, S1) => (gb S1).bind (kB1 f x S1)
def kUn (f : T → Option T) : Rs T × TSt → Option (Rs T × TSt)
  | (.ex c, S1) => some (.ex c, S1)
  | (.ok x, S1) => (f x).bind (kEn S1)
def kBop (f : T → T → Option T) (gb : BF) (S : TSt) (x : T) : Option T := (gb S).bind (f x)
def kAt (p : List Nat) (t : T) : Option T := tAt p t
def kPl (S : TSt) (ip : Nat × List Nat) : Option T := (sl S ip.1).bind (kAt ip.2)
def kSeq (u : SF) : Fl × TSt → Option (Fl × TSt)
  | (.nx, S1) => u S1
  | (fl, S1) => some (fl, S1)
def kSet (i : Nat) : Rs T × TSt → Option (Fl × TSt)
  | (.ex c, S1) => some (.ex c, S1)
  | (.ok t, S1) => some (.nx, S1.set i (some t))
def kRet : Rs T × TSt → Option (Fl × TSt)
  | (.ex c, S1) => some (.ex c, S1)
  | (.ok t, S1) => some (.rt t, S1)
def kExpr : Rs T × TSt → Option (Fl × TSt)
  | (.ex c, S1) => some (.ex c, S1)
  | (.ok _, S1) => some (.nx, S1)
def kIf (s u : SF) : Rs T × TSt → Option (Fl × TSt)
  | (.ex c, S1) => some (.ex c, S1)
  | (.ok (.bl true), S1) => s S1
  | (.ok (.bl false), S1) => u S1
  | _ => none
def kNot : Rs T × TSt → Option (Rs T × TSt)
  | (.ex c, S1) => some (.ex c, S1)
  | (.ok (.bl b), S1) => some (.ok (.bl (!b)), S1)
  | _ => none
def kAnd (fb : EF) : Rs T × TSt → Option (Rs T × TSt)
  | (.ex c, S1) => some (.ex c, S1)
  | (.ok (.bl true), S1) => fb S1
  | (.ok (.bl false), S1) => some (.ok (.bl false), S1)
  | _ => none
def kOr (fb : EF) : Rs T × TSt → Option (Rs T × TSt)
  | (.ex c, S1) => some (.ex c, S1)
  | (.ok (.bl false), S1) => fb S1
  | (.ok (.bl true), S1) => some (.ok (.bl true), S1)
  | _ => none
def kVar (S : TSt) (i : Nat) (t : T) : Option (Rs T × TSt) := if t.im = true then some (.ok t, S) else some (.ok t, S.set i none)
def kPV (i : Nat) (_ : T) : Option (Nat × List Nat) := some (i, [])
def kA2 (t : T) : Rs (List Arg) × TSt → Option (Rs (List Arg) × TSt)
  | (.ex c, S2) => some (.ex c, S2)
  | (.ok l, S2) => some (.ok (.val t :: l), S2)
def kA1 (fs : AF) : Rs T × TSt → Option (Rs (List Arg) × TSt)
  | (.ex c, S1) => some (.ex c, S1)
  | (.ok t, S1) => (fs S1).bind (kA2 t)
def kAr2 (x : Arg) : Rs (List Arg) × TSt → Option (Rs (List Arg) × TSt)
  | (.ex c, S2) => some (.ex c, S2)
  | (.ok l, S2) => some (.ok (x :: l), S2)
def kAr (fs : AF) (S : TSt) (x : Arg) : Option (Rs (List Arg) × TSt) := (fs S).bind (kAr2 x)
def kArg (i : Nat) (t : T) : Option Arg := if t.im = true then some (.val t) else some (.pth i [])
def kD2 (k : Kd) (S : TSt) (ts : List T) : Option (Rs T × TSt) := if ts.length ≤ 100000 then some (.ok (.nd k ts), S) else none
def kD1 (k : Kd) : Rs (List Arg) × TSt → Option (Rs T × TSt)
  | (.ex c, S1) => some (.ex c, S1)
  | (.ok l, S1) => (valsOf l).bind (kD2 k S1)
def kCall (m : MF) (n : Nat) : Rs (List Arg) × TSt → Option (Rs T × TSt)
  | (.ex c, S1) => some (.ex c, S1)
  | (.ok as, S1) => callR m n S1 as
def kC2 (n : Nat) (S : TSt) (as : List Arg) (rt : Rs T × List T) : Option (Rs T × TSt) := if rt.2.length = n then some (rt.1, putBack S as rt.2) else none
def kC1 (m : MF) (n : Nat) (S : TSt) (as : List Arg) (ts : List T) : Option (Rs T × TSt) := (m ts).bind (kC2 n S as)
def kBV2 (t : T) (l : List Arg) : Option (List Arg) := some (.val t :: l)
def kBV (gs : BAF) (S : TSt) (t : T) : Option (List Arg) := (gs S).bind (kBV2 t)
def kBR2 (x : Arg) (l : List Arg) : Option (List Arg) := some (x :: l)
def kBR (gs : BAF) (S : TSt) (x : Arg) : Option (List Arg) := (gs S).bind (kBR2 x)
def kNT2 (ts : List T) : Option T := gd (ts.length ≤ 100000 ∧ T.imAll ts = true) (.nd .tup ts)
def kNT (l : List Arg) : Option T := (valsOf l).bind kNT2
def kBody2 (fl : Fl) (ts' : List T) : Option (Rs T × List T) := match fl with
  | .nx => some (.ok .non, ts')
  | .rt t => some (.ok t, ts')
  | .ex c => some (.ex c, ts')
  | _ => none
def kBody (n : Nat) (rx : Fl × TSt) : Option (Rs T × List T) := (allSome (rx.2.take n)).bind (kBody2 rx.1)
section
variable {f : T → T → Option T} {f1 : T → Option T} {fa fb fc : EF} {ga gb g : BF} {S S1 : TSt} {i j n c : Nat} {s u : SF} {b : Bool} {t x y : T} {pl : PF} {fs : AF} {as : List Arg} {m : MF} {k : Kd} {gs : BAF} {ts : List T}
theorem eOp_q : eOp f fa fb S = (fa S).bind (kOp1 f fb) := rfl
theorem kOp1_ok : kOp1 f fb (.ok x, S) = (fb S).bind (kOp2 f x) := rfl
theorem kOp2_ok : kOp2 f x (.ok y, S) = (f x y).bind (kEn S) := rfl
theorem kEn_q : kEn S t = some (.ok t, S) := rfl
theorem eOpB_q : eOpB f fa gb S = (fa S).bind (kOpB f gb) := rfl
theorem kOpB_ok : kOpB f gb (.ok x, S) = (gb S).bind (kB1 f x S) := rfl
theorem kB1_q : kB1 f x S y = (f x y).bind (kEn S) := rfl
theorem eUn_q : eUn f1 fa S = (fa S).bind (kUn f1) := rfl
theorem kUn_ok : kUn f1 (.ok x, S) = (f1 x).bind (kEn S) := rfl
theorem eOfN_q : eOfN g S = (g S).bind (kEn S) := rfl
theorem bOp_q : bOp f ga gb S = (ga S).bind (kBop f gb S) := rfl
theorem kBop_q : kBop f gb S x = (gb S).bind (f x) := rfl
theorem bUn_q : bUn f1 ga S = (ga S).bind f1 := rfl
theorem bOfP_q : bOfP pl S = (pl S).bind (kPl S) := rfl
theorem kPl_q {p : List Nat} : kPl S (i, p) = (sl S i).bind (kAt p) := rfl
theorem kAt_q {p : List Nat} : kAt p t = tAt p t := rfl
theorem tAt_nil : tAt [] t = some t := rfl
theorem tAt_nd {p : List Nat} : tAt (i :: p) (.nd k ts) = if k.mu = true then ts[i]?.bind (kAt p) else none := rfl
theorem nC_q : nC t S = some t := rfl
theorem nOfB_q : nOfB g S = (g S).bind imO := rfl
theorem pVar_q : pVar i S = (sl S i).bind (kPV i) := rfl
theorem kPV_q : kPV i t = some (i, []) := rfl
theorem eVar_q : eVar i S = (sl S i).bind (kVar S i) := rfl
theorem kVar_q : kVar S i t = if t.im = true then some (.ok t, S) else some (.ok t, S.set i none) := rfl
theorem sSeq_q : sSeq s u S = (s S).bind (kSeq u) := rfl
theorem kSeq_nx : kSeq u (.nx, S) = u S := rfl
theorem kSeq_rt : kSeq u (.rt t, S) = some (.rt t, S) := rfl
theorem kSeq_ex : kSeq u (.ex c, S) = some (.ex c, S) := rfl
theorem kSeq_bk : kSeq u (.bk, S) = some (.bk, S) := rfl
theorem kSeq_ct : kSeq u (.ct, S) = some (.ct, S) := rfl
theorem sSet_q : sSet i fa S = (fa S).bind (kSet i) := rfl
theorem kSet_ok : kSet i (.ok t, S) = some (.nx, S.set i (some t)) := rfl
theorem sRet_q : sRet fa S = (fa S).bind kRet := rfl
theorem kRet_ok : kRet (.ok t, S) = some (.rt t, S) := rfl
theorem sExpr_q : sExpr fa S = (fa S).bind kExpr := rfl
theorem kExpr_ok : kExpr (.ok t, S) = some (.nx, S) := rfl
theorem sNil_q : sNil S = some (.nx, S) := rfl
theorem sIf_q : sIf fa s u S = (fa S).bind (kIf s u) := rfl
theorem kIf_q : kIf s u (.ok (.bl b), S) = if b = true then s S else u S := by cases b <;> rfl
theorem eNot_q : eNot fa S = (fa S).bind kNot := rfl
theorem kNot_q : kNot (.ok (.bl b), S) = some (.ok (.bl (!b)), S) := rfl
theorem eAnd_q : eAnd fa fb S = (fa S).bind (kAnd fb) := rfl
theorem kAnd_q : kAnd fb (.ok (.bl b), S) = if b = true then fb S else some (.ok (.bl false), S) := by cases b <;> rfl
theorem eOr_q : eOr fa fb S = (fa S).bind (kOr fb) := rfl
theorem kOr_q : kOr fb (.ok (.bl b), S) = if b = true then some (.ok (.bl true), S) else fb S := by cases b <;> rfl
theorem aNil_q : aNil S = some (.ok [], S) := rfl
theorem aVal_q : aVal fa fs S = (fa S).bind (kA1 fs) := rfl
theorem kA1_ok : kA1 fs (.ok t, S) = (fs S).bind (kA2 t) := rfl
theorem kA2_ok : kA2 t (.ok as, S) = some (.ok (.val t :: as), S) := rfl
theorem aRef_q : aRef i fs S = (argOf S i).bind (kAr fs S) := rfl
theorem kAr_q {x : Arg} : kAr fs S x = (fs S).bind (kAr2 x) := rfl
theorem kAr2_ok {x : Arg} : kAr2 x (.ok as, S) = some (.ok (x :: as), S) := rfl
theorem argOf_q : argOf S i = (sl S i).bind (kArg i) := rfl
theorem kArg_q : kArg i t = if t.im = true then some (.val t) else some (.pth i []) := rfl
theorem eDisp_q : eDisp k fs S = (fs S).bind (kD1 k) := rfl
theorem kD1_ok : kD1 k (.ok as, S) = (valsOf as).bind (kD2 k S) := rfl
theorem kD2_q : kD2 k S ts = if ts.length ≤ 100000 then some (.ok (.nd k ts), S) else none := rfl
theorem valsOf_nil : valsOf [] = some [] := rfl
def kVl (t : T) (ts : List T) : Option (List T) := some (t :: ts)
theorem valsOf_val : valsOf (.val t :: as) = (valsOf as).bind (kVl t) := rfl
theorem kVl_q : kVl t ts = some (t :: ts) := rfl
theorem eCall_q : eCall m n fs S = (fs S).bind (kCall m n) := rfl
theorem kCall_ok : kCall m n (.ok as, S) = callR m n S as := rfl
theorem callR_q : callR m n S as = if as.length = n then (argTrees S as).bind (kC1 m n S as) else none := rfl
theorem kC1_q : kC1 m n S as ts = (m ts).bind (kC2 n S as) := rfl
theorem kC2_q {r : Rs T} : kC2 n S as (r, ts) = if ts.length = n then some (r, putBack S as ts) else none := rfl
theorem argT_nil : argTrees S [] = some [] := rfl
theorem argT_val : argTrees S (.val t :: as) = (argTrees S as).bind (kVl t) := rfl
def kAT2 (S : TSt) (i : Nat) (as : List Arg) (u : T) : Option (List T) := (argTrees (S.set i none) as).bind (kVl u)
def kAT1 (S : TSt) (i : Nat) (p : List Nat) (as : List Arg) (t : T) : Option (List T) := (tAt p t).bind (kAT2 S i as)
theorem argT_pth {p : List Nat} : argTrees S (.pth i p :: as) = (sl S i).bind (kAT1 S i p as) := rfl
theorem kAT1_q {p : List Nat} : kAT1 S i p as t = (tAt p t).bind (kAT2 S i as) := rfl
theorem kAT2_q : kAT2 S i as t = (argTrees (S.set i none) as).bind (kVl t) := rfl
theorem putB_nil : putBack S [] ts = S := rfl
theorem putB_val : putBack S (.val t :: as) ts = putBack S as ts.tail := rfl
theorem tPut_nil : tPut [] x y = y := rfl
theorem tPut_nd {p : List Nat} : tPut (i :: p) (.nd k ts) y = .nd k (ts.set i (tPut p (ts.getD i .non) y)) := rfl
theorem nTup_q : nTup gs S = (gs S).bind kNT := rfl
theorem kNT_q : kNT as = (valsOf as).bind kNT2 := rfl
theorem kNT2_q : kNT2 ts = gd (ts.length ≤ 100000 ∧ T.imAll ts = true) (.nd .tup ts) := rfl
theorem baNil_q : baNil S = some [] := rfl
theorem baVal_q : baVal g gs S = (g S).bind (kBV gs S) := rfl
theorem kBV_q : kBV gs S t = (gs S).bind (kBV2 t) := rfl
theorem kBV2_q : kBV2 t as = some (.val t :: as) := rfl
theorem baRef_q : baRef i gs S = (argOf S i).bind (kBR gs S) := rfl
theorem kBR_q {x : Arg} : kBR gs S x = (gs S).bind (kBR2 x) := rfl
theorem kBR2_q {x : Arg} : kBR2 x as = some (x :: as) := rfl
theorem mBody_q {N : Nat} : mBody n N s ts = if ts.length = n then (s (ts.map some ++ List.replicate (N - n) none)).bind (kBody n) else none := rfl
theorem kBody_q {fl : Fl} : kBody n (fl, S) = (allSome (S.take n)).bind (kBody2 fl) := rfl
theorem kBody2_nx : kBody2 .nx ts = some (.ok .non, ts) := rfl
theorem kBody2_rt : kBody2 (.rt t) ts = some (.ok t, ts) := rfl
theorem kBody2_ex : kBody2 (.ex c) ts = some (.ex c, ts) := rfl
theorem allS_nil : allSome [] = some [] := rfl
theorem allS_some : allSome (some t :: S) = (allSome S).bind (kVl t) := rfl
theorem imO_int {i : Int} : imO (.int i) = some (.int i) := rfl
theorem imO_str {x : Str} : imO (.str x) = some (.str x) := rfl
theorem imO_bl : imO (.bl b) = some (.bl b) := rfl
theorem imO_non : imO .non = some .non := rfl
theorem im_int {i : Int} : (T.int i).im = true := rfl
theorem im_str {x : Str} : (T.str x).im = true := rfl
theorem im_bl : (T.bl b).im = true := rfl
theorem im_non : T.non.im = true := rfl
theorem im_tup : (T.nd .tup ts).im = T.imAll ts := by simp [T.im]
theorem im_fz : (T.nd .fz ts).im = T.imAll ts := by simp [T.im]
theorem im_lst : (T.nd .lst ts).im = false := by simp [T.im]
theorem im_obj {ns : List Str} : (T.nd (.obj c ns) ts).im = false := by simp [T.im]
theorem imO_tup : imO (.nd .tup ts) = if T.imAll ts = true then some (.nd .tup ts) else none := by unfold imO; rw [im_tup]
theorem imAll_nil : T.imAll [] = true := by simp [T.imAll]
theorem imAll_cons : T.imAll (t :: ts) = (t.im && T.imAll ts) := by simp [T.imAll]
theorem mu_lst : Kd.lst.mu = true := rfl
theorem mu_obj {ns : List Str} : (Kd.obj c ns).mu = true := rfl
theorem gd_pos {c : Prop} [Decidable c] (h : c) : gd c t = some t := if_pos h
theorem gd_tr {h : Decidable True} : @gd True h t = some t := if_pos trivial
theorem mulT_i {i j : Int} : mulT (.int i) (.int j) = gd ((-18446744073709551616 < i ∧ i < 18446744073709551616) ∨ (-18446744073709551616 < j ∧ j < 18446744073709551616)) (.int (i * j)) := rfl
theorem modT_i {i j : Int} : modT (.int i) (.int j) = gd (0 < j) (.int (i % j)) := rfl
theorem fdivT_i {i j : Int} : fdivT (.int i) (.int j) = gd (0 < j ∧ j < 1073741824) (.int (i / j)) := rfl
theorem powT_i {i j : Int} : powT (.int i) (.int j) = gd (0 ≤ j ∧ j ≤ 1000000 ∧ i.natAbs < 18446744073709551616) (.int (i ^ j.toNat)) := rfl
theorem ltT_i {i j : Int} : ltT (.int i) (.int j) = some (.bl (decide (i < j))) := rfl
theorem gtT_i {i j : Int} : gtT (.int i) (.int j) = some (.bl (decide (j < i))) := rfl
theorem geT_i {i j : Int} : geT (.int i) (.int j) = some (.bl (decide (j ≤ i))) := rfl
theorem minT_i {i j : Int} : minT (.int i) (.int j) = some (.int (if j < i then j else i)) := rfl
theorem ixT_lst {i : Int} : ixT (.nd .lst ts) (.int i) = (atI ts i).bind imO := rfl
theorem ixT_fz {i : Int} : ixT (.nd .fz ts) (.int i) = (atI ts i).bind imO := rfl
theorem ixT_tup {i : Int} : ixT (.nd .tup ts) (.int i) = (atI ts i).bind imO := rfl
theorem lenT_lst : lenT (.nd .lst ts) = some (.int (ts.length : Int)) := rfl
theorem lenT_fz : lenT (.nd .fz ts) = some (.int (ts.length : Int)) := rfl
theorem lenT_tup : lenT (.nd .tup ts) = some (.int (ts.length : Int)) := rfl
theorem isN_non : T.non.isN = true := rfl
theorem isN_int {i : Int} : (T.int i).isN = false := rfl
theorem isN_nd : (T.nd k ts).isN = false := rfl
theorem isN_str {x : Str} : (T.str x).isN = false := rfl
def kM3 (S : TSt) (i : Nat) (p : List Nat) (t0 : T) (ur : T × T) : Option (Fl × TSt) := some (.nx, S.set i (some (tPut p t0 ur.1)))
def kM2 (m : MuF) (t : T) (S : TSt) (i : Nat) (p : List Nat) (t0 u : T) : Option (Fl × TSt) := (m u [t]).bind (kM3 S i p t0)
def kM1 (m : MuF) (t : T) (S : TSt) (i : Nat) (p : List Nat) (t0 : T) : Option (Fl × TSt) := (tAt p t0).bind (kM2 m t S i p t0)
def kM0 (m : MuF) (t : T) (S : TSt) (ip : Nat × List Nat) : Option (Fl × TSt) := (sl S ip.1).bind (kM1 m t S ip.1 ip.2)
def kMu (m : MuF) (pl : PF) : Rs T × TSt → Option (Fl × TSt)
  | (.ex c, S1) => some (.ex c, S1)
  | (.ok t, S1) => (pl S1).bind (kM0 m t S1)
variable {mu : MuF} {p : List Nat} {t0 : T}
theorem sMut_q : sMut mu pl fa S = (fa S).bind (kMu mu pl) := rfl
theorem kMu_ok : kMu mu pl (.ok t, S) = (pl S).bind (kM0 mu t S) := rfl
theorem kM0_q : kM0 mu t S (i, p) = (sl S i).bind (kM1 mu t S i p) := rfl
theorem kM1_q : kM1 mu t S i p t0 = (tAt p t0).bind (kM2 mu t S i p t0) := rfl
theorem kM2_q : kM2 mu t S i p t0 x = (mu x [t]).bind (kM3 S i p t0) := rfl
theorem kM3_q : kM3 S i p t0 (x, y) = some (.nx, S.set i (some (tPut p t0 x))) := rfl
def kSM (ts : List T) (t : T) (j : Nat) : Option (T × T) := some (.nd .lst (ts.set j t), .non)
theorem setM_q {k : Int} : setM k (.nd .lst ts) [t] = (ixN ts.length k).bind (kSM ts t) := rfl
theorem kSM_q : kSM ts t j = some (.nd .lst (ts.set j t), .non) := rfl
end
end VT
namespace VT
open PySem L2
section
variable {f : T → T → Option T} {f1 : T → Option T} {fa fb fc : EF} {ga gb g : BF} {S S1 : TSt} {i j n c : Nat} {s u : SF} {b : Bool} {t x y : T} {pl : PF} {fs : AF} {as : List Arg} {m : MF} {k : Kd} {gs : BAF} {ts : List T} {p : List Nat} {ct : Nat → List Str} {fl : Str} {ns : List Str} {tf : GF} {body : SF} {mu : MuF}
def kF4 (i : Nat) (p : List Nat) (j : Nat) : Option (Nat × List Nat) := some (i, p ++ [j])
def kF3 (ct : Nat → List Str) (f : Str) (i : Nat) (p : List Nat) (u : T) : Option (Nat × List Nat) := match u with
  | .nd (.obj c ns) _ => if (ct c).contains f = true then (ixOf f ns).bind (kF4 i p) else none
  | _ => none
def kF2 (ct : Nat → List Str) (f : Str) (i : Nat) (p : List Nat) (t : T) : Option (Nat × List Nat) := (tAt p t).bind (kF3 ct f i p)
def kF1 (ct : Nat → List Str) (f : Str) (S : TSt) (ip : Nat × List Nat) : Option (Nat × List Nat) := (sl S ip.1).bind (kF2 ct f ip.1 ip.2)
theorem pFld_q : pFld ct fl pl S = (pl S).bind (kF1 ct fl S) := rfl
theorem kF1_q : kF1 ct fl S (i, p) = (sl S i).bind (kF2 ct fl i p) := rfl
theorem kF2_q : kF2 ct fl i p t = (tAt p t).bind (kF3 ct fl i p) := rfl
theorem kF3_q : kF3 ct fl i p (.nd (.obj c ns) ts) = if (ct c).contains fl = true then (ixOf fl ns).bind (kF4 i p) else none := rfl
theorem kF4_q : kF4 i p j = some (i, p ++ [j]) := rfl
def kMe2 (m : MF) (n i : Nat) : Rs (List Arg) × TSt → Option (Rs T × TSt)
  | (.ex k, S1) => some (.ex k, S1)
  | (.ok as, S1) => callR m n S1 (.pth i [] :: as)
def kMe (m : MF) (n c : Nat) (x : Str) (i : Nat) (fs : AF) (S : TSt) (t : T) : Option (Rs T × TSt) := if isObj c x t = true then (fs S).bind (kMe2 m n i) else none
variable {me : Str}
theorem eMeth_q : eMeth m n c me i fs S = (sl S i).bind (kMe m n c me i fs S) := rfl
theorem kMe_q : kMe m n c me i fs S t = if isObj c me t = true then (fs S).bind (kMe2 m n i) else none := rfl
theorem kMe2_q : kMe2 m n i (.ok as, S) = callR m n S (.pth i [] :: as) := rfl
def kMP3 (m : MF) (n : Nat) (S : TSt) (i : Nat) (p : List Nat) (as : List Arg) : Option (Rs T × TSt) := callR m n S (.pth i p :: as)
def kMP2 (m : MF) (n c : Nat) (x : Str) (gs : BAF) (S : TSt) (i : Nat) (p : List Nat) (u : T) : Option (Rs T × TSt) := if isObj c x u = true then (gs S).bind (kMP3 m n S i p) else none
def kMP1 (m : MF) (n c : Nat) (x : Str) (gs : BAF) (S : TSt) (i : Nat) (p : List Nat) (t : T) : Option (Rs T × TSt) := (tAt p t).bind (kMP2 m n c x gs S i p)
def kMP (m : MF) (n c : Nat) (x : Str) (gs : BAF) (S : TSt) (ip : Nat × List Nat) : Option (Rs T × TSt) := (sl S ip.1).bind (kMP1 m n c x gs S ip.1 ip.2)
theorem eMethP_q : eMethP m n c me pl gs S = (pl S).bind (kMP m n c me gs S) := rfl
theorem kMP_q : kMP m n c me gs S (i, p) = (sl S i).bind (kMP1 m n c me gs S i p) := rfl
theorem kMP1_q : kMP1 m n c me gs S i p t = (tAt p t).bind (kMP2 m n c me gs S i p) := rfl
theorem kMP2_q : kMP2 m n c me gs S i p t = if isObj c me t = true then (gs S).bind (kMP3 m n S i p) else none := rfl
theorem kMP3_q : kMP3 m n S i p as = callR m n S (.pth i p :: as) := rfl
def kPB (o : Option T) (R : TSt) (i : Nat) (p : List Nat) (y : T) : TSt := match o with
  | some x => R.set i (some (tPut p x y))
  | none => R
theorem putB_q : putBack S (.pth i p :: as) (y :: ts) = kPB (sl S i) (putBack (S.set i none) as ts) i p y := by
  conv => lhs; unfold putBack
  cases sl S i <;> rfl
theorem kPB_q : kPB (some x) S i p y = S.set i (some (tPut p x y)) := rfl
def kMk3 (as : List Arg) (S : TSt) (rt : Rs T × List T) : Option (Rs T × TSt) := match rt with
  | (.ok .non, t0 :: ts') => if ts'.length = as.length then some (.ok t0, putBack S as ts') else none
  | _ => none
def kMk2 (m : MF) (c : Nat) (as : List Arg) (S : TSt) (ts : List T) : Option (Rs T × TSt) := (m (.nd (.obj c []) [] :: ts)).bind (kMk3 as S)
def kMk (m : MF) (n c : Nat) : Rs (List Arg) × TSt → Option (Rs T × TSt)
  | (.ex k, S1) => some (.ex k, S1)
  | (.ok as, S1) => if as.length + 1 = n then (argTrees S1 as).bind (kMk2 m c as S1) else none
theorem eMake_q : eMake m n c fs S = (fs S).bind (kMk m n c) := rfl
theorem kMk_q : kMk m n c (.ok as, S) = if as.length + 1 = n then (argTrees S as).bind (kMk2 m c as S) else none := rfl
theorem kMk2_q : kMk2 m c as S ts = (m (.nd (.obj c []) [] :: ts)).bind (kMk3 as S) := rfl
theorem kMk3_q : kMk3 as S (.ok .non, t :: ts) = if ts.length = as.length then some (.ok t, putBack S as ts) else none := rfl
def kLV3 (S : TSt) (i : Nat) (ur : T × T) : Option (Rs T × TSt) := some (.ok ur.2, S.set i (some ur.1))
def kLV2 (m : MuF) (S : TSt) (i : Nat) (u : T) (us : List T) : Option (Rs T × TSt) := (m u us).bind (kLV3 S i)
def kLV1 (m : MuF) (S : TSt) (i : Nat) (as : List Arg) (u : T) : Option (Rs T × TSt) := (valsOf as).bind (kLV2 m S i u)
def kLV (m : MuF) (i : Nat) : Rs (List Arg) × TSt → Option (Rs T × TSt)
  | (.ex c, S1) => some (.ex c, S1)
  | (.ok as, S1) => (sl S1 i).bind (kLV1 m S1 i as)
def kLV0 (m : MuF) (i : Nat) (fs : AF) (S : TSt) (t : T) : Option (Rs T × TSt) := if isLst t = true then (fs S).bind (kLV m i) else none
theorem eMutV_q : eMutV mu i fs S = (sl S i).bind (kLV0 mu i fs S) := rfl
theorem kLV0_q : kLV0 mu i fs S t = if isLst t = true then (fs S).bind (kLV mu i) else none := rfl
theorem kLV_q : kLV mu i (.ok as, S) = (sl S i).bind (kLV1 mu S i as) := rfl
theorem kLV1_q : kLV1 mu S i as t = (valsOf as).bind (kLV2 mu S i t) := rfl
theorem kLV2_q : kLV2 mu S i t ts = (mu t ts).bind (kLV3 S i) := rfl
theorem kLV3_q : kLV3 S i (x, y) = some (.ok y, S.set i (some x)) := rfl
theorem isLst_q : isLst (.nd .lst ts) = true := rfl
def kLP4 (S : TSt) (i : Nat) (p : List Nat) (t : T) (ur : T × T) : Option (Rs T × TSt) := some (.ok ur.2, S.set i (some (tPut p t ur.1)))
def kLP3 (m : MuF) (S : TSt) (i : Nat) (p : List Nat) (t u : T) (us : List T) : Option (Rs T × TSt) := (m u us).bind (kLP4 S i p t)
def kLP2 (m : MuF) (S : TSt) (i : Nat) (p : List Nat) (t u : T) (as : List Arg) : Option (Rs T × TSt) := (valsOf as).bind (kLP3 m S i p t u)
def kLP1 (m : MuF) (gs : BAF) (S : TSt) (i : Nat) (p : List Nat) (t u : T) : Option (Rs T × TSt) := if isLst u = true then (gs S).bind (kLP2 m S i p t u) else none
def kLP0 (m : MuF) (gs : BAF) (S : TSt) (i : Nat) (p : List Nat) (t : T) : Option (Rs T × TSt) := (tAt p t).bind (kLP1 m gs S i p t)
def kLP (m : MuF) (gs : BAF) (S : TSt) (ip : Nat × List Nat) : Option (Rs T × TSt) := (sl S ip.1).bind (kLP0 m gs S ip.1 ip.2)
theorem eMutP_q : eMutP mu pl gs S = (pl S).bind (kLP mu gs S) := rfl
theorem kLP_q : kLP mu gs S (i, p) = (sl S i).bind (kLP0 mu gs S i p) := rfl
theorem kLP0_q : kLP0 mu gs S i p t = (tAt p t).bind (kLP1 mu gs S i p t) := rfl
theorem kLP1_q : kLP1 mu gs S i p t x = if isLst x = true then (gs S).bind (kLP2 mu S i p t x) else none := rfl
theorem kLP2_q : kLP2 mu S i p t x as = (valsOf as).bind (kLP3 mu S i p t x) := rfl
theorem kLP3_q : kLP3 mu S i p t x ts = (mu x ts).bind (kLP4 S i p t) := rfl
theorem kLP4_q : kLP4 S i p t (x, y) = some (.ok y, S.set i (some (tPut p t x))) := rfl
theorem appM_q : appM (.nd .lst ts) [t] = if ts.length < 100000 then some (.nd .lst (ts ++ [t]), .non) else none := rfl
def kPop (ts : List T) (i : Nat) (t : T) : Option (T × T) := some (.nd .lst (ts.eraseIdx i), t)
theorem popM_q {q : Int} : popM (.nd .lst ts) [.int q] = if 0 ≤ q ∧ q < 100000 then (ts[q.toNat]?).bind (kPop ts q.toNat) else none := rfl
theorem kPop_q : kPop ts i t = some (.nd .lst (ts.eraseIdx i), t) := rfl
def kPF (c : Nat) (ns : List Str) (ts : List T) (t : T) (f : Str) : Option Nat → Option (T × T)
  | some j => some (.nd (.obj c ns) (ts.set j t), .non)
  | none => some (.nd (.obj c (ns ++ [f])) (ts ++ [t]), .non)
theorem putFM_q : putFM ct fl (.nd (.obj c ns) ts) [t] = if (ct c).contains fl = true ∧ ns.length < 1000 then kPF c ns ts t fl (ixOf fl ns) else none := by
  unfold putFM
  simp only
  cases ixOf fl ns <;> rfl
theorem kPF_s : kPF c ns ts t fl (some j) = some (.nd (.obj c ns) (ts.set j t), .non) := rfl
theorem kPF_n : kPF c ns ts t fl none = some (.nd (.obj c (ns ++ [fl])) (ts ++ [t]), .non) := rfl
def kFR (tf : GF) (body : SF) : Rs T × TSt → Option (Fl × TSt)
  | (.ex c, S1) => some (.ex c, S1)
  | (.ok (.int n), S1) => if 0 ≤ n ∧ n < 100000 then runL tf body (rgT n) S1 else none
  | _ => none
theorem sForR_q : sForR tf fa body S = (fa S).bind (kFR tf body) := rfl
theorem kFR_q {q : Int} : kFR tf body (.ok (.int q), S) = if 0 ≤ q ∧ q < 100000 then runL tf body (rgT q) S else none := rfl
def kFE2 (tf : GF) (body : SF) (S : TSt) (kt : Kd × List T) : Option (Fl × TSt) := runL tf body kt.2 S
def kFE (tf : GF) (body : SF) : Rs T × TSt → Option (Fl × TSt)
  | (.ex c, S1) => some (.ex c, S1)
  | (.ok t, S1) => (seqO t).bind (kFE2 tf body S1)
theorem sForE_q : sForE tf fa body S = (fa S).bind (kFE tf body) := rfl
theorem kFE_q : kFE tf body (.ok t, S) = (seqO t).bind (kFE2 tf body S) := rfl
theorem kFE2_q : kFE2 tf body S (k, ts) = runL tf body ts S := rfl
theorem seqO_lst : seqO (.nd .lst ts) = if T.imAll ts = true then some (.lst, ts) else none := by simp [seqO, isSq]
theorem seqO_fz : seqO (.nd .fz ts) = if T.imAll ts = true then some (.fz, ts) else none := by simp [seqO, isSq]
theorem seqO_tup : seqO (.nd .tup ts) = if T.imAll ts = true then some (.tup, ts) else none := by simp [seqO, isSq]
def kFP4 (i : Nat) (t0 : T) (rx : Fl × TSt) : Option (Fl × TSt) := some (rx.1, rx.2.set i (some t0))
def kFP3 (i : Nat) (tf : GF) (body : SF) (S : TSt) (t0 u : T) (kt : Kd × List T) : Option (Fl × TSt) := if u.im = true then runL tf body kt.2 S else (runL tf body kt.2 (S.set i none)).bind (kFP4 i t0)
def kFP2 (i : Nat) (tf : GF) (body : SF) (S : TSt) (t0 u : T) : Option (Fl × TSt) := (seqO u).bind (kFP3 i tf body S t0 u)
def kFP1 (i : Nat) (tf : GF) (body : SF) (S : TSt) (p : List Nat) (t0 : T) : Option (Fl × TSt) := (tAt p t0).bind (kFP2 i tf body S t0)
def kFP (i : Nat) (tf : GF) (body : SF) (S : TSt) (ip : Nat × List Nat) : Option (Fl × TSt) := if ip.1 = i then (sl S i).bind (kFP1 i tf body S ip.2) else none
theorem sForP_q : sForP i tf pl body S = (pl S).bind (kFP i tf body S) := rfl
theorem kFP_q : kFP i tf body S (j, p) = if j = i then (sl S i).bind (kFP1 i tf body S p) else none := rfl
theorem kFP1_q : kFP1 i tf body S p t = (tAt p t).bind (kFP2 i tf body S t) := rfl
theorem kFP2_q : kFP2 i tf body S t x = (seqO x).bind (kFP3 i tf body S t x) := rfl
theorem kFP3_q : kFP3 i tf body S t x (k, ts) = if x.im = true then runL tf body ts S else (runL tf body ts (S.set i none)).bind (kFP4 i t) := rfl
theorem kFP4_q {fl : Fl} : kFP4 i t (fl, S) = some (fl, S.set i (some t)) := rfl
end
end VT
namespace VT
open PySem L2
mutual
def plT : Nat → T → Bool
  | _, .non => true
  | _, .int _ => true
  | _, .str x => PyData.strOk x
  | d + 1, .nd .tup ts => plAll d ts
  | d + 1, .nd .lst ts => plAll d ts
  | _, _ => false
def plAll : Nat → List T → Bool
  | _, [] => true
  | d, t :: ts => plT d t && plAll d ts
end
theorem pl0 {k : Kd} {us : List T} : plT 0 (.nd k us) = false := by cases k <;> rfl
theorem plAll_iff {d : Nat} : ∀ {ts : List T}, plAll d ts = true ↔ ∀ t ∈ ts, plT d t = true
  | [] => by simp [plAll]
  | t :: ts => by simp [plAll, plAll_iff (ts := ts)]
mutual
theorem pl_lay : ∀ {d : Nat} {t : T}, plT d t = true → (dat t).canLay0 = true ∧ (dat t).depth ≤ d
  | _, .non, _ => by simp [dat, PyData.canLay0, PyData.depth]
  | _, .int _, _ => by simp [dat, PyData.canLay0, PyData.depth]
  | _, .str x, h => by simp [plT] at h; simp [dat, PyData.canLay0, PyData.depth, h]
  | d + 1, .nd .tup ts, h => by
    rw [plT] at h
    obtain ⟨h1, h2⟩ := plAll_lay h
    simp [dat, PyData.canLay0, PyData.depth, h1, h2]
  | d + 1, .nd .lst ts, h => by
    rw [plT] at h
    obtain ⟨h1, h2⟩ := plAll_lay h
    simp [dat, PyData.canLay0, PyData.depth, h1, h2]
theorem plAll_lay : ∀ {d : Nat} {ts : List T}, plAll d ts = true → PyData.canLayAll0 (datAll ts) = true ∧ PyData.depthAll (datAll ts) ≤ d
  | _, [], _ => by simp [datAll, PyData.canLayAll0, PyData.depthAll]
  | d, t :: ts, h => by
    rw [plAll, Bool.and_eq_true] at h
    obtain ⟨a1, a2⟩ := pl_lay h.1
    obtain ⟨b1, b2⟩ := plAll_lay h.2
    simp [datAll, PyData.canLayAll0, PyData.depthAll, a1, b1]
    omega
end
theorem pl_sh {d : Nat} {t : T} (h : plT d t = true) (hd : d ≤ 64) : shT t = true := by
  obtain ⟨a, b⟩ := pl_lay h
  unfold shT SeqAt.shaped
  rw [a, Bool.true_and]
  exact decide_eq_true (by omega)
mutual
theorem pl_eqX : ∀ (d e : Nat) (t u : T), plT d t = true → plT e u = true → (PyData.eqv (dat t) (dat u) = true ↔ t = u)
  | _, _, .non, u, h, g => by
    cases u with
    | nd k us => cases k <;> simp [dat, PyData.eqv]
    | _ => simp [dat, PyData.eqv] <;> simp [plT] at g
  | _, _, .int i, u, h, g => by
    cases u with
    | nd k us => cases k <;> simp [dat, PyData.eqv]
    | bl b => simp [plT] at g
    | _ => simp [dat, PyData.eqv]
  | _, _, .str x, u, h, g => by
    cases u with
    | nd k us => cases k <;> simp [dat, PyData.eqv]
    | bl b => simp [plT] at g
    | _ => simp [dat, PyData.eqv]
  | d + 1, e, .nd .tup ts, u, h, g => by
    cases u with
    | nd k us =>
      cases e with
      | zero => rw [pl0] at g; cases g
      | succ e =>
        cases k with
        | tup =>
          rw [plT] at h g
          have := plAll_eqX _ _ ts us h g
          simp [dat, PyData.eqv, this]
        | lst => simp [dat, PyData.eqv]
        | _ => simp [plT] at g
    | bl b => simp [plT] at g
    | _ => simp [dat, PyData.eqv]
  | d + 1, e, .nd .lst ts, u, h, g => by
    cases u with
    | nd k us =>
      cases e with
      | zero => rw [pl0] at g; cases g
      | succ e =>
        cases k with
        | lst =>
          rw [plT] at h g
          have := plAll_eqX _ _ ts us h g
          simp [dat, PyData.eqv, this]
        | tup => simp [dat, PyData.eqv]
        | _ => simp [plT] at g
    | bl b => simp [plT] at g
    | _ => simp [dat, PyData.eqv]
termination_by _ _ t => sizeOf t
theorem plAll_eqX : ∀ (d e : Nat) (ts us : List T), plAll d ts = true → plAll e us = true → (PyData.eqvAll (datAll ts) (datAll us) = true ↔ ts = us)
  | _, _, [], [], _, _ => by simp [datAll, PyData.eqvAll]
  | _, _, [], _ :: _, _, _ => by simp [datAll, PyData.eqvAll]
  | _, _, _ :: _, [], _, _ => by simp [datAll, PyData.eqvAll]
  | d, e, t :: ts, u :: us, h, g => by
    rw [plAll, Bool.and_eq_true] at h g
    have a := pl_eqX _ _ t u h.1 g.1
    have b := plAll_eqX _ _ ts us h.2 g.2
    simp [datAll, PyData.eqvAll, a, b]
termination_by _ _ ts => sizeOf ts
end
theorem pl_eq {d e : Nat} {t u : T} (h : plT d t = true) (g : plT e u = true) : (PyData.eqv (dat t) (dat u) = true ↔ t = u) := pl_eqX d e t u h g
def teq (a b : T) : Bool := PyData.eqv (dat a) (dat b)
theorem teq_iff {d e : Nat} {a b : T} (h : plT d a = true) (g : plT e b = true) : teq a b = true ↔ a = b := pl_eq h g
theorem teq_self {d : Nat} {a : T} (h : plT d a = true) : teq a a = true := (pl_eq h h).2 rfl
theorem teq_int {a b : Int} : teq (.int a) (.int b) = decide (a = b) := by simp [teq, dat, PyData.eqv]; rfl
theorem teq_str {a b : Str} : teq (.str a) (.str b) = (a == b) := by simp [teq, dat, PyData.eqv]
theorem teq_non : teq .non .non = true := by simp [teq, dat, PyData.eqv]
theorem teq_tnil : teq (.nd .tup []) (.nd .tup []) = true := by simp [teq, dat, datAll, PyData.eqv, PyData.eqvAll]
theorem teq_tcons {a b : T} {as bs : List T} : teq (.nd .tup (a :: as)) (.nd .tup (b :: bs)) = (teq a b && teq (.nd .tup as) (.nd .tup bs)) := by simp [teq, dat, datAll, PyData.eqv, PyData.eqvAll]
theorem eqT_pl {a b : T} (h : plT 8 a = true) (g : plT 8 b = true) : eqT a b = some (.bl (teq a b)) := gd_pos ⟨pl_sh h (by decide), pl_sh g (by decide)⟩
theorem neT_pl {a b : T} (h : plT 8 a = true) (g : plT 8 b = true) : neT a b = some (.bl (!teq a b)) := gd_pos ⟨pl_sh h (by decide), pl_sh g (by decide)⟩
theorem eqT_ii {a b : Int} : eqT (.int a) (.int b) = some (.bl (decide (a = b))) := by rw [eqT_pl rfl rfl, teq_int]
theorem neT_ii {a b : Int} : neT (.int a) (.int b) = some (.bl (!decide (a = b))) := by rw [neT_pl rfl rfl, teq_int]
theorem eqT_self {a : T} (h : plT 8 a = true) : eqT a a = some (.bl true) := by rw [eqT_pl h h, teq_self h]
theorem neT_self {a : T} (h : plT 8 a = true) : neT a a = some (.bl false) := by rw [neT_pl h h, teq_self h]; rfl
theorem pl_map {α : Type} {g : α → T} {d : Nat} (h : ∀ a, plT d (g a) = true) (l : List α) : plAll d (l.map g) = true := plAll_iff.mpr fun t ht => by
  obtain ⟨a, _, rfl⟩ := List.mem_map.mp ht
  exact h a
theorem pl_ints {d : Nat} (l : List Int) : plAll d (l.map T.int) = true := pl_map (fun _ => by cases d <;> rfl) l
theorem im_map {α : Type} {g : α → T} (h : ∀ a, (g a).im = true) (l : List α) : T.imAll (l.map g) = true := imAll_mem.mpr fun t ht => by
  obtain ⟨a, _, rfl⟩ := List.mem_map.mp ht
  exact h a
theorem im_ints (l : List Int) : T.imAll (l.map T.int) = true := im_map (fun _ => rfl) l
theorem inT_ints {i : Int} {l : List Int} : inT (.int i) (.nd .lst (l.map .int)) = some (.bl (l.contains i)) := by
  unfold inT inO
  simp only
  have e1 : shT (.int i) = true := pl_sh (d := 0) rfl (by decide)
  have e2 : shT (.nd .lst (l.map .int)) = true := pl_sh (d := 1) (by rw [plT]; exact pl_ints l) (by decide)
  rw [if_pos ⟨e1, e2⟩]
  show some (T.bl _) = _
  congr 2
  unfold inB
  rw [List.any_map]
  induction l with
  | nil => rfl
  | cons a l ih =>
    rw [List.any_cons, List.contains_cons, ih (pl_sh (d := 1) (by rw [plT]; exact pl_ints l) (by decide))]
    congr 1
    show PyData.eqv (dat (.int a)) (dat (.int i)) = _
    simp [dat, PyData.eqv]
    by_cases h : a = i
    · simp [h]
    · have h' : (i == a) = false := by simpa using Ne.symm h
      simpa [h'] using h
theorem notInT_ints {i : Int} {l : List Int} : notInT (.int i) (.nd .lst (l.map .int)) = some (.bl (!l.contains i)) := by
  have h := inT_ints (i := i) (l := l)
  unfold inT at h
  unfold notInT
  cases e : inO (.int i) (.nd .lst (l.map .int)) with
  | none => rw [e] at h; cases h
  | some b =>
    rw [e] at h
    injection h with h
    injection h with h
    rw [← h]
    try rfl
section
variable {tf : GF} {body : SF} {S : TSt} {ts : List T} {t : T} {i : Nat} {fl : Fl}
def kL2 (tf : GF) (body : SF) (ts : List T) : Fl × TSt → Option (Fl × TSt)
  | (.nx, S2) => runL tf body ts S2
  | (.ct, S2) => runL tf body ts S2
  | (.bk, S2) => some (.nx, S2)
  | (fl, S2) => some (fl, S2)
def kL1 (tf : GF) (body : SF) (ts : List T) (S1 : TSt) : Option (Fl × TSt) := (body S1).bind (kL2 tf body ts)
theorem runL_nil : runL tf body [] S = some (.nx, S) := rfl
theorem runL_cons : runL tf body (t :: ts) S = (tf t S).bind (kL1 tf body ts) := rfl
theorem kL1_q : kL1 tf body ts S = (body S).bind (kL2 tf body ts) := rfl
theorem kL2_nx : kL2 tf body ts (.nx, S) = runL tf body ts S := rfl
theorem kL2_ct : kL2 tf body ts (.ct, S) = runL tf body ts S := rfl
theorem kL2_bk : kL2 tf body ts (.bk, S) = some (.nx, S) := rfl
theorem kL2_rt : kL2 tf body ts (.rt t, S) = some (.rt t, S) := rfl
theorem tgN_q : tgN i t S = if t.im = true then some (S.set i (some t)) else none := rfl
theorem runL_inv {I : Nat → TSt → Prop} : ∀ (ts : List T) (S : TSt), I ts.length S → (∀ n t S, t ∈ ts → I (n + 1) S → ∃ S1 S2, tf t S = some S1 ∧ body S1 = some (.nx, S2) ∧ I n S2) → ∃ S', runL tf body ts S = some (.nx, S') ∧ I 0 S'
  | [], S, h, _ => ⟨S, rfl, h⟩
  | t :: ts, S, h, k => by
    obtain ⟨S1, S2, e1, e2, h2⟩ := k ts.length t S List.mem_cons_self h
    obtain ⟨S', e3, h3⟩ := runL_inv (I := I) ts S2 h2 fun n u S hu => k n u S (List.mem_cons_of_mem _ hu)
    exact ⟨S', by rw [runL_cons, e1, Option.bind_some, kL1_q, e2, Option.bind_some, kL2_nx, e3], h3⟩
variable {j : Nat} {vs : List Nat} {cond elt fa : EF} {pl : PF} {p : List Nat} {u : T} {k : Kd}
def kLc (vs : List Nat) (r : List T × TSt) : Option (Rs T × TSt) := some (.ok (.nd .lst r.1), wipeS r.2 vs)
theorem lcFrom_q : eLcFrom j vs cond elt ts S = if ts.length < 100000 then (runC j vs cond elt ts (wipeS S vs) []).bind (kLc vs) else none := rfl
theorem kLc_q : kLc vs (ts, S) = some (.ok (.nd .lst ts), wipeS S vs) := rfl
def kLcE (S : TSt) (vs : List Nat) (x : Rs T × TSt) : Option (Rs T × TSt) := some (x.1, restS S x.2 vs)
theorem lcEnd_q {o : Option (Rs T × TSt)} : lcEnd vs S o = o.bind (kLcE S vs) := rfl
theorem kLcE_q {r : Rs T} {S' : TSt} : kLcE S vs (r, S') = some (r, restS S S' vs) := rfl
theorem wipeS_nil : wipeS S [] = S := rfl
theorem wipeS_cons : wipeS S (i :: vs) = (wipeS S vs).set i none := rfl
def kRs (R : TSt) (v : Nat) : Option T → TSt
  | some t => if t.im = true then R.set v (some t) else R
  | none => R
theorem restS_nil {S' : TSt} : restS S S' [] = S' := rfl
theorem restS_cons {S' : TSt} : restS S S' (i :: vs) = kRs (restS S S' vs) i (sl S i) := by
  conv => lhs; unfold restS
  cases sl S i <;> rfl
theorem kRs_n : kRs S i none = S := rfl
theorem kRs_s : kRs S i (some t) = if t.im = true then S.set i (some t) else S := rfl
theorem listT_lst : listT (.nd .lst ts) = if T.imAll ts = true then some (.nd .lst ts) else none := by simp [listT, isSq]
theorem listT_fz : listT (.nd .fz ts) = if T.imAll ts = true then some (.nd .lst ts) else none := by simp [listT, isSq]
theorem listT_tup : listT (.nd .tup ts) = if T.imAll ts = true then some (.nd .lst ts) else none := by simp [listT, isSq]
theorem isi_ii {i : Int} : isiT "int" (.int i) = some (.bl true) := rfl
theorem isi_ib {i : Int} : isiT "bool" (.int i) = some (.bl false) := rfl
theorem isi_ll : isiT "list" (.nd .lst ts) = some (.bl true) := rfl
end
def spL (n : Nat) (K : PySem.W.Frag) : Sp := fun vs H Q _ => ∃ (a : Addr) (ns : List Int), vs = [.ref a] ∧ ns.length ≤ n ∧ Only H ∧ SqL K H a (ns.map V.int) ∧ ∀ H', Q (.bl true) H'
theorem spL_sp {Γ : Gx} {m : MF} {n : Nat} (h : ∀ ns : List Int, ns.length ≤ n → ∃ ts', m [.nd .fz (ns.map T.int)] = some (.ok (.bl true), ts')) {vs : List V} {H : Hp} {Q : VK} {E : XK} (q : spL n Γ.K vs H Q E) :
    spT Γ 1 m vs H Q E := by
  obtain ⟨a, ns, rfl, hl, hO, hS, k⟩ := q
  obtain ⟨ts', e⟩ := h ns hl
  have R0 : RoL Γ.K H a (ns.map V.int) := by
    rcases hS with hS | hS
    · rcases hS with hS | ⟨o, hS⟩
      · rcases hO a with h0 | ⟨o, xs, h0⟩
        · rw [h0] at hS; cases hS
        · rw [h0] at hS; cases hS
      · exact .inl ⟨o, hS⟩
    · exact .inr fun H' => .inr hS
  refine ⟨[.nd .fz (ns.map T.int)], FE, .ok (.bl true), ts', rfl, ⟨rfl, fun i v e => ?_, ⟨fun _ => FE, fun i t e => ?_, fun _ _ _ _ z _ => z, fun _ _ z => z⟩, fun _ z => z.elim⟩, e, fun v H' F' G _ r _ _ _ => by cases r; exact k H'⟩
  · have z : [V.ref a][i]? = some v := e
    show ([V.ref a].map some)[i]? = _
    rw [List.getElem?_map, z]
    try rfl
  · cases i with
    | zero =>
      have et : t = .nd .fz (ns.map T.int) := by simpa using e.symm
      subst et
      refine ⟨.ref a, rfl, .nd (Fs := fun _ => FE) R0 (by simp) (fun z => nomatch z) (fun i v t e1 e2 => ?_) (fun _ _ _ _ z _ => z) fun _ _ z => z⟩
      rw [List.getElem?_map] at e1 e2
      cases en : ns[i]? with
      | none => rw [en] at e1; cases e1
      | some z =>
        rw [en] at e1 e2
        cases e1
        cases e2
        exact .int z
    | succ i => simp at e
end VT
namespace VT
open PySem PySem.Spec PyProof.Rows L2 L2H HotX
/-- a block's context that still bears the handled exception p -/
abbrev blkP (X : Cx) (p : Addr × Obj) (s : Shared) (H : Hp) (scope : Scope) (ce : Env) (fp : List Addr) : Cx := { X.blk s H scope ce fp with pn := [p] }
section
variable {X : Cx}
theorem addPin {Y : Cx} {pr : Addr × Obj} {σ : L2.St} {H : Hp} {s : Shared} (J : Inv { Y with pn := [] } [] σ H s) (hp : s.heap.get? pr.1 = some pr.2 ∧ H pr.1 = none ∧ pr.1 ≠ Y.env.locals ∧ pr.1 ∉ Y.fs ∧ ∀ v, pr.2.data ≠ .cell v) : Inv { Y with pn := [pr] } [] σ H s :=
  ⟨⟨J.ok.mod, J.ok.kind, J.ok.glob, J.ok.blt, J.ok.above, J.ok.inj, J.ok.has, J.ok.cab, J.ok.hd, J.ok.frames, J.ok.stk, J.ok.exf, J.ok.bs, J.ok.bsz, J.ok.noex, J.ok.exfs, J.ok.funs, J.ok.frf⟩, J.os, J.bare, J.base, J.loc, J.cell, J.free, J.freeC, fun q hq => by
    have e : q = pr := by simpa using hq
    rw [e]
    exact hp, J.hok, J.len⟩
theorem hot_lc {pins : List (Addr × Obj)} {s : Shared} {σ : L2.St} {H : Hp} {Q : VK} {elt tg iter : Expr} {ifs : List Expr} {scope : Scope} {own : List (Str × Nat)} {ps1 ps2 : Pos} {wi : TI} {g : TG} {tt : TT} {te : TE} {use : Option (Value → Sem Unit)} {Qf : Value → Shared → Prop}
    (hc : HotC X) (hN : X.N.Nodup) (I : Inv X pins σ H s) (hi : PIH X tg iter wi) (ok : BlkOk X.N X.env.scope scope own)
    (hg : ∀ (p : Addr × Obj) (s : Shared) (H : Hp) (C : Addr) (cl : List (Str × Addr)) (fp : List Addr), PG (blkP X p s H scope (compEnvC scope cl C X.env) fp) tg g)
    (ht : ∀ (p : Addr × Obj) (s : Shared) (H : Hp) (C : Addr) (cl : List (Str × Addr)) (fp : List Addr), PTs (blkP X p s H scope (compEnvC scope cl C X.env) fp) ifs tt)
    (he : ∀ (p : Addr × Obj) (s : Shared) (H : Hp) (C : Addr) (cl : List (Str × Addr)) (fp : List Addr), PE (blkP X p s H scope (compEnvC scope cl C X.env) fp) elt te) (hs : ∀ x, foldedSetIterable iter X.env x = pure x)
    (h : tLc wi g tt te (own.map (·.2)) σ H Q)
    (hRR : ∀ D C s' m H', Inv X pins σ H' s' → Q (.ref D) H' → s'.heap.Ns C m → FpOk X pins H' C → compPost (model X.prog X.w) X.A X.xe use Qf (.ref D) C (.ok .next) s') :
    wpAny (model X.prog X.w) X.A (comprehension (.ListComp elt [⟨tg, iter, ifs, 0⟩] scope ps1) scope X.env ps2 (newList []) false (eval iter X.env) use) Qf X.xe s := by
  have fr0 : ∀ y ∈ scope.names, y.2 = .free → ∃ c, X.env.cells.lookup y.1 = some c := fun y hy e => (ok.free y hy e).elim (fun k => I.ok.has _ (.inl k)) fun k => I.ok.has _ (.inr k)
  obtain ⟨p, hot, hp⟩ := hc
  refine wpAny_comprehension_free (use := use) rfl hs (closure_ok fr0) ok.kind (fun y hy z => by rw [ok.uniq y hy, z]) (thn (hi.run pins s σ H _ I h) fun _ sa hx => thn hx fun iv sb hb => ?_)
  obtain ⟨it, fp, tn, J, Hb, rfl, Ib, T, stb, fb, q⟩ := hb
  refine wpAny_newObj_type (newEnv_comp ?_) (by show 0 ≤ sizeLine; decide)
  generalize eD : sb.heap.objs.size = D
  have nD : Hb D = none := Ib.hok.fresh (Nat.le_of_eq eD)
  obtain ⟨Wt, ⟨m0, w0⟩, turn⟩ := q D nD
  generalize esc : ({ sb with heap := sb.heap.push { cls := .type "list", data := .seq ([] : List Value).toArray } } : Shared) = sc
  have Ic : Inv X pins σ (upd Hb D (.lst [])) sc := by
    rw [← esc]
    refine Ib.laid (t' := sb.toks) (fun b o z => Heap.get?_push_of_some _ z) (Nat.le_of_eq eD) ⟨Nat.zero_le _, [], 0, .nil, ?_⟩
    rw [← eD]
    exact Heap.get?_push_size _ rfl
  have hc3 : sc.heap = sb.heap.push { cls := .type "list", data := .seq ([] : List Value).toArray } := by rw [← esc]
  have below : ∀ b ∈ fp, b < sb.heap.objs.size := fun b hb => by
    obtain ⟨o, z, _⟩ := T.obj _ _ stb b hb
    exact Heap.lt_size z
  have fc : ∀ b ∈ fp, FpOk X pins (upd Hb D (.lst [])) b ∧ b < sc.heap.objs.size := fun b hb => by
    have lt := below b hb
    refine ⟨⟨?_, (fb b hb).2⟩, by rw [hc3, Heap.size_push]; exact Nat.lt_succ_of_lt lt⟩
    rw [upd_ne (by rw [← eD]; exact Nat.ne_of_lt lt)]
    exact (fb b hb).1
  have stc : tn 0 sc.heap := T.keep _ _ _ stb fun b _ o z => by rw [hc3]; exact Heap.get?_push_of_some _ z
  have Id0 := block_start Ic ok hN fc
  have pg := hg p sc (upd Hb D (.lst [])) sc.heap.objs.size (cellsFrom (sc.heap.objs.size + 1) scope.names (cloFrom X.env.cells scope.names [])) fp
  have pt := ht p sc (upd Hb D (.lst [])) sc.heap.objs.size (cellsFrom (sc.heap.objs.size + 1) scope.names (cloFrom X.env.cells scope.names [])) fp
  have pe := he p sc (upd Hb D (.lst [])) sc.heap.objs.size (cellsFrom (sc.heap.objs.size + 1) scope.names (cloFrom X.env.cells scope.names [])) fp
  have PP := Ic.pin p (List.mem_append_left _ hp)
  have ePn : ∀ b ∈ fp, p.1 ≠ b := fun b hb => (fc b hb).1.2.2.2.2.2 p (List.mem_append_left _ hp)
  show codeAny _ _ (.compStart (.ListComp elt [⟨tg, iter, ifs, 0⟩] scope ps1) 0 (.ref it) (.ref D) (compEnvC scope (cellsFrom (sc.heap.objs.size + 1) scope.names (cloFrom X.env.cells scope.names [])) sc.heap.objs.size X.env)) (compPost (model X.prog X.w) X.A X.xe use Qf (.ref D) sc.heap.objs.size) { sc with heap := pushCells (sc.heap.push { cls := .type "dict", data := .dict #[] }) scope.names }
  have nfp : ∀ b ∈ fp, (upd Hb D (.lst [])) b = none := fun b hb => (fc b hb).1.1
  generalize ece : compEnvC scope (cellsFrom (sc.heap.objs.size + 1) scope.names (cloFrom X.env.cells scope.names [])) sc.heap.objs.size X.env = ce at Id0 pg pt pe ⊢
  have cL : ce.locals = sc.heap.objs.size := by subst ece; rfl
  generalize eHc : upd Hb D (.lst []) = Hc at Ic Id0 pg pt pe w0 nfp fc PP
  generalize esd : ({ sc with heap := pushCells (sc.heap.push { cls := .type "dict", data := .dict #[] }) scope.names } : Shared) = sd at Id0 ⊢
  have Id : Inv (blkP X p sc Hc scope ce fp) [] (wipe σ (own.map (·.2))) Hc sd := by
    refine addPin (Y := X.blk sc Hc scope ce fp) Id0 ⟨?_, PP.2.1, ?_, fun z => (List.mem_cons.mp (Ic.stkSub p.1 z)).elim PP.2.2.1 PP.2.2.2.1, PP.2.2.2.2⟩
    · rw [← esd]
      exact pushCells_keeps _ _ _ _ (Heap.get?_push_of_some _ PP.1)
    · show p.1 ≠ ce.locals
      rw [cL]
      exact Nat.ne_of_lt (Heap.lt_size PP.1)
  have hotB : HotC (blkP X p sc Hc scope ce fp) := ⟨p, hot, List.mem_cons_self⟩
  have std : tn 0 sd.heap := T.keep _ _ _ stc fun b _ o z => by rw [← esd]; exact pushCells_keeps _ _ _ _ (Heap.get?_push_of_some _ z)
  have stat : ∀ {σ' : L2.St} {H' : Hp} {s' : Shared}, Inv (blkP X p sc Hc scope ce fp) [] σ' H' s' → (∀ b ∈ fp, H' b = none) → ∀ b ∈ fp, FpOk (blkP X p sc Hc scope ce fp) [] H' b := fun {σ' H' s'} I' hn b hb =>
    ⟨hn b hb, (I'.ok.exf b hb).1, I'.ok.exfs b hb, .inl hb, fun x c z => (I'.ok.exf b hb).2 x c z, fun r hr => by
      have z : r = p := by simpa using hr
      rw [z]
      exact ePn b hb⟩
  have loop : codeAny (model X.prog X.w) X.A (.compLoop (.ListComp elt [⟨tg, iter, ifs, 0⟩] scope ps1) 0 (.ref it) (.ref D) ce) (compPost (model X.prog X.w) X.A X.xe use Qf (.ref D) sc.heap.objs.size) sd := by
    refine compLoop_any (fun n s' => ∃ i H', Inv (blkP X p sc Hc scope ce fp) [] (wipe σ (own.map (·.2))) H' s' ∧ tn i s'.heap ∧ (∀ b ∈ fp, H' b = none) ∧ Wt i n H') ?_ m0 ⟨0, Hc, Id, std, nfp, w0⟩
    rintro n se ⟨i, He, Ie, ste, ne, we⟩
    rcases turn i n He we with ⟨stop, qq⟩ | ⟨go, Nx, hNx, step⟩
    · refine thnF (T.done (blkP X p sc Hc scope ce fp) rfl rfl rfl hotB i [] se _ He (fun _ _ => False) Ie (stat Ie ne) ste stop) fun r sf ⟨hr, If⟩ => ?_
      subst hr
      have Ig : Inv X pins σ He sf := Ic.call' (ch := fp) If.os If.base If.hok If.bare fun b hb => ⟨(fc b hb).1.2.2.2.1, (fc b hb).1.2.1, (fc b hb).1.2.2.2.2.1, (fc b hb).1.2.2.2.2.2⟩
      have nC : He sc.heap.objs.size = none := by
        have z : He ce.locals = none := If.free
        rwa [cL] at z
      obtain ⟨m, hn, _⟩ := If.loc
      have hn' : sf.heap.Ns ce.locals m := hn
      rw [cL] at hn'
      exact hRR D sc.heap.objs.size sf m He Ig qq hn' (Ic.fpOk (Nat.le_refl _) nC)
    · refine thnF (T.item (blkP X p sc Hc scope ce fp) rfl rfl rfl hotB i [] se _ He (fun _ _ => False) Ie (stat Ie ne) ste go) fun r sf ⟨u, hr, hf⟩ => ?_
      subst hr
      refine thnF hf fun _ sg ⟨x, Hg, Ig, rg, yg, stg, ng⟩ => ?_
      have Ig' := Ig.pinned (stat Ig ng) (T.obj _ _ stg)
      refine thnF (pg.run _ sg _ Hg x u _ Ig' rg (step x Hg yg)) fun _ sh ⟨σh, Hh, Ih, hwh, qh⟩ => ?_
      refine thnF (pt.run _ sh σh Hh _ Ih qh) fun b si ⟨Hi, Ii, qi⟩ => ?_
      have fin : ∀ {s' : Shared} {H' : Hp}, Inv (blkP X p sc Hc scope ce fp) ([] ++ pinsAt fp sg.heap) σh H' s' → Nx H' → ∃ m, m < n ∧ ∃ i H', Inv (blkP X p sc Hc scope ce fp) [] (wipe σ (own.map (·.2))) H' s' ∧ tn i s'.heap ∧ (∀ b ∈ fp, H' b = none) ∧ Wt i m H' := fun {s' H'} I' nx => by
        obtain ⟨m', hm, w'⟩ := hNx H' nx
        have kept : ∀ b ∈ fp, ∀ o, sg.heap.get? b = some o → s'.heap.get? b = some o ∧ H' b = none := fun b hb o z => by
          have y := I'.pin (b, o) (List.mem_append_right _ (List.mem_append_right _ (mem_pinsAt hb z)))
          exact ⟨y.1, y.2.1⟩
        refine ⟨m', hm, i + 1, H', (I'.unpinned (pins := [])).weak (by rw [← hwh, wipe_length]) (fun j v z => ?_), T.keep _ _ _ stg fun b hb o z => (kept b hb o z).1, fun b hb => ?_, w'⟩
        · rw [← hwh] at z
          exact (wipe_some z).1
        · obtain ⟨o, z, _⟩ := T.obj _ _ stg b hb
          exact (kept b hb o z).2
      cases b with
      | false => exact fin Ii qi
      | true => exact thnF (pe.run _ si σh Hi _ Ii qi) fun z sj ⟨yv, Hj, Ij, rj, acc, hDj, hzj, nx⟩ => app_ok (X := blkP X p sc Hc scope ce fp) Ij hDj hzj rj fun sk Ik => fin Ik nx
  exact codeAny_compStart_list loop (T.self X.A 0 _ _ _ std loop)
theorem pe_lcH {elt tg iter : Expr} {ifs : List Expr} {scope : Scope} {own : List (Str × Nat)} {ps1 : Pos} {wi : TI} {g : TG} {tt : TT} {te : TE} (hc : HotC X) (hN : X.N.Nodup) (hi : PIH X tg iter wi) (ok : BlkOk X.N X.env.scope scope own)
    (hg : ∀ (p : Addr × Obj) (s : Shared) (H : Hp) (C : Addr) (cl : List (Str × Addr)) (fp : List Addr), PG (blkP X p s H scope (compEnvC scope cl C X.env) fp) tg g)
    (ht : ∀ (p : Addr × Obj) (s : Shared) (H : Hp) (C : Addr) (cl : List (Str × Addr)) (fp : List Addr), PTs (blkP X p s H scope (compEnvC scope cl C X.env) fp) ifs tt)
    (he : ∀ (p : Addr × Obj) (s : Shared) (H : Hp) (C : Addr) (cl : List (Str × Addr)) (fp : List Addr), PE (blkP X p s H scope (compEnvC scope cl C X.env) fp) elt te) (hs : ∀ x, foldedSetIterable iter X.env x = pure x := by intro _; rfl) :
    PE X (.ListComp elt [⟨tg, iter, ifs, 0⟩] scope ps1) (tLc wi g tt te (own.map (·.2))) := by
  refine ⟨fun pins s σ H Q I h => ?_⟩
  rw [eval_ListComp]
  refine hot_lc hc hN I hi ok hg ht he hs h fun D C s' m H' J q hn f => ⟨m, hn, fun hh sub => ?_⟩
  obtain ⟨f0, f1, f2, f3, f4, f5⟩ := f
  exact ⟨.ref D, H', J.turned (t' := s'.toks) (fun b o hb z => (sub.2 b hb).trans z) f0 f1 f3 f4 f5, rfl, q⟩
/-- isinstance(e, c), e's object stands in the context -/
theorem call_isP {a D : Addr} {oe : Obj} (C : ExcC X.K D) (hz : Zc (.ref D) none oe) (hf : ∃ vs, oe.data = .fields vs) (hp : (a, oe) ∈ X.pn) : CallR X (.builtin "isinstance") (rIsE X.K D a) := by
  intro pins s σ H xs us Q I r q
  obtain ⟨c, cv, b, rfl, one, e, k⟩ := q
  cases r with
  | cons ra rr =>
    cases rr with
    | cons rt rr =>
      cases rr
      cases ra
      have ec := one _ rt
      subst ec
      have there := (I.pin (a, oe) (List.mem_append_left _ hp)).1
      obtain ⟨vs, hv⟩ := hf
      have J : PySem.W.InstAt s.heap a oe D none := by
        obtain ⟨x1, x2, x3, x4⟩ := oe
        obtain ⟨z1, z2⟩ := hz
        dsimp only at z1 z2 hv
        subst z1 z2 hv
        exact ⟨there, rfl, rfl, trivial⟩
      exact PySem.W.kia_one (PySem.W.handS_kitx_exc C.hg C.hk C.hs C.hd C.ha C.hn C.ht C.hm) I.kIn J e (fun z => nomatch z) fun tk => ⟨.bl b, H, I.kept (t' := tk) fun _ _ z => z, rfl, k⟩
end
end VT
namespace VT
open PySem PySem.Spec PyProof.Rows L2 L2H HotX
variable {Γ : Gx}
def strsOf : List T → Option (List Str)
  | [] => some []
  | .str x :: ts => (strsOf ts).bind fun l => some (x :: l)
  | _ :: _ => none
def joinT (a : Str) : T → Option T
  | .nd k ts => if isSq k = true then (strsOf ts).bind fun ys => if (ys.map (·.length)).sum + ys.length * a.length ≤ 16777216 then some (.str (Txt.join a ys)) else none else none
  | _ => none
theorem strsOf_get {H : Hp} {G : FP} : ∀ {ts : List T} {ys : List Str} {vs : List V}, strsOf ts = some ys → vs.length = ts.length → (∀ (i : Nat) (v : V) (t : T), vs[i]? = some v → ts[i]? = some t → Rep Γ H v t G) → vs = ys.map V.str
  | [], ys, vs, e, hl, _ => by
    cases e
    exact List.length_eq_zero_iff.mp hl
  | t :: ts, ys, vs, e, hl, h => by
    cases t with
    | str x =>
      unfold strsOf at e
      cases e1 : strsOf ts with
      | none => rw [e1] at e; cases e
      | some l =>
        rw [e1] at e
        cases e
        cases vs with
        | nil => simp at hl
        | cons v vs =>
          have r := h 0 v (.str x) rfl rfl
          cases r
          rw [List.map_cons, ← strsOf_get e1 (by simpa using hl) fun i v t a b => h (i + 1) v t (by simpa using a) (by simpa using b)]
    | _ => cases e
theorem joinT_ok {a : Str} : UnT Γ (fun x H Q => ∃ p, ∃ ys : List Str, x = .ref p ∧ (SqL Γ.K H p (ys.map V.str) ∨ SqT Γ.K H p (ys.map V.str)) ∧ (ys.map (·.length)).sum + ys.length * a.length ≤ 16777216 ∧ Q (.str (Txt.join a ys)) H) (joinT a) := by
  intro H x t1 t G1 Q r1 e k
  unfold joinT at e
  split at e
  · rename_i kd ts
    by_cases hk : isSq kd = true
    · rw [if_pos hk] at e
      cases e1 : strsOf ts with
      | none => rw [e1] at e; cases e
      | some ys =>
        rw [e1] at e
        simp only [Option.bind_some] at e
        by_cases hz : (ys.map (·.length)).sum + ys.length * a.length ≤ 16777216
        · rw [if_pos hz] at e
          cases e
          obtain ⟨p, vs, rfl, q, hl, hc⟩ := r1.sq hk
          have ev := strsOf_get e1 hl hc
          subst ev
          exact ⟨p, ys, rfl, q, hz, k _ H FE (Same.refl H) (.str _) new_FE⟩
        · rw [if_neg hz] at e; cases e
    · rw [if_neg hk] at e; cases e
  · cases e
section
variable {X : Cx} {ar : Fx} {W : WX} {e : Expr} {fa : EF} {ga : BF} {pos p0 apos : Pos} {a : Str} {j0 : Nat}
theorem e_join (he : PE X e (rdE Γ ar W fa)) (hK : X.K = Γ.K := by rfl) (hs : starEach [e] X.env = [(false, eval e X.env)] := by rfl) (hbase : attributeBase (.Constant (.str a) j0 p0) "join" X.env (eval (.Constant (.str a) j0 p0) X.env) = eval (.Constant (.str a) j0 p0) X.env := by rfl) (hline : (apos.endLine == pos.line) = true := by rfl) :
    PE X (.Call (.Attribute (.Constant (.str a) j0 p0) "join" apos) [e] [] pos) (rdE Γ ar W (eUn (joinT a) fa)) :=
  PE.imp (pe_join pe_str he hs hbase hline) fun σ H Q q =>
    ⟨⟨a, rfl⟩, rdE_mono (tUn_e joinT_ok σ H Q q) fun y H2 ⟨p, ys, h1, h2, h3, h4⟩ => ⟨a, p, ys, rfl, by rw [h1], by rw [hK]; exact h2, h3, h4⟩⟩
theorem n_isE {i : Nat} {ad D : Addr} {x y : Str} {v : V} {cv : Value} {b : Bool} {p1 p2 p3 : Pos} (hc : CallR X (.builtin "isinstance") (rIsE X.K D ad)) (har : ar i = some (.ref ad)) (hx : PE X (.Name x p2) (tC v)) (one : ∀ u, RelV v u → u = cv) (hb : PySem.W.kitOne X.K (.ref D) cv = some b) (hm : X.mg "isinstance" = none)
    (hg : Gl X "isinstance" := by rfl) (hN : X.N[i]? = some y := by rfl) (hv : Vis X.env.scope y := by first | exact Or.inl rfl | exact Or.inr (Or.inl rfl) | exact Or.inr (Or.inr rfl)) (hd : (y == ("__debug__" : Str)) = false := by decide) (hcd : (y == ("__classdict__" : Str)) = false := by decide)
    (he : starEach [.Name y p1, .Name x p2] X.env = (false, eval (.Name y p1) X.env) :: starEach [.Name x p2] X.env := by rfl) : PE X (.Call (.Name "isinstance" p3) [.Name y p1, .Name x p2] [] pos) (rdN Γ ar (nC (.bl b))) :=
  PE.imp (pe_callB hc hg hm PyProof.Rows.boot_isinstance (pa_cons (pe_var hN hv hd hcd) (pa_cons hx pa_nil) he) (by decide) (by decide) he) fun σ H Q q => by
    obtain ⟨S, F, t, R, e, k⟩ := q
    cases e
    exact ⟨.ref ad, R.arg i _ har, v, cv, b, rfl, one, hb, k _ H FE (Same.refl H) (.bl _) new_FE⟩
variable {elt : Expr} {tg : Expr} {ifs : List Expr} {scope : Scope} {own : List (Str × Nat)} {cond el : EF} {j : Nat}
theorem e_lcRH {e1 : Expr} {p1 pos1 : Pos} (hc : HotC X) (hN : X.N.Nodup) (hm : X.mg "range" = none) (hi : PE X e1 (rdE Γ ar W fa)) (ok : BlkOk X.N X.env.scope scope own)
    (hg : ∀ (p : Addr × Obj) (s : Shared) (H : Hp) (C : Addr) (cl : List (Str × Addr)) (fp : List Addr), PG (blkP X p s H scope (compEnvC scope cl C X.env) fp) tg (gName j))
    (ht : ∀ (p : Addr × Obj) (s : Shared) (H : Hp) (C : Addr) (cl : List (Str × Addr)) (fp : List Addr), PTs (blkP X p s H scope (compEnvC scope cl C X.env) fp) ifs (rdTX Γ (fun _ => True) cond))
    (he : ∀ (p : Addr × Obj) (s : Shared) (H : Hp) (C : Addr) (cl : List (Str × Addr)) (fp : List Addr), PE (blkP X p s H scope (compEnvC scope cl C X.env) fp) elt (rdEX Γ (fun _ => True) el))
    (hj : j ∈ own.map (·.2) := by decide) (hgl : Gl X "range" := by rfl) (hst : starEach [e1] X.env = (false, eval e1 X.env) :: starEach [] X.env := by rfl) (hs : ∀ x, foldedSetIterable (.Call (.Name "range" p1) [e1] [] pos1) X.env x = pure x := by intro _; rfl) :
    PE X (.ListComp elt [⟨tg, .Call (.Name "range" p1) [e1] [] pos1, ifs, 0⟩] scope pos) (rdE Γ ar W (eLcR j (own.map (·.2)) fa cond el)) :=
  PE.imp (pe_lcH hc hN (pi_range1H hgl hm (pa_cons hi pa_nil hst) hst) ok hg ht he hs) fun σ H Q q => lcR_ok hj trivial q
end
structure FnE (P : Program) (w : World) (K : PySem.W.Frag) (mg : Str → Option Value) (base : Heap) (CX : CXT) (k : Nat) (f : Addr) (fd : FuncData) (ps : List Str) (sp : Addr × Obj → Sp) : Prop where
  len : ∀ pr vs H Q E, sp pr vs H Q E → vs.length = ps.length
  run : ∀ (A : Around) (outer : List Env) (s : Shared) (H : Hp) (args : Args) (us : List Value) (vs : List V) (Q : VK) (E : XK) (pr : Addr × Obj), RoomH k A → Hot1 A pr → PinOk outer H s pr → Env0 P w K mg base A outer s H → BindsTo s fd args (ps.zip us) → Vals vs us → sp pr vs H Q E →
    codeAny (model P w) A (.call (.ref f) args) (CR CX outer P w H s Q E) s
theorem fnE_of {CX : CXT} {P : Program} {w : World} {K : PySem.W.Frag} {mg : Str → Option Value} {base : Heap} {k : Nat} {f : Addr} {x1 q1 : Str} {prm : Arguments} {bd : List Stmt} {sc : Scope} {v1 v2 v3 v4 v5 v6 v7 : Value} {a1 a2 : Option Addr}
    {sl : Array (Option Value)} {N ps : List Str} {sp : Addr × Obj → Sp} (lk : K.lookup f = some ⟨v7, a2, .func (PySem.W.fnOf x1 q1 prm bd sc v1 v2 v3 v4 a1 v5 v6), sl⟩) (hcd : PySem.W.codeIn K v5 q1 = true) (S : FnScope N ps sc)
    (len : ∀ pr vs H Q E, sp pr vs H Q E → vs.length = ps.length)
    (hbody : ∀ (A : Around) (outer : List Env) (s : Shared) (H : Hp) (vs : List V) (Q : VK) (E : XK) (pr : Addr × Obj), Hot1 A pr → RoomH k (A.deeper (envOfC q1 sc s.heap.objs.size f v5)) → sp pr vs H Q E →
      ∃ t, PSs (cxH CX P w K mg base N q1 sc f v5 A outer s H E pr) bd t ∧ t { nx := fun _ H' => Q .non H', rt := Q } (L2.start N vs) H) :
    FnE P w K mg base CX (k + 1) f (PySem.W.fnOf x1 q1 prm bd sc v1 v2 v3 v4 a1 v5 v6) ps sp := by
  refine ⟨len, fun A outer s H args us vs Q E pr room hot hpin e0 hb rv hsp => ?_⟩
  have same0 := len _ _ _ _ _ hsp
  have kin : K.In s.heap := e0.mod.kin.keeps fun b o z => (e0.bs b o z).1
  have nlim : s.heap.NoLimit := e0.mod.nolimit.keeps fun b o z => (e0.bs b o z).1
  refine codeAny_call_function room.depth (kin _ _ lk) rfl S.co S.gen rfl (PySem.W.codeRec_of kin hcd) (hb _ _ _ _ ?_)
  refine wpAny_newFunctionEnv_cells S.kind (fun ⟨n, v⟩ hy => (S.par n (List.of_mem_zip hy).1).elim .inl fun z => .inr ⟨z, PySem.W.cellsFrom_some _ _ _ (.inl z)⟩) fun env he s1 x => ?_
  subst he
  refine ⟨nlim.keeps x.toInCall.keep, codeAny_func ?_⟩
  obtain ⟨t, ht, hq⟩ := hbody A outer s H vs Q E pr hot (room.deeper _) hsp
  have I : Inv (cxH CX P w K mg base N q1 sc f v5 A outer s H E pr) [] (L2.start N vs) H s1 := inv_startH S hpin e0 same0 rv x
  refine wpAny_mono (ht.run [] s1 (L2.start N vs) H _ I hq) (fun fl s' hs => ?_) fun e s' hs => hs
  cases fl with
  | ret u =>
    obtain ⟨v, σ', H', J, rr, q⟩ := hs
    exact ⟨v, H', J.os, J.bare, J.base, J.hok, rr, q⟩
  | next =>
    obtain ⟨σ', H', J, q⟩ := hs
    exact ⟨V.non, H', J.os, J.bare, J.base, J.hok, rfl, q⟩
  | brk => obtain ⟨_, _, _, q⟩ := hs; exact q.elim
  | cont => obtain ⟨_, _, _, q⟩ := hs; exact q.elim
section
variable {X : Cx} {CX : CXT} {k : Nat} {f : Addr} {fd : FuncData} {ps : List Str} {sp : Addr × Obj → Sp} {x : Str} {q pos : Pos} {e : Expr} {es : List Expr} {t : TA}
def tCallE (pr : Addr × Obj) (sp : Addr × Obj → Sp) (t : TA) : TE := fun σ H Q => t σ H fun vs H1 => sp pr vs H1 Q E0
/-- the call there; it lets nothing out -/
theorem pe_callE {pr : Addr × Obj} (F : FnE X.prog X.w X.K X.mg X.base CX k f fd ps sp) (room : RoomH k X.A) (hot : Hot1 X.A pr) (hp : pr ∈ X.pn) (hg : Gl X x) (hm : X.mg x = some (.ref f)) (hk : PySem.W.keepIn X.K (.ref f) = true) (hb : Binds X.K fd ps []) (hx : ∀ σ, PassesAt CX X σ E0)
    (ha : PA X (e :: es) t) (hdb : (x == ("__debug__" : Str)) = false := by decide) (he : starEach (e :: es) X.env = (false, eval e X.env) :: starEach es X.env := by rfl) (hpl : (backTo pos (starEach es X.env)).any (·.1) = false := by rfl) :
    PE X (.Call (.Name x q) (e :: es) [] pos) (tCallE pr sp t) := by
  refine ⟨fun pins s σ H Q I h => wpAny_Call_Name_kw (ld_glob I hg hm ?_ hdb)⟩
  refine PySem.W.callWith_K (h₀ := X.base) I.ok.mod.kin hk (thn (ha.run pos pins s σ H _ I h) fun us s1 ⟨vs, H1, J, r, qq⟩ => ⟨J.kIn, ?_⟩) he hpl
  have hl : us.length = ps.length := by rw [← r.length]; exact F.len _ _ _ _ _ qq
  have b := hb s1 us J.kIn (by rw [List.append_nil]; exact hl)
  rw [List.append_nil] at b
  have P1 := J.pin pr (List.mem_append_left _ hp)
  have ok : PinOk X.stack H1 s1 pr := ⟨P1.1, P1.2.1, fun z => (List.mem_cons.mp (J.stkSub pr.1 z)).elim P1.2.2.1 P1.2.2.2.1, P1.2.2.2.2⟩
  refine wpAny_call (codeAny_mono (F.run X.A X.stack s1 H1 ⟨us, []⟩ us vs Q E0 pr room hot ok J.env0 b r qq) fun res s' hq => ?_)
  cases res with
  | error er => exact hx σ pins H1 s1 er s' J hq
  | ok fl =>
    cases fl with
    | ret u => exact J.after hq
    | next => exact hq.elim
    | brk => exact hq.elim
    | cont => exact hq.elim
end
def spK (D : Addr) (kd : Str) : Addr × Obj → Sp := fun pr vs H Q _ => vs = [.ref pr.1] ∧ Zc (.ref D) none pr.2 ∧ (∃ fs, pr.2.data = .fields fs) ∧ ∀ H', Same H H' → Q (.str kd) H'
def arE (a : Addr) : Fx := fun i => if i = 0 then some (.ref a) else none
theorem repS_none {H : Hp} {N : List Str} {a : Addr} (hN : 1 ≤ N.length) : RepS Γ (arE a) H (L2.start N [.ref a]) (List.replicate N.length none) FE := by
  refine ⟨?_, fun i v e => ?_, ⟨fun _ => FE, fun i t e => ?_, fun _ _ _ _ z _ => z, fun _ _ z => z⟩, fun _ z => z.elim⟩
  · unfold L2.start
    simp
    omega
  · unfold arE at e
    split at e
    · rename_i h
      cases e
      subst h
      rfl
    · cases e
  · have := List.mem_of_getElem? e
    rw [List.mem_replicate] at this
    cases this.2
theorem fn_okE {P : Program} {w : World} {mg : Str → Option Value} {base : Heap} {x q : Str} {f : Addr} {fd : FuncData} {N : List Str} {y : Str} {k : Nat} {st : Stmt} {body : SF} {D : Addr} {kd : Str} {S' : TSt} {W : WX} (F : Fun Γ.K x q st f fd) (S : FnScope N [y] (defScope st)) (hN : 1 ≤ N.length)
    (hbody : ∀ (cdv : Value) (A : Around) (outer : List Env) (s : Shared) (H : Hp) (E : XK) (pr : Addr × Obj), Hot1 A pr → RoomH k (A.deeper (PyProof.Rows.envOfC q (defScope st) s.heap.objs.size f cdv)) → Zc (.ref D) none pr.2 → (∃ fs, pr.2.data = .fields fs) →
      PSs (cxH (L2N.CX P w) P w Γ.K mg base N q (defScope st) f cdv A outer s H E pr) (defBody st) (rdS Γ (arE pr.1) W body))
    (he : body (List.replicate N.length none) = some (.rt (.str kd), S')) : FnE P w Γ.K mg base (L2N.CX P w) (k + 1) f fd [y] (spK D kd) := by
  obtain ⟨xc, xd, xk, dc, pq, na, cdv, tc, zs, rfl, lk, hcd⟩ := F.ex
  refine fnE_of lk hcd S (fun pr vs H Q E h => by rw [h.1]; rfl) (fun A outer s H vs Q E pr hot room h => ?_)
  obtain ⟨rfl, z, fs, kk⟩ := h
  refine ⟨_, hbody cdv A outer s H E pr hot room z fs, List.replicate N.length none, FE, _, S', repS_none hN, he, fun v σ' H' F' G o => ?_⟩
  have r := o.r
  cases r
  exact kk H' fun b u hb => o.u.keep b u hb fun z => z
end VT
namespace VT
open PySem PySem.Spec PyProof.Rows L2 L2H HotX
variable {Γ : Gx}
theorem RepS.junk {ar : Fx} {H : Hp} {σ : L2.St} {S : TSt} {F : FP} {i : Nat} (R : RepS Γ ar H σ S F) (hi : ar i = none) (o : Option V) : RepS Γ ar H (σ.set i o) (S.set i none) F := by
  obtain ⟨len, arg, ⟨Fs, h1, h2, h3⟩, al⟩ := R
  refine ⟨by rw [List.length_set, List.length_set, len], fun j v e => ?_, ⟨Fs, fun j t e => ?_, h2, h3⟩, al⟩
  · have hj : i ≠ j := fun z => by rw [z, e] at hi; cases hi
    rw [List.getElem?_set_ne hj]
    exact arg j v e
  · by_cases hj : i = j
    · subst hj
      rw [List.getElem?_set] at e
      split at e
      · split at e <;> cases e
      · rename_i z; exact absurd rfl z
    · rw [List.getElem?_set_ne hj] at e
      obtain ⟨v, ev, r⟩ := h1 j t e
      exact ⟨v, by rw [List.getElem?_set_ne hj]; exact ev, r⟩
structure KindsOk (P : Program) (w : World) (Γ : Gx) (mg : Str → Option Value) (base : Heap) (k : Nat) (x ce : Str) (kn : Nat → Option Str) : Prop where
  ex : ∃ f fd y, mg x = some (.ref f) ∧ PySem.W.keepIn Γ.K (.ref f) = true ∧ Binds Γ.K fd [y] [] ∧ ∀ c kd, kn c = some kd → FnE P w Γ.K mg base (L2N.CX P w) k f fd [y] (spK (Γ.cl c) kd)
  ca : ∃ C : Addr, mg ce = some (.ref C) ∧ ∀ c kd, kn c = some kd → PySem.W.exmOne Γ.K (.ref (Γ.cl c)) (.ref C) = some true
def sTryK (kn : Nat → Option Str) (ie ik : Nat) (s : SF) : SF := fun S => (s S).bind fun rx => match rx with
  | (.ex c, S1) => if ie < S1.length then (kn c).bind fun kd => some (.nx, ((S1.set ie none).set ik (some (.str kd))).set ie none) else none
  | r => some r
section
variable {X : Cx} {ar : Fx} {W : WX} {body : List Stmt} {sb : SF} {pos p1 p2 p3 p4 p5 p6 : Pos} {kn : Nat → Option Str} {k ie ik : Nat} {x ce yk ye : Str}
/-- what the suite does -/
def tsK (Γ : Gx) (kn : Nat → Option Str) (ie ik : Nat) : Addr → Value → Option Addr → TS := fun a cls d D σ H => ∃ c kd, cls = .ref (Γ.cl c) ∧ d = none ∧ kn c = some kd ∧ σ[ie]? = some (some (.ref a)) ∧ ∀ H', Same H H' → D.nx (σ.set ik (some (.str kd))) H'
theorem s_tryK (D : KindsOk X.prog X.w Γ X.mg X.base k x ce kn) (hr : Room k X.A) (tk : L2N.Takes X W) (hie : ar ie = none) (hik : ar ik = none) (hN : X.N.Nodup)
    (hb : ∀ (W : WX) (pn : List (Addr × Obj)) (xe : Value → Shared → Prop), L2N.Takes (X.tr pn xe) W → PassesOwn (model X.prog X.w) X.A X.env xe → PSs (X.tr pn xe) body (rdS Γ ar W sb))
    (hK : X.K = Γ.K := by rfl) (hs : X.stack = X.env :: X.outer := by rfl) (hf : X.env.frame = some X.env.locals := by rfl) (ne : X.N[ie]? = some ye := by rfl) (nk : X.N[ik]? = some yk := by rfl) (le : X.env.kindOf ye = some .local := by rfl) (lk : Loc X.env.scope yk := by first | exact Or.inl rfl | exact Or.inr rfl)
    (ve : Vis X.env.scope ye := by first | exact Or.inl rfl | exact Or.inr (Or.inl rfl) | exact Or.inr (Or.inr rfl)) (hfn : X.fn yk = true ∨ X.env.scope.names.lookup yk = some .local := by first | exact .inl rfl | exact .inr rfl) (hg : Gl X x := by rfl) (gc : Gl X ce := by rfl)
    (d1 : (x == ("__debug__" : Str)) = false := by decide) (d2 : (ce == ("__debug__" : Str)) = false := by decide) (d3 : (ye == ("__debug__" : Str)) = false := by decide) (d4 : (ye == ("__classdict__" : Str)) = false := by decide)
    (hsw : swapsWith (.Call (.Name x p3) [.Name ye p4] [] p5) (some (.Name yk p2)) p6.line X.env = pure false := by rfl)
    (hst : starEach [.Name ye p4] X.env = (false, eval (.Name ye p4) X.env) :: starEach [] X.env := by rfl) (hpl : (backTo p5 (starEach [] X.env)).any (·.1) = false := by rfl) {np p7 : Pos} :
    PS X (.Try body [.ExceptHandler (some (.Name ce np)) (some ye) [.Assign [.Name yk p2] (.Call (.Name x p3) [.Name ye p4] [] p5) p6] p7] [] [] pos) (rdS Γ ar W (sTryK kn ie ik sb)) := by
  obtain ⟨f, fd, y, hm, hk, hbi, hF⟩ := D.ex
  obtain ⟨C, hce, hex⟩ := D.ca
  refine PS.imp (L2N.ps_try_as (tb := fun W => rdS Γ ar W sb) (ts := tsK Γ kn ie ik) (Wout := W) hs hf hN ne le ⟨gc, d2, .inl hce⟩ tk hb fun a oe cls d pn hz hfl => ?_) fun E σ H q => ?_
  · refine ⟨fun pins s σ H E I q => ?_⟩
    obtain ⟨c, kd, rfl, rfl, hkn, hσ, kk⟩ := q
    have hot : Hot1 (X.suite a ((a, oe) :: pn)).A (a, oe) := by
      obtain ⟨vs, hv⟩ := hfl
      exact ⟨rfl, vs, hv, hz.2.2 vs hv⟩
    have F := hF c kd hkn
    rw [← hK] at F hk hbi
    have pc : PE (X.suite a ((a, oe) :: pn)) (.Call (.Name x p3) [.Name ye p4] [] p5) (tCallE (a, oe) (spK (Γ.cl c) kd) (tCons (tVar ie) tNil)) :=
      pe_callE (X := X.suite a ((a, oe) :: pn)) F ⟨hr.dp, hr.un⟩ hot List.mem_cons_self hg hm hk hbi (fun σ pins H s e s' I z => by
        obtain ⟨a', B, H', cls', d', h1, h2, h3, h4, h5, h6, h7, z⟩ := z
        exact z.elim) (pa_cons (pe_var ne ve d3 d4) pa_nil hst) d1 hst hpl
    have pp : PSs (X.suite a ((a, oe) :: pn)) [.Assign [.Name yk p2] (.Call (.Name x p3) [.Name ye p4] [] p5) p6] _ := pss_one (ps_set (X := X.suite a ((a, oe) :: pn)) hN nk lk pc hsw hfn)
    exact pp.run pins s σ H E I ⟨.ref a, hσ, rfl, hz.zc, hfl, fun H' sm => kk H' sm⟩
  · obtain ⟨S, F, fl, S', R, e, kk⟩ := q
    unfold sTryK at e
    cases e1 : sb S with
    | none => rw [e1] at e; cases e
    | some o =>
      obtain ⟨f1, S1⟩ := o
      rw [e1] at e
      simp only [Option.bind_some] at e
      refine ⟨S, F, f1, S1, R, e1, ?_⟩
      cases f1 with
      | ex c =>
        simp only at e
        by_cases hl : ie < S1.length
        · rw [if_pos hl] at e
          cases e2 : kn c with
          | none => rw [e2] at e; cases e
          | some kd =>
          rw [e2] at e
          cases e
          intro σ' H' F' R' u
          refine ⟨true, by rw [hK]; exact hex c kd e2, fun _ a ha => ⟨c, kd, rfl, rfl, e2, ?_, fun H2 sm => ?_⟩, fun z => nomatch z⟩
          · rw [List.getElem?_set_self (by rw [← R'.len]; exact hl)]
          · have R2 := ((((R'.junk hie (some (.ref a))).same sm).putIm (G := FE) hik (.str kd) rfl).junk hie none)
            exact kk _ H2 F' R2 (u.trans (Upd.of_same sm))
        · rw [if_neg hl] at e; cases e
      | nx => cases e; exact kk
      | bk => cases e; exact kk
      | ct => cases e; exact kk
      | rt t => cases e; exact kk
end
end VT
namespace VT
open PySem PySem.Spec PyProof.Rows L2
section
variable {Γ : Gx} {X : Cx} {ar : Fx} {W : WX} {e o : Expr} {fa : EF} {pos : Pos} {pl : PF} {g gb : BF}
def augM (fo : Int → Int → Int) (k b : Int) (u : T) : Option T := match u with
  | .nd .lst ts => if 0 ≤ k then (ixN ts.length k).bind fun j => (ts[j]?).bind fun t => match t with
    | .int a => some (.nd .lst (ts.set j (.int (fo a b))))
    | _ => none
    else none
  | _ => none
end
end VT
namespace VT
open PySem PySem.Spec PyProof.Rows L2
section
variable {Γ : Gx} {X : Cx} {ar : Fx} {W : WX} {e o : Expr} {fa fi : EF} {pos : Pos} {pl : PF} {g gb : BF}
def nLst (gs : BAF) : BF := fun S => (gs S).bind fun l => (valsOf l).bind fun ts => gd (ts.length ≤ 100000 ∧ T.imAll ts = true) (.nd .lst ts)
theorem n_lst {es : List Expr} {gs : BAF} (h : PA X es (rdBA Γ ar gs)) : PE X (.List es pos) (rdN Γ ar (nLst gs)) := PE.imp (pe_lst h) fun σ H Q q => by
  obtain ⟨S, F, t, R, e, k⟩ := q
  unfold nLst at e
  cases e1 : gs S with
  | none => rw [e1] at e; cases e
  | some l =>
    rw [e1] at e
    simp only [Option.bind_some] at e
    cases e2 : valsOf l with
    | none => rw [e2] at e; cases e
    | some ts =>
      rw [e2] at e
      obtain ⟨⟨c1, c2⟩, rfl⟩ := gd_some.mp e
      refine ⟨S, F, l, R, e1, fun vs H1 G1 s1 A1 n1 => ?_⟩
      obtain ⟨len, Gs, h1, h3, h4⟩ := A1.vals e2
      refine ⟨sz5 (by omega), fun p hp => ?_⟩
      have s2 : Same H1 (upd H1 p (.lst vs)) := fun b u z => by rw [upd_ne (ne_of_none z hp)]; exact z
      refine k _ _ (fun a => a = p) (s1.trans s2) (.nd (Fs := fun _ => FE) upd_same len (fun _ => ⟨rfl, fun _ z => z⟩) (fun i v t q1 q2 => ((h1 i v t q1 q2).same s2).im (imAll_iff.mp c2 i t q2) FE) (fun _ _ _ _ z _ => z) fun _ _ z => z.elim) ⟨fun a z => ?_, fun a z => ?_⟩
      · rw [z]; exact s1.free hp
      · rw [z, upd_same]; exact fun y => nomatch y
structure RaiseOk (K : PySem.W.Frag) (mg : Str → Option Value) (x : Str) (C : Addr) : Prop where
  exc : PySem.W.excIn K C [.type "ValueError", .type "Exception", .type "BaseException", .type "object"] "ValueError.__new__" = true
  at_ : mg x = some (.ref C)
  kp : PySem.W.keepIn K (.ref C) = true
  sub : PySem.W.subIn K (.ref C) (.type "BaseException") = some true
  ty : PySem.W.typeIn K (.ref C) = some (.type "type")
theorem s_raiseX {c : Nat} {x m : Str} {j : Nat} {p p2 pos2 : Pos} (Rx : RaiseOk X.K X.mg x (Γ.cl c)) (tk : L2N.Takes X W) (hc : X.calm = true := by rfl) (hg : Gl X x := by rfl) (hdb : (x == ("__debug__" : Str)) = false := by decide) :
    PS X (.Raise (some (.Call (.Name x p) [.Constant (.str m) j p2] [] pos)) none pos2) (rdS Γ ar W (sRaise c)) :=
  s_raise hc tk (L2N.pmk_own PySem.F.excBase_ValueError Rx.exc Rx.at_ Rx.kp (raises_own Rx.sub Rx.ty) hg hdb)
end
end VT
namespace VT
open PySem L2
theorem kit_self {K : PySem.W.Frag} {C : Addr} : PySem.W.kitOne K (.ref C) (.ref C) = some true := by
  unfold PySem.W.kitOne
  rw [if_pos (by simp)]
theorem kit_ve {K : PySem.W.Frag} {C : Addr} (h : PySem.W.subIn K (.ref C) (.type "ValueError") = some true) : PySem.W.kitOne K (.ref C) (.type "ValueError") = some true := by
  unfold PySem.W.kitOne PySem.W.kitCls
  rw [if_neg (by simp)]
  simp only
  rw [if_pos (by decide), h]
theorem kit_no {K : PySem.W.Frag} {C A : Addr} (hs : PySem.W.subIn K (.ref C) (.ref C) = some true) (hc : PySem.W.isClsIn K A = true) (ht : PySem.W.typeIn K (.ref A) = some (.type "type")) (h : PySem.W.subIn K (.ref C) (.ref A) = some false) : PySem.W.kitOne K (.ref C) (.ref A) = some false := by
  have hne : C ≠ A := fun z => by rw [← z, hs] at h; cases h
  unfold PySem.W.kitOne PySem.W.kitCls
  rw [if_neg (by simpa using hne)]
  simp only
  have hc' : (PySem.W.clsIn K A).isSome = true := hc
  rw [if_pos (by rw [hc', ht]; decide), h]
end VT
namespace VT
open PySem L2
section
variable {fa fb fi : EF} {g gb : BF} {S S1 : TSt} {i j n c ie ik : Nat} {s : SF} {b : Bool} {t x y u : T} {pl : PF} {gs : BAF} {ts : List T} {p : List Nat} {kn : Nat → Option Str} {tf : GF} {fo : Int → Int → Int} {vs : List Nat} {cond elt : EF}
theorem kSet_ex : kSet i (.ex c, S) = some (.ex c, S) := rfl
theorem kRet_ex : kRet (.ex c, S) = some (.ex c, S) := rfl
theorem kExpr_ex : kExpr (.ex c, S) = some (.ex c, S) := rfl
theorem sRaise_q : sRaise c S = some (.ex c, S) := rfl
def kTry2 (ie ik : Nat) (S : TSt) (kd : Str) : Option (Fl × TSt) := some (.nx, ((S.set ie none).set ik (some (.str kd))).set ie none)
def kTry (kn : Nat → Option Str) (ie ik : Nat) : Fl × TSt → Option (Fl × TSt)
  | (.ex c, S1) => if ie < S1.length then (kn c).bind (kTry2 ie ik S1) else none
  | r => some r
theorem sTryK_q : sTryK kn ie ik s S = (s S).bind (kTry kn ie ik) := by
  unfold sTryK
  cases s S with
  | none => rfl
  | some r => obtain ⟨f, S1⟩ := r; cases f <;> rfl
theorem kTry_ex : kTry kn ie ik (.ex c, S) = if ie < S.length then (kn c).bind (kTry2 ie ik S) else none := rfl
theorem kTry_nx : kTry kn ie ik (.nx, S) = some (.nx, S) := rfl
theorem kTry_rt : kTry kn ie ik (.rt t, S) = some (.rt t, S) := rfl
theorem kTry2_q {kd : Str} : kTry2 ie ik S kd = some (.nx, ((S.set ie none).set ik (some (.str kd))).set ie none) := rfl
theorem setAll_n : setAll [] [] S = some S := rfl
theorem setAll_c {is : List Nat} : setAll (i :: is) (t :: ts) S = setAll is ts (S.set i (some t)) := rfl
theorem augM_ints {k b : Int} {l : List Int} (h0 : 0 ≤ k) (h1 : k < l.length) : augM fo k b (.nd .lst (l.map .int)) = some (.nd .lst ((l.set k.toNat (fo (l.getD k.toNat 0) b)).map .int)) := by
  unfold augM
  simp only
  have hk : k.toNat < l.length := by omega
  have e : ixN (l.map T.int).length k = some k.toNat := by
    unfold ixN
    rw [List.length_map, if_pos h0, if_pos h1]
  rw [if_pos h0, e, Option.bind_some, List.getElem?_map, List.getElem?_eq_getElem hk]
  simp [List.map_set, List.getD_eq_getElem?_getD, List.getElem?_eq_getElem hk]
def kNL2 (ts : List T) : Option T := gd (ts.length ≤ 100000 ∧ T.imAll ts = true) (.nd .lst ts)
def kNL (l : List Arg) : Option T := (valsOf l).bind kNL2
theorem nLst_q : nLst gs S = (gs S).bind kNL := rfl
theorem kNL_q {as : List Arg} : kNL as = (valsOf as).bind kNL2 := rfl
theorem kNL2_q : kNL2 ts = gd (ts.length ≤ 100000 ∧ T.imAll ts = true) (.nd .lst ts) := rfl
def kLR (j : Nat) (vs : List Nat) (cond elt : EF) : Rs T × TSt → Option (Rs T × TSt)
  | (.ex c, S1) => some (.ex c, S1)
  | (.ok (.int n), S1) => if 0 ≤ n ∧ n < 100000 then lcEnd vs S1 (eLcFrom j vs cond elt (rgT n) S1) else none
  | _ => none
theorem eLcR_q : eLcR j vs fa cond elt S = (fa S).bind (kLR j vs cond elt) := by
  unfold eLcR
  cases fa S with
  | none => rfl
  | some r => obtain ⟨r, S1⟩ := r; cases r with
    | ex c => rfl
    | ok w => cases w <;> rfl
theorem kLR_q {k : Int} : kLR j vs cond elt (.ok (.int k), S) = if 0 ≤ k ∧ k < 100000 then lcEnd vs S (eLcFrom j vs cond elt (rgT k) S) else none := rfl
theorem mulT_l {k : Int} : mulT (.nd .lst [u]) (.int k) = gd (0 ≤ k ∧ k ≤ 100000 ∧ u.im = true) (.nd .lst (List.replicate k.toNat u)) := rfl
theorem lrgT_q {k : Int} : lrgT (.int k) = if 0 ≤ k ∧ k ≤ 100000 then some (.nd .lst (rgT k)) else none := rfl
def rgI (n : Int) : List Int := (List.range n.toNat).map fun (k : Nat) => (k : Int)
theorem rgT_ints (n : Int) : rgT n = (rgI n).map .int := by unfold rgT rgI; rw [List.map_map]; rfl
theorem rgI_length {n : Int} : (rgI n).length = n.toNat := by simp [rgI]
theorem mem_rgI {n k : Int} : k ∈ rgI n ↔ 0 ≤ k ∧ k < n := by
  unfold rgI
  constructor
  · intro h
    obtain ⟨j, hj, rfl⟩ := List.mem_map.mp h
    have := List.mem_range.mp hj
    omega
  · intro h
    exact List.mem_map.mpr ⟨k.toNat, List.mem_range.mpr (by omega), by omega⟩
theorem rep_ints {n : Nat} {v : Int} : List.replicate n (T.int v) = (List.replicate n v).map .int := by simp
theorem get_int {l : List Int} {k : Int} (h0 : 0 ≤ k) (h1 : k < l.length) : (l.map T.int)[k.toNat]? = some (.int (l.getD k.toNat 0)) := by
  have hk : k.toNat < l.length := by omega
  rw [List.getElem?_map, List.getElem?_eq_getElem hk]
  simp [List.getD_eq_getElem?_getD, List.getElem?_eq_getElem hk]
theorem getD_set {l : List Int} {k : Nat} {v : Int} (h : k < l.length) : (l.set k v).getD k 0 = v := by simp [List.getD_eq_getElem?_getD, h]
theorem set_int {l : List Int} {k : Nat} {v : Int} : (l.map T.int).set k (.int v) = (l.set k v).map .int := by rw [List.map_set]
theorem app_int {l : List Int} {v : Int} : l.map T.int ++ [.int v] = (l ++ [v]).map .int := by simp
theorem plI {d : Nat} (l : List Int) : plT (d + 1) (.nd .lst (l.map .int)) = true := by rw [plT]; exact pl_ints l
theorem teq_li {l m : List Int} : teq (.nd .lst (l.map .int)) (.nd .lst (m.map .int)) = decide (l = m) := by
  have h := teq_iff (plI (d := 0) l) (plI (d := 0) m)
  cases e : decide (l = m) with
  | true =>
    have := of_decide_eq_true e
    rw [this]
    exact teq_self (plI (d := 0) m)
  | false =>
    cases e2 : teq (.nd .lst (l.map .int)) (.nd .lst (m.map .int)) with
    | false => rfl
    | true =>
      have z := h.mp e2
      injection z with _ z
      have inj : ∀ {a b : List Int}, a.map T.int = b.map T.int → a = b := fun {a b} => by
        induction a generalizing b with
        | nil => cases b <;> simp
        | cons x a ih => cases b with
          | nil => simp
          | cons y b => intro w; simp only [List.map_cons, List.cons.injEq, T.int.injEq] at w; rw [w.1, ih w.2]
      exact absurd (inj z) (of_decide_eq_false e)
theorem eqT_ln {l : List Int} : eqT (.nd .lst (l.map .int)) (.nd .lst []) = some (.bl (decide (l = []))) := by
  have := teq_li (l := l) (m := [])
  rw [← this]
  exact eqT_pl (plI (d := 7) l) (plI (d := 7) [])
theorem neT_ln {l : List Int} : neT (.nd .lst (l.map .int)) (.nd .lst []) = some (.bl (!decide (l = []))) := by
  have := teq_li (l := l) (m := [])
  rw [← this]
  exact neT_pl (plI (d := 7) l) (plI (d := 7) [])
end
end VT
namespace VT
open PySem PySem.Spec PyProof.Rows L2
section
variable {Γ : Gx} {X : Cx} {ar : Fx} {W : WX} {e o : Expr} {fa fi : EF} {pos : Pos} {pl : PF} {g ga gb : BF}
def negT : T → Option T
  | .int i => some (.int (-i))
  | _ => none
theorem negT_ok : UnT Γ (fun x H Q => rU (fun i => .int (-i)) x H Q) negT := by
  intro H x t1 t G1 Q r1 e k
  unfold negT at e
  split at e
  · cases e
    cases r1
    exact ⟨_, rfl, k _ H FE (Same.refl H) (.int _) new_FE⟩
  · cases e
theorem n_neg (ha : PE X e (rdB Γ ar ga)) : PE X (.UnaryOp .USub e pos) (rdN Γ ar (bUn negT ga)) := PE.imp (pe_un un_neg ha) fun σ H Q q => tUn_b negT_ok σ H Q q
end
end VT
namespace VT
open PySem PySem.Spec PyProof.Rows L2
def keyT : T → Option Key
  | .int i => some (.inl i)
  | .str x => some (.inr x)
  | _ => none
def keysT : List T → Option (List Key)
  | [] => some []
  | t :: ts => (keyT t).bind fun k => (keysT ts).bind fun ks => some (k :: ks)
def ixK {κ : Type} [DecidableEq κ] (k : κ) : List κ → Option Nat
  | [] => none
  | k' :: ks => if k' = k then some 0 else (ixK k ks).bind fun j => some (j + 1)
theorem ixK_lt {κ : Type} [DecidableEq κ] {k : κ} : ∀ {ks : List κ} {j : Nat}, ixK k ks = some j → j < ks.length
  | [], _, e => by cases e
  | k' :: ks, j, e => by
    unfold ixK at e
    by_cases h : k' = k
    · rw [if_pos h] at e; cases e; simp
    · rw [if_neg h] at e
      cases e3 : ixK k ks with
      | none => rw [e3] at e; cases e
      | some j' =>
        rw [e3] at e
        cases e
        have := ixK_lt e3
        simp
        omega
theorem valV_ix {κ : Type} [DecidableEq κ] {k : κ} : ∀ {ks : List κ} {vs : List V}, ks.length = vs.length → valV (ks.zip vs) k = (ixK k ks).bind fun j => vs[j]?
  | [], [], _ => rfl
  | k' :: ks, v :: vs, h => by
    rw [List.zip_cons_cons]
    unfold ixK
    by_cases e : k' = k
    · rw [if_pos e, valV_pos e]; rfl
    · rw [if_neg e, valV_neg e, valV_ix (by simpa using h)]
      cases ixK k ks <;> rfl
  | [], _ :: _, h => by simp at h
  | _ :: _, [], h => by simp at h
theorem putK_some {κ : Type} [DecidableEq κ] {k : κ} {y : V} : ∀ {ks : List κ} {vs : List V} {j : Nat}, ks.Nodup → ks.length = vs.length → ixK k ks = some j → putK (ks.zip vs) k y = ks.zip (vs.set j y) := by
  intro ks vs j nd hl e
  have hs : (valV (ks.zip vs) k).isSome = true := by
    rw [valV_ix hl, e]
    have := ixK_lt e
    show (vs[j]?).isSome = true
    rw [List.getElem?_eq_getElem (by omega)]
    try rfl
  unfold putK
  rw [if_pos (by rw [valV_any]; exact hs)]
  clear hs
  induction ks generalizing vs j with
  | nil => cases e
  | cons k' ks ih =>
    cases vs with
    | nil => simp at hl
    | cons v vs =>
      unfold ixK at e
      rw [List.nodup_cons] at nd
      rw [List.zip_cons_cons, List.map_cons]
      by_cases h : k' = k
      · rw [if_pos h] at e
        cases e
        subst h
        rw [List.set_cons_zero, List.zip_cons_cons]
        simp only [if_true]
        congr 1
        have : ∀ (l : List (κ × V)), (∀ p ∈ l, p.1 ≠ k') → l.map (fun kv => if kv.1 = k' then (kv.1, y) else kv) = l := fun l hl => by
          induction l with
          | nil => rfl
          | cons p l ih2 =>
            rw [List.map_cons, if_neg (hl p List.mem_cons_self), ih2 fun q hq => hl q (List.mem_cons_of_mem _ hq)]
        exact this _ fun p hp hz => nd.1 (by
          rw [← hz]
          exact (List.of_mem_zip (a := p.1) (b := p.2) hp).1)
      · rw [if_neg h] at e
        cases e3 : ixK k ks with
        | none => rw [e3] at e; cases e
        | some j' =>
          rw [e3] at e
          cases e
          rw [if_neg h, List.set_cons_succ, List.zip_cons_cons, ih nd.2 (by simpa using hl) e3]
theorem putK_none {κ : Type} [DecidableEq κ] {k : κ} {y : V} {ks : List κ} {vs : List V} (hl : ks.length = vs.length) (e : ixK k ks = none) : putK (ks.zip vs) k y = (ks ++ [k]).zip (vs ++ [y]) := by
  rw [putK_new y (by rw [valV_ix hl, e]; rfl), List.zip_append hl]
  try rfl
section
variable {Γ : Gx} {ar : Fx} {W : WX} {X : Cx} {a b e o : Expr} {pos : Pos} {ga gb gc g : BF} {fa fb : EF} {pl : PF}
theorem keyT_rep {H : Hp} {v : V} {t : T} {G : FP} {k : Key} (r : Rep Γ H v t G) (e : keyT t = some k) : v = kV k := by
  cases r <;> cases e <;> rfl
theorem keysT_rep {H : Hp} {G : FP} : ∀ {vs : List V} {ts : List T} {ks : List Key}, vs.length = ts.length → (∀ (i : Nat) (v : V) (t : T), vs[i]? = some v → ts[i]? = some t → Rep Γ H v t G) → keysT ts = some ks → vs = ks.map kV
  | [], [], ks, _, _, e => by cases e; rfl
  | v :: vs, t :: ts, ks, hl, h, e => by
    unfold keysT at e
    cases e1 : keyT t with
    | none => rw [e1] at e; cases e
    | some k =>
      rw [e1] at e
      simp only [Option.bind_some] at e
      cases e2 : keysT ts with
      | none => rw [e2] at e; cases e
      | some l =>
        rw [e2] at e
        cases e
        have z := keysT_rep (vs := vs) (ts := ts) (by simpa using hl) (fun i v t a b => h (i + 1) v t (by simpa using a) (by simpa using b)) e2
        rw [List.map_cons, keyT_rep (h 0 v t rfl rfl) e1, z]
  | [], _ :: _, _, hl, _, _ => by simp at hl
  | _ :: _, [], _, hl, _, _ => by simp at hl
def T.kd : T → List T
  | .nd _ ts => ts
  | _ => []
def isDi : T → Bool
  | .nd (.dK _) _ => true
  | .nd (.dT _) _ => true
  | _ => false
/-- a dict that may be read -/
def isDr : T → Bool
  | .nd (.dK _) _ => true
  | .nd (.dT _) _ => true
  | .nd (.fK _) _ => true
  | _ => false
/-- where a key stands in a dict -/
def dix : T → T → Option (Option Nat)
  | .nd (.dK ks) _, w => (keyT w).bind fun k => some (ixK k ks)
  | .nd (.fK ks) _, w => (keyT w).bind fun k => some (ixK k ks)
  | .nd (.dT ks) _, .nd .tup us => (keysT us).bind fun k => some (ixK k ks)
  | _, _ => none
/-- a tuple's object, by its address -/
theorem Rep.tupAt {H : Hp} {x : V} {ts : List T} {G : FP} (h : Rep Γ H x (.nd .tup ts) G) :
    ∃ a vs, x = .ref a ∧ H a = some (.tup vs) ∧ vs.length = ts.length ∧ ∀ (i : Nat) (v : V) (t : T), vs[i]? = some v → ts[i]? = some t → Rep Γ H v t G := by
  cases h with
  | @nd _ _ a vs _ Fs hat hl hm hc hd hs => exact ⟨a, vs, rfl, hat, hl, fun i v t e1 e2 => (hc i v t e1 e2).mono (hs i)⟩
/-- what a look into a dict finds, by the objects -/
theorem dix_at {H : Hp} {k : Kd} {a : Addr} {vs : List V} {ts : List T} {y : V} {w : T} {G' : FP} {o : Option Nat} (hat : At Γ H k a vs) (hl : vs.length = ts.length) (r' : Rep Γ H y w G') (e : dix (.nd k ts) w = some o) :
    IsD H a ∧ DGet H a y (o.bind fun j => vs[j]?) ∧ (∀ j, o = some j → j < ts.length) ∧ isDr (.nd k ts) = true := by
  cases k with
  | dK ks =>
    obtain ⟨hl2, ha⟩ : ks.length = vs.length ∧ H a = some (.dK (ks.zip vs)) := hat
    have e : (keyT w).bind (fun k => some (ixK k ks)) = some o := e
    cases e1 : keyT w with
    | none => rw [e1] at e; cases e
    | some kk =>
      rw [e1] at e
      cases e
      refine ⟨.inl ⟨_, .inl ha⟩, ?_, fun j hj => ?_, rfl⟩
      · rw [keyT_rep r' e1, ← valV_ix hl2]
        exact DGet.k ha
      · have := ixK_lt hj; omega
  | fK ks =>
    obtain ⟨hl2, od, ha⟩ : ks.length = vs.length ∧ ∃ od, H a = some (.frz od (.dK (ks.zip vs))) := hat
    have e : (keyT w).bind (fun k => some (ixK k ks)) = some o := e
    cases e1 : keyT w with
    | none => rw [e1] at e; cases e
    | some kk =>
      rw [e1] at e
      cases e
      refine ⟨.inl ⟨_, .inr ⟨od, ha⟩⟩, ?_, fun j hj => ?_, rfl⟩
      · rw [keyT_rep r' e1, ← valV_ix hl2]
        exact .inl ⟨_, kk, .inr ⟨od, ha⟩, rfl, rfl⟩
      · have := ixK_lt hj; omega
  | dT ks =>
    obtain ⟨hl2, ha⟩ : ks.length = vs.length ∧ H a = some (.dT (ks.zip vs)) := hat
    cases w with
    | nd kw us =>
      cases kw with
      | tup =>
        have e : (keysT us).bind (fun k => some (ixK k ks)) = some o := e
        cases e1 : keysT us with
        | none => rw [e1] at e; cases e
        | some kk =>
          rw [e1] at e
          cases e
          obtain ⟨b, ws, rfl, hb, hlw, hc⟩ := r'.tupAt
          refine ⟨.inr ⟨_, .inl ha⟩, ?_, fun j hj => ?_, rfl⟩
          · rw [keysT_rep hlw hc e1] at hb
            rw [← valV_ix hl2]
            exact DGet.t ha hb
          · have := ixK_lt hj; omega
      | _ => cases e
    | _ => cases e
  | _ => cases e
theorem dix_get {H : Hp} {x y : V} {u w : T} {G G' : FP} {o : Option Nat} (r : Rep Γ H x u G) (r' : Rep Γ H y w G') (e : dix u w = some o) :
    ∃ (a : Addr) (vs : List V), x = .ref a ∧ vs.length = u.kd.length ∧ IsD H a ∧ DGet H a y (o.bind fun j => vs[j]?) ∧ (∀ j, o = some j → j < u.kd.length) ∧ ∀ (i : Nat) (v : V) (t : T), vs[i]? = some v → u.kd[i]? = some t → Rep Γ H v t G := by
  cases r with
  | @nd _ k a vs ts Fs hat hl hm hc hd hs =>
    obtain ⟨h1, h2, h3, h4⟩ := dix_at hat hl r' e
    exact ⟨a, vs, rfl, hl, h1, h2, h3, fun i v t e1 e2 => (hc i v t e1 e2).mono (hs i)⟩
  | _ => unfold dix at e; cases e
def rDix : R2 := fun x y H Q => ∃ a v, x = .ref a ∧ DGet H a y (some v) ∧ Q v H
theorem ix_dict (hu : X.A.units + 1 < cLine) : IxR X rDix := by
  intro value slice pins s σ H x y v u Q I rx ry h hs
  obtain ⟨a, z, rfl, g, q⟩ := h
  obtain rfl : v = Value.ref a := rx
  have hT := dict_typeIs I g
  unfold subscriptTail
  refine wpAny_bind ?_
  rw [getitemInPython_of_ne hT.not_modules]
  refine wpAny_bind (wpAny_specialOf hT PySem.F.slot_dict_getitem.lookup ?_)
  have fin : wpAny (model X.prog X.w) X.A (subscripted slice false (.ref a) u) (fun r s₃ => wpAny (model X.prog X.w) X.A (letTemporaryGo value (.ref a) r >>= fun _ => pure r) (EP X pins σ Q) X.xe s₃) X.xe s := by
    rw [hs]
    exact wpAny_operating (wpAny_mono (d_getItem hu I g ry fun w' s3 I3 rw' => ⟨z, H, I3, rw', q⟩) (fun r s₃ h₃ => wpAny_bind (wpAny_letTemporaryGo (wpAny_pure h₃))) fun _ _ x => x)
  first
    | exact wpAny_pure (wpAny_bind fin)
    | exact wpAny_bind (wpAny_pure (wpAny_bind fin))
    | exact wpAny_bind fin
def dgetT (u w : T) : Option T := (dix u w).bind fun o => o.bind fun j => (u.kd[j]?).bind imO
theorem dgetT_ok : OpT Γ rDix dgetT := by
  intro H x y t1 t2 t G1 G2 Q r1 r2 e k
  unfold dgetT at e
  cases e1 : dix t1 t2 with
  | none => rw [e1] at e; cases e
  | some o =>
    rw [e1] at e
    simp only [Option.bind_some] at e
    cases o with
    | none => cases e
    | some j =>
      simp only [Option.bind_some] at e
      obtain ⟨e2, hi⟩ := bind_im e
      obtain ⟨a, vs, rfl, hl, _, g, hj, hc⟩ := dix_get r1 r2 e1
      have hj' := hj j rfl
      have ev : vs[j]? = some (vs[j]'(by omega)) := List.getElem?_eq_getElem (by omega)
      refine ⟨a, _, rfl, ?_, k _ H FE (Same.refl H) ((hc j _ t ev e2).im hi FE) new_FE⟩
      rw [← ev]
      exact g
def ixA (u w : T) : Option T := if isDr u = true then dgetT u w else ixT u w
def rIxA (K : PySem.W.Frag) : R2 := fun x y H Q => rIx K x y H Q ∨ rDix x y H Q
theorem ix_any (hu : X.A.units + 1 < cLine) : IxR X (rIxA X.K) := ix_seq.or (ix_dict hu)
theorem ixA_ok : OpT Γ (rIxA Γ.K) ixA := by
  intro H x y t1 t2 t G1 G2 Q r1 r2 e k
  unfold ixA at e
  by_cases h : isDr t1 = true
  · rw [if_pos h] at e
    exact .inr (dgetT_ok H x y t1 t2 t G1 G2 Q r1 r2 e k)
  · rw [if_neg h] at e
    exact .inl (ixT_ok H x y t1 t2 t G1 G2 Q r1 r2 e k)
theorem eIxA (hu : X.A.units + 1 < cLine) (ha : PE X a (rdE Γ ar W fa)) (hb : PE X b (rdE Γ ar W fb)) (hs : PlainIx b) (hK : X.K = Γ.K := by rfl) : PE X (.Subscript a b pos) (rdE Γ ar W (eOp ixA fa fb)) := PE.imp (pe_ix (hK ▸ ix_any hu) ha hb hs) (tOp_e ixA_ok)
def rDIn (neg : Bool) : R2 := fun y x H Q => ∃ a o, x = .ref a ∧ DGet H a y o ∧ Q (.bl (if neg then !o.isSome else o.isSome)) H
theorem op_dIn (hu : X.A.units + 1 < cLine) : OpR X (compareOp .In) (rDIn false) := by
  intro pins s σ H x y v u Q I rx ry h
  obtain ⟨a, o, rfl, g, q⟩ := h
  obtain rfl : u = Value.ref a := ry
  exact d_in hu I g rx fun s3 I3 => ⟨.bl o.isSome, H, I3, rfl, q⟩
theorem op_dNotIn (hu : X.A.units + 1 < cLine) : OpR X (compareOp .NotIn) (rDIn true) := by
  intro pins s σ H x y v u Q I rx ry h
  obtain ⟨a, o, rfl, g, q⟩ := h
  obtain rfl : u = Value.ref a := ry
  exact d_notIn hu I g rx fun s3 I3 => ⟨.bl (!o.isSome), H, I3, rfl, q⟩
def inAO (t1 t2 : T) : Option Bool := if isDr t2 = true then (dix t2 t1).bind fun o => some o.isSome else inO t1 t2
def inA (t1 t2 : T) : Option T := (inAO t1 t2).map .bl
def notInA (t1 t2 : T) : Option T := (inAO t1 t2).map fun b => .bl (!b)
def rInA (K : PySem.W.Frag) (neg : Bool) : R2 := fun x y H Q => rInT K neg x y H Q ∨ rDIn neg x y H Q
theorem op_inA (hu : X.A.units + 65 < cLine) : OpR X (compareOp .In) (rInA X.K false) := or_OpR (op_inT hu) (op_dIn (by omega))
theorem op_notInA (hu : X.A.units + 65 < cLine) : OpR X (compareOp .NotIn) (rInA X.K true) := or_OpR (op_notInT hu) (op_dNotIn (by omega))
theorem inAO_ok {neg : Bool} {H : Hp} {x y : V} {t1 t2 : T} {b : Bool} {G1 G2 : FP} {Q : VK} (r1 : Rep Γ H x t1 G1) (r2 : Rep Γ H y t2 G2) (e : inAO t1 t2 = some b) (k : Q (.bl (if neg then !b else b)) H) : rInA Γ.K neg x y H Q := by
  unfold inAO at e
  by_cases h : isDr t2 = true
  · rw [if_pos h] at e
    cases e1 : dix t2 t1 with
    | none => rw [e1] at e; cases e
    | some o =>
      rw [e1] at e
      cases e
      obtain ⟨a, vs, rfl, hl, _, g, hj, hc⟩ := dix_get r2 r1 e1
      refine .inr ⟨a, _, rfl, g, ?_⟩
      have : (o.bind fun j => vs[j]?).isSome = o.isSome := by
        cases o with
        | none => rfl
        | some j =>
          have := hj j rfl
          show (vs[j]?).isSome = true
          rw [List.getElem?_eq_getElem (by omega)]
          try rfl
      rw [this]
      exact k
  · rw [if_neg h] at e
    exact .inl (inO_ok r1 r2 e k)
theorem inA_ok : OpT Γ (rInA Γ.K false) inA := by
  intro H x y t1 t2 t G1 G2 Q r1 r2 e k
  unfold inA at e
  cases e1 : inAO t1 t2 with
  | none => rw [e1] at e; cases e
  | some b =>
    rw [e1] at e
    cases e
    exact inAO_ok r1 r2 e1 (k _ H FE (Same.refl H) (.bl _) new_FE)
theorem notInA_ok : OpT Γ (rInA Γ.K true) notInA := by
  intro H x y t1 t2 t G1 G2 Q r1 r2 e k
  unfold notInA at e
  cases e1 : inAO t1 t2 with
  | none => rw [e1] at e; cases e
  | some b =>
    rw [e1] at e
    cases e
    exact inAO_ok r1 r2 e1 (k _ H FE (Same.refl H) (.bl _) new_FE)
def dput (ts : List T) (t : T) (w : Kd) (w' : Kd) : Option Nat → T
  | some j => .nd w (ts.set j t)
  | none => .nd w' (ts ++ [t])
def dputM (w : T) : MuF := fun u us => match u, us with
  | .nd (.dK ks) ts, [t] => (keyT w).bind fun k => if ts.length < 100000 ∧ ks.Nodup then some (dput ts t (.dK ks) (.dK (ks ++ [k])) (ixK k ks), .non) else none
  | .nd (.dT ks) ts, [t] => (match w with | .nd .tup us => keysT us | _ => none).bind fun k => if ts.length < 100000 ∧ ks.Nodup then some (dput ts t (.dT ks) (.dT (ks ++ [k])) (ixK k ks), .non) else none
  | _, _ => none
def rDPut (y : V) : V → List V → Hp → VK → Prop := fun x vs H Q => ∃ v a H4, vs = [v] ∧ x = .ref a ∧ DPut H a y v H4 ∧ Q .non H4
/-- a dict is written -/
theorem dput_core {κ : Type} [DecidableEq κ] {mk : List (κ × V) → HO} {kk : List κ → Kd} {ks : List κ} {k : κ} {H : Hp} {a : Addr} {ws : List V} {ts : List T} {Fs : Nat → FP} {G Gx G0 : FP} {y : V} {t : T} {Q : VK}
    (hmk : ∀ l, ¬ Im (mk l)) (hAt : ∀ (H : Hp) (ks : List κ) (ws : List V), ks.length = ws.length → H a = some (mk (ks.zip ws)) → At Γ H (kk ks) a ws) (hmu : ∀ ks, (kk ks).ow = true)
    (nd : ks.Nodup) (hl : ks.length = ws.length) (ha : H a = some (mk (ks.zip ws))) (hlw : ws.length = ts.length) (ga : G a) (na : ∀ i, ¬ Fs i a)
    (hc : ∀ (i : Nat) (v : V) (t : T), ws[i]? = some v → ts[i]? = some t → Rep Γ H v t (Fs i)) (hdd : ∀ i j a, i ≠ j → Fs i a → Fs j a → False) (hss : ∀ i a, Fs i a → G a)
    (ry : Rep Γ H y t G0) (h0 : ∀ a, G0 a → Gx a) (dj : ∀ a, G a → Gx a → False)
    (kq : ∀ v H' G' Gr, Ke H H' G → (∀ a, G' a ∨ Gr a → G a ∨ Gx a) → (∀ a, G' a → Gr a → False) → (∀ a, H a ≠ none → H' a ≠ none) → Rep Γ H' (.ref a) (dput ts t (kk ks) (kk (ks ++ [k])) (ixK k ks)) G' → Rep Γ H' v .non Gr → Q v H') : Q .non (upd H a (mk (putK (ks.zip ws) k y))) := by
  have dj1 : ∀ a, G a → G0 a → False := fun a g z => dj a g (h0 a z)
  cases ej : ixK k ks with
  | some j =>
    rw [ej] at kq
    have hj : j < ts.length := by have := ixK_lt ej; omega
    rw [putK_some nd hl ej]
    refine kq _ _ (fun x => x = a ∨ ∃ i, (fun m => if m = j then G0 else Fs m) i x) FE (ke_upd ha (hmk _) ga) (fun b z => ?_) (fun _ _ z => z) al_upd
      (node_upd ha (hmk _) (hAt _ _ _ (by rw [List.length_set]; exact hl) upd_same) (by rw [List.length_set, List.length_set]; exact hlw) (set_kids hc ry hj hlw) (set_dj hdd hss dj1) fun i z => ?_) .non
    · rcases z with (z | ⟨i, z⟩) | z
      · rw [z]; exact .inl ga
      · by_cases c1 : i = j
        · simp only [if_pos c1] at z; exact .inr (h0 b z)
        · simp only [if_neg c1] at z; exact .inl (hss i b z)
      · exact z.elim
    · by_cases c1 : i = j
      · simp only [if_pos c1] at z; exact dj1 a ga z
      · simp only [if_neg c1] at z; exact na i z
  | none =>
    rw [ej] at kq
    rw [putK_none hl ej]
    have kkk : ∀ (i : Nat) (v : V) (t' : T), (ws ++ [y])[i]? = some v → (ts ++ [t])[i]? = some t' → Rep Γ H v t' ((fun m => if m = ts.length then G0 else Fs m) i) := fun i v t' q1 q2 => by
      by_cases c1 : i < ts.length
      · simp only [if_neg (show ¬ i = ts.length by omega)]
        rw [List.getElem?_append_left (by omega)] at q1 q2
        exact hc i v t' q1 q2
      · have hj : i = ts.length := by
          have := (List.getElem?_eq_some_iff.mp q2).1
          simp at this
          omega
        subst hj
        simp only [if_true]
        simp at q2
        subst q2
        rw [← hlw] at q1
        simp at q1
        subst q1
        exact ry
    refine kq _ _ (fun x => x = a ∨ ∃ i, (fun m => if m = ts.length then G0 else Fs m) i x) FE (ke_upd ha (hmk _) ga) (fun b z => ?_) (fun _ _ z => z) al_upd
      (node_upd ha (hmk _) (hAt _ _ _ (by simp [hl]) upd_same) (by simp [hlw]) kkk (set_dj hdd hss dj1) fun i z => ?_) .non
    · rcases z with (z | ⟨i, z⟩) | z
      · rw [z]; exact .inl ga
      · by_cases c1 : i = ts.length
        · simp only [if_pos c1] at z; exact .inr (h0 b z)
        · simp only [if_neg c1] at z; exact .inl (hss i b z)
      · exact z.elim
    · by_cases c1 : i = ts.length
      · simp only [if_pos c1] at z; exact dj1 a ga z
      · simp only [if_neg c1] at z; exact na i z
theorem dputM_ok {w : T} {y : V} {Gw : FP} : ∀ (H : Hp) (x : V) (u : T) (us : List T) (u' res : T) (G Gx : FP) (Gs : Nat → FP) (vs : List V) (Q : VK), Rep Γ H y w Gw → Rep Γ H x u G → vs.length = us.length →
  (∀ (j : Nat) (v : V) (t : T), vs[j]? = some v → us[j]? = some t → Rep Γ H v t (Gs j)) → (∀ i j a, i ≠ j → Gs i a → Gs j a → False) → (∀ j a, Gs j a → Gx a) → (∀ a, G a → Gx a → False) → dputM w u us = some (u', res) →
  (∀ v H' G' Gr, Ke H H' G → (∀ a, G' a ∨ Gr a → G a ∨ Gx a) → (∀ a, G' a → Gr a → False) → (∀ a, H a ≠ none → H' a ≠ none) → Rep Γ H' x u' G' → Rep Γ H' v res Gr → Q v H') → rDPut y x vs H Q := by
  intro H x u us u' res G Gx Gs vs Q rk r hl hg hd hs dj e k
  unfold dputM at e
  split at e
  · rename_i ks ts t
    cases e1 : keyT w with
    | none => rw [e1] at e; cases e
    | some kk =>
      rw [e1] at e
      simp only [Option.bind_some] at e
      by_cases hz : ts.length < 100000 ∧ ks.Nodup
      · rw [if_pos hz] at e
        cases e
        cases r with
        | @nd _ _ a ws _ Fs hat hlw hm hc hdd hss =>
          obtain ⟨hln, ha⟩ : ks.length = ws.length ∧ H a = some (.dK (ks.zip ws)) := hat
          match vs, hl with
          | [v], _ =>
            have ry := hg 0 v _ rfl rfl
            refine ⟨v, a, upd H a (.dK (putK (ks.zip ws) kk v)), rfl, rfl, ?_, ?_⟩
            · rw [keyT_rep rk e1]
              exact DPut.k ha (sz5' (by rw [List.length_zip]; omega))
            · exact dput_core (mk := HO.dK) (kk := Kd.dK) (fun _ z => z) (fun _ _ _ h1 h2 => ⟨h1, h2⟩) (fun _ => rfl) hz.2 hln ha hlw (hm rfl).1 (hm rfl).2 hc hdd hss ry (hs 0) dj k
      · rw [if_neg hz] at e; cases e
  · rename_i ks ts t
    cases w with
    | nd kd us' =>
      cases kd with
      | tup =>
        simp only at e
        cases e1 : keysT us' with
        | none => rw [e1] at e; cases e
        | some kk =>
          rw [e1] at e
          simp only [Option.bind_some] at e
          by_cases hz : ts.length < 100000 ∧ ks.Nodup
          · rw [if_pos hz] at e
            cases e
            cases r with
            | @nd _ _ a ws _ Fs hat hlw hm hc hdd hss =>
              obtain ⟨hln, ha⟩ : ks.length = ws.length ∧ H a = some (.dT (ks.zip ws)) := hat
              obtain ⟨b, ys, rfl, hb, hlb, hcb⟩ := rk.tupAt
              rw [keysT_rep hlb hcb e1] at hb
              match vs, hl with
              | [v], _ =>
                have ry := hg 0 v _ rfl rfl
                refine ⟨v, a, upd H a (.dT (putK (ks.zip ws) kk v)), rfl, rfl, ?_, ?_⟩
                · exact DPut.t ha hb (sz5' (by rw [List.length_zip]; omega))
                · exact dput_core (mk := HO.dT) (kk := Kd.dT) (fun _ z => z) (fun _ _ _ h1 h2 => ⟨h1, h2⟩) (fun _ => rfl) hz.2 hln ha hlw (hm rfl).1 (hm rfl).2 hc hdd hss ry (hs 0) dj k
          · rw [if_neg hz] at e; cases e
      | _ => cases e
    | _ => cases e
  · cases e
end
end VT
namespace VT
open PySem PySem.Spec PyProof.Rows L2
section
variable {Γ : Gx} {ar : Fx} {W : WX} {X : Cx} {a b e o : Expr} {pos : Pos} {ga gb gc g : BF} {fa fb : EF} {pl : PF}
def rSetD : V → V → V → Hp → (Hp → Prop) → Prop := fun o i v H Q => ∃ a H4, o = .ref a ∧ DPut H a i v H4 ∧ Q H4
theorem set_dict (hu : X.A.units + 1 < cLine) : PSet X rSetD := by
  intro pins s σ H o i v ov iv u Q I ro ri rv h
  obtain ⟨a, H4, rfl, g, q⟩ := h
  obtain rfl : ov = Value.ref a := ro
  exact d_setItem hu I g ri rv fun s4 I4 => ⟨H4, I4, q⟩
def rSetA : V → V → V → Hp → (Hp → Prop) → Prop := fun o i v H Q => rSetL o i v H Q ∨ rSetD o i v H Q
theorem set_any (hu : X.A.units + 1 < cLine) : PSet X rSetA := by
  intro pins s σ H o i v ov iv u Q I ro ri rv h
  rcases h with h | h
  · exact set_list pins s σ H o i v ov iv u Q I ro ri rv h
  · exact set_dict hu pins s σ H o i v ov iv u Q I ro ri rv h
def setA (w : T) : MuF := fun u us => if isDi u = true then dputM w u us else match w with
  | .int k => setM k u us
  | _ => none
def rSetK (Γ : Gx) (y : V) (w : T) : V → List V → Hp → VK → Prop := fun x vs H Q => (∃ G, Rep Γ H y w G) → ∃ v, vs = [v] ∧ rSetA x y v H fun H3 => Q .non H3
theorem setA_ok {w : T} {y : V} : MutT Γ (rSetK Γ y w) (setA w) := by
  intro H x u us u' res G Gx Gs vs Q r hl hg hd hs dj e k ⟨Gw, rk⟩
  unfold setA at e
  by_cases h : isDi u = true
  · rw [if_pos h] at e
    obtain ⟨v, a, H4, ev, rfl, p, q⟩ := dputM_ok H x u us u' res G Gx Gs vs Q rk r hl hg hd hs dj e k
    exact ⟨v, ev, .inr ⟨a, H4, rfl, p, q⟩⟩
  · rw [if_neg h] at e
    split at e
    · cases rk
      obtain ⟨v, ev, q⟩ := setM_ok H x u us u' res G Gx Gs vs Q r hl hg hd hs dj e k
      exact ⟨v, ev, .inl q⟩
    · cases e
def sSetA (pl : PF) (g : BF) (f : EF) : SF := fun S => (f S).bind fun rx => match rx with
  | (.ex c, S1) => some (.ex c, S1)
  | (.ok t, S1) => (pl S1).bind fun ip => (sl S1 ip.1).bind fun t0 => (tAt ip.2 t0).bind fun u => (g S1).bind fun w => (setA w u [t]).bind fun ur => some (.nx, S1.set ip.1 (some (tPut ip.2 t0 ur.1)))
theorem s_setA {i : Expr} {pos' : Pos} (hu : X.A.units + 1 < cLine) (ho : PE X o (rdP Γ ar pl)) (hi : PE X i (rdB Γ ar g)) (hv : PE X e (rdE Γ ar W fa))
    (hs : swapsWithSole [.Subscript o i pos'] e pos.line X.env = pure false := by rfl) (hw : swappedStores [.Subscript o i pos'] e X.env = pure none := by rfl) (h1 : (assignEach [.Subscript o i pos'] X.env).map (·.2) = [assign (.Subscript o i pos') X.env] := by rfl)
    (hasg : ∀ v, assign (.Subscript o i pos') X.env v = (do let ov ← holding [v] (eval o X.env); let iv ← holding [v, ov] (eval i X.env); standAt pos'; holding [v, ov, iv] (setItem ov iv v); release [v, ov, iv] []) := by intro _; rfl) :
    PS X (.Assign [.Subscript o i pos'] e pos) (rdS Γ ar W (sSetA pl g fa)) := by
  refine PS.imp (ps_asg hv (pg_sub ho hi (set_any hu) hasg) hs hw h1) fun D σ H q => ?_
  obtain ⟨S, F, fl, S', R, ee, kk⟩ := q
  unfold sSetA at ee
  cases q0 : fa S with
  | none => rw [q0] at ee; cases ee
  | some o1 =>
    obtain ⟨r1, S1⟩ := o1
    rw [q0] at ee
    simp only [Option.bind_some] at ee
    cases r1 with
    | ex c => cases ee; exact ⟨S, F, _, _, R, q0, fun H' F' R' u => kk σ H' F' R' u⟩
    | ok t =>
      simp only at ee
      cases q1 : pl S1 with
      | none => rw [q1] at ee; cases ee
      | some ip =>
        obtain ⟨i, p⟩ := ip
        rw [q1] at ee
        simp only [Option.bind_some] at ee
        cases q2 : sl S1 i with
        | none => rw [q2] at ee; cases ee
        | some t0 =>
          rw [q2] at ee
          simp only [Option.bind_some] at ee
          cases q3 : tAt p t0 with
          | none => rw [q3] at ee; cases ee
          | some u =>
            rw [q3] at ee
            simp only [Option.bind_some] at ee
            cases q5 : g S1 with
            | none => rw [q5] at ee; cases ee
            | some w =>
              rw [q5] at ee
              simp only [Option.bind_some] at ee
              cases q4 : setA w u [t] with
              | none => rw [q4] at ee; cases ee
              | some ur =>
                obtain ⟨u', res⟩ := ur
                rw [q4] at ee
                cases ee
                refine ⟨S, F, _, _, R, q0, fun y H1 F1 G1 o1 => ⟨S1, F1, i, p, t0, u, o1.rs, q1, q2, q3, fun v0 v H2 h1 h2 s => ?_⟩⟩
                refine ⟨S1, F1, _, (o1.same s).rs, q5, fun iv H3 G3 s3 r3 => ?_⟩
                have s23 := s.trans s3
                have o2 := o1.same s23
                have A : ArgsP Γ H3 σ [y] [.val t] (FU G1 FE) := argsP_nil.val o2.r fun _ _ z => z
                have fin := mut_core (Q := fun _ H' => D.nx σ H') (setA_ok (w := w) (y := iv)) o2.rs A rfl (fun a f g => g.elim (o2.d a f) fun z => z) (fun a g => g.elim (o2.al a) fun z => z.elim) q2 q3 q4 h1 (vAt_same s23 h2) fun w H' F' G R' rw' d al u2 => kk σ H' F' R' ((o2.u.sub fun a z => z.elim .inl fun z => z.elim .inr fun z => z.elim).trans (u2.sub fun a z => .inl z))
                obtain ⟨y', ey, q⟩ := fin ⟨_, r3⟩
                cases ey
                exact q
end
end VT
namespace VT
open PySem PySem.Spec PyProof.Rows L2
section
variable {Γ : Gx} {ar : Fx} {W : WX} {X : Cx} {a b e o : Expr} {pos : Pos} {ga gb gc g : BF} {fa fb : EF} {pl : PF}
def OpB (Γ : Gx) (r : R2) (f : T → T → Option T) : Prop := ∀ (H : Hp) (x y : V) (t1 t2 t : T) (G1 G2 : FP) (Q : VK), Rep Γ H x t1 G1 → Rep Γ H y t2 G2 → f t1 t2 = some t →
  (∀ v H' G, Same H H' → Rep Γ H' v t G → Q v H') → r x y H Q
theorem tOp_bb {r : R2} {f : T → T → Option T} (h : OpB Γ r f) (σ : L2.St) (H : Hp) (Q : VK) (q : rdB Γ ar (bOp f ga gb) σ H Q) : tOp r (rdB Γ ar ga) (rdB Γ ar gb) σ H Q := by
  obtain ⟨S, F, t, R, e, k⟩ := q
  unfold bOp at e
  cases e1 : ga S with
  | none => rw [e1] at e; cases e
  | some t1 =>
    rw [e1] at e
    simp only [Option.bind_some] at e
    cases e2 : gb S with
    | none => rw [e2] at e; cases e
    | some t2 =>
      rw [e2] at e
      refine ⟨S, F, t1, R, e1, fun x H1 G1 s1 r1 => ⟨S, F, t2, R.same s1, e2, fun y H2 G2 s2 r2 => ?_⟩⟩
      exact h H2 x y t1 t2 t G1 G2 Q (r1.same s2) r2 e fun v H3 G s3 r3 => k v H3 G ((s1.trans s2).trans s3) r3
def ixB (u w : T) : Option T := match u, w with
  | .nd .lst ts, .int i => atI ts i
  | .nd .fz ts, .int i => atI ts i
  | .nd .tup ts, .int i => atI ts i
  | .str z, .int i => if z.length ≤ 100000 then (atI z.cps.toList i).bind fun c => some (.str ⟨#[c]⟩) else none
  | u, w => (dix u w).bind fun o => o.bind fun j => u.kd[j]?
theorem ixB_ok : OpB Γ (rIxA Γ.K) ixB := by
  intro H x y t1 t2 t G1 G2 Q r1 r2 e k
  unfold ixB at e
  split at e
  · obtain ⟨a, vs, rfl, hq, hl, hc⟩ := r1.list (.inl rfl)
    cases r2
    obtain ⟨v, j, q1, q2, q3⟩ := atI_map hl e
    exact .inl (.inl ⟨a, vs, _, v, rfl, rfl, hq, q1, k v H _ (Same.refl H) (hc j v t q2 q3)⟩)
  · obtain ⟨a, vs, rfl, hq, hl, hc⟩ := r1.list (.inr rfl)
    cases r2
    obtain ⟨v, j, q1, q2, q3⟩ := atI_map hl e
    exact .inl (.inl ⟨a, vs, _, v, rfl, rfl, hq, q1, k v H _ (Same.refl H) (hc j v t q2 q3)⟩)
  · obtain ⟨a, vs, rfl, hq, hl, hc⟩ := r1.tupl
    cases r2
    obtain ⟨v, j, q1, q2, q3⟩ := atI_map hl e
    exact .inl (.inr (.inl ⟨a, vs, _, v, rfl, rfl, hq, q1, k v H _ (Same.refl H) (hc j v t q2 q3)⟩))
  · rename_i z i
    by_cases hz : z.length ≤ 100000
    · rw [if_pos hz] at e
      cases e1 : atI z.cps.toList i with
      | none => rw [e1] at e; cases e
      | some c =>
        rw [e1] at e
        cases e
        cases r1
        cases r2
        exact .inl (.inr (.inr ⟨z, i, c, rfl, rfl, sz5 hz, e1, k _ H FE (Same.refl H) (.str _)⟩))
    · rw [if_neg hz] at e; cases e
  · cases e1 : dix t1 t2 with
    | none => rw [e1] at e; cases e
    | some o =>
      rw [e1] at e
      simp only [Option.bind_some] at e
      cases o with
      | none => cases e
      | some j =>
        simp only [Option.bind_some] at e
        obtain ⟨a, vs, rfl, hl, _, g, hj, hc⟩ := dix_get r1 r2 e1
        have hj' := hj j rfl
        have ev : vs[j]? = some (vs[j]'(by omega)) := List.getElem?_eq_getElem (by omega)
        refine .inr ⟨a, _, rfl, ?_, k _ H _ (Same.refl H) (hc j _ t ev e)⟩
        rw [← ev]
        exact g
theorem b_ix (hu : X.A.units + 1 < cLine) (ha : PE X a (rdB Γ ar ga)) (hb : PE X b (rdB Γ ar gb)) (hs : PlainIx b) (hK : X.K = Γ.K := by rfl) : PE X (.Subscript a b pos) (rdB Γ ar (bOp ixB ga gb)) := PE.imp (pe_ix (hK ▸ ix_any hu) ha hb hs) (tOp_bb ixB_ok)
end
section
variable {ts us : List T} {t u w x y : T} {i : Int} {S : TSt} {ks : List Key} {kt : List (List Key)} {pl : PF} {g ga gb gc : BF} {fa : EF} {n : Nat} {p : List Nat} {k : Kd}
theorem ixA_lst : ixA (.nd .lst ts) w = ixT (.nd .lst ts) w := rfl
theorem ixA_fz : ixA (.nd .fz ts) w = ixT (.nd .fz ts) w := rfl
theorem ixA_tup : ixA (.nd .tup ts) w = ixT (.nd .tup ts) w := rfl
theorem ixA_str {z : Str} : ixA (.str z) w = ixT (.str z) w := rfl
theorem ixB_lst : ixB (.nd .lst ts) (.int i) = atI ts i := rfl
theorem ixB_fz : ixB (.nd .fz ts) (.int i) = atI ts i := rfl
theorem ixB_tup : ixB (.nd .tup ts) (.int i) = atI ts i := rfl
def kDo (u : T) (o : Option Nat) : Option T := o.bind fun j => u.kd[j]?
theorem ixB_dK : ixB (.nd (.dK ks) ts) w = (dix (.nd (.dK ks) ts) w).bind (kDo (.nd (.dK ks) ts)) := by cases w <;> rfl
theorem ixB_dT : ixB (.nd (.dT kt) ts) w = (dix (.nd (.dT kt) ts) w).bind (kDo (.nd (.dT kt) ts)) := by cases w <;> rfl
theorem kDo_s : kDo (.nd k ts) (some n) = ts[n]? := rfl
theorem dix_Ki : dix (.nd (.dK ks) ts) (.int i) = some (ixK (.inl i) ks) := rfl
theorem dix_Ks {z : Str} : dix (.nd (.dK ks) ts) (.str z) = some (ixK (.inr z) ks) := rfl
def kDt (kt : List (List Key)) (k : List Key) : Option (Option Nat) := some (ixK k kt)
theorem dix_T : dix (.nd (.dT kt) ts) (.nd .tup us) = (keysT us).bind (kDt kt) := rfl
theorem kDt_q {q : List Key} : kDt kt q = some (ixK q kt) := rfl
theorem keysT_n : keysT [] = some [] := rfl
def kKc (k : Key) (ks : List Key) : Option (List Key) := some (k :: ks)
theorem keysT_i : keysT (.int i :: us) = (keysT us).bind (kKc (.inl i)) := rfl
theorem keysT_s {z : Str} : keysT (.str z :: us) = (keysT us).bind (kKc (.inr z)) := rfl
theorem kKc_q {q : Key} : kKc q ks = some (q :: ks) := rfl
theorem isDi_K : isDi (.nd (.dK ks) ts) = true := rfl
theorem isDi_T : isDi (.nd (.dT kt) ts) = true := rfl
theorem isDi_l : isDi (.nd .lst ts) = false := rfl
theorem ixB_fK : ixB (.nd (.fK ks) ts) w = (dix (.nd (.fK ks) ts) w).bind (kDo (.nd (.fK ks) ts)) := by cases w <;> rfl
theorem dix_Fi : dix (.nd (.fK ks) ts) (.int i) = some (ixK (.inl i) ks) := rfl
theorem dix_Fs {z : Str} : dix (.nd (.fK ks) ts) (.str z) = some (ixK (.inr z) ks) := rfl
theorem mu_fK : (Kd.fK ks).mu = true := rfl
theorem im_fK : (T.nd (.fK ks) ts).im = T.imAll ts := by simp [T.im]
theorem im_any : (T.nd .any ts).im = T.imAll ts := by simp [T.im]
def kSA4 (S : TSt) (i : Nat) (p : List Nat) (t0 : T) (ur : T × T) : Option (Fl × TSt) := some (.nx, S.set i (some (tPut p t0 ur.1)))
def kSA3 (t : T) (S : TSt) (i : Nat) (p : List Nat) (t0 u w : T) : Option (Fl × TSt) := (setA w u [t]).bind (kSA4 S i p t0)
def kSA2 (g : BF) (t : T) (S : TSt) (i : Nat) (p : List Nat) (t0 u : T) : Option (Fl × TSt) := (g S).bind (kSA3 t S i p t0 u)
def kSA1 (g : BF) (t : T) (S : TSt) (i : Nat) (p : List Nat) (t0 : T) : Option (Fl × TSt) := (tAt p t0).bind (kSA2 g t S i p t0)
def kSA0 (g : BF) (t : T) (S : TSt) (ip : Nat × List Nat) : Option (Fl × TSt) := (sl S ip.1).bind (kSA1 g t S ip.1 ip.2)
def kSA (pl : PF) (g : BF) : Rs T × TSt → Option (Fl × TSt)
  | (.ex c, S1) => some (.ex c, S1)
  | (.ok t, S1) => (pl S1).bind (kSA0 g t S1)
theorem sSetA_q : sSetA pl g fa S = (fa S).bind (kSA pl g) := by
  unfold sSetA
  cases fa S with
  | none => rfl
  | some r =>
    obtain ⟨r, S1⟩ := r
    cases r with
    | ex c => rfl
    | ok t => rfl
theorem kSA_ok : kSA pl g (.ok t, S) = (pl S).bind (kSA0 g t S) := rfl
theorem kSA_ex {c : Nat} : kSA pl g (.ex c, S) = some (.ex c, S) := rfl
theorem kSA0_q : kSA0 g t S (n, p) = (sl S n).bind (kSA1 g t S n p) := rfl
theorem kSA1_q : kSA1 g t S n p u = (tAt p u).bind (kSA2 g t S n p u) := rfl
theorem kSA2_q : kSA2 g t S n p u w = (g S).bind (kSA3 t S n p u w) := rfl
theorem kSA3_q : kSA3 t S n p u w x = (setA x w [t]).bind (kSA4 S n p u) := rfl
theorem kSA4_q : kSA4 S n p u (x, y) = some (.nx, S.set n (some (tPut p u x))) := rfl
theorem setA_l : setA (.int i) (.nd .lst ts) [t] = setM i (.nd .lst ts) [t] := rfl
theorem setA_Ki : setA (.int i) (.nd (.dK ks) ts) [t] = if ts.length < 100000 ∧ ks.Nodup then some (dput ts t (.dK ks) (.dK (ks ++ [.inl i])) (ixK (.inl i) ks), .non) else none := rfl
theorem setA_Ks {z : Str} : setA (.str z) (.nd (.dK ks) ts) [t] = if ts.length < 100000 ∧ ks.Nodup then some (dput ts t (.dK ks) (.dK (ks ++ [.inr z])) (ixK (.inr z) ks), .non) else none := rfl
def kSt (kt : List (List Key)) (ts : List T) (t : T) (k : List Key) : Option (T × T) := if ts.length < 100000 ∧ kt.Nodup then some (dput ts t (.dT kt) (.dT (kt ++ [k])) (ixK k kt), .non) else none
theorem setA_T : setA (.nd .tup us) (.nd (.dT kt) ts) [t] = (keysT us).bind (kSt kt ts t) := rfl
theorem kSt_q {q : List Key} : kSt kt ts t q = if ts.length < 100000 ∧ kt.Nodup then some (dput ts t (.dT kt) (.dT (kt ++ [q])) (ixK q kt), .non) else none := rfl
theorem mu_dK : (Kd.dK ks).mu = true := rfl
theorem mu_dT : (Kd.dT kt).mu = true := rfl
theorem im_dK : (T.nd (.dK ks) ts).im = false := by simp [T.im]
theorem im_dT : (T.nd (.dT kt) ts).im = false := by simp [T.im]
theorem inA_l : inA t (.nd .lst ts) = inT t (.nd .lst ts) := rfl
theorem inA_t : inA t (.nd .tup ts) = inT t (.nd .tup ts) := rfl
theorem inA_f : inA t (.nd .fz ts) = inT t (.nd .fz ts) := rfl
theorem notInA_l : notInA t (.nd .lst ts) = notInT t (.nd .lst ts) := rfl
theorem notInA_t : notInA t (.nd .tup ts) = notInT t (.nd .tup ts) := rfl
theorem notInA_f : notInA t (.nd .fz ts) = notInT t (.nd .fz ts) := rfl
theorem negT_i : negT (.int i) = some (.int (-i)) := rfl
end
end VT
namespace VT
open PySem PySem.Spec PyProof.Rows L2
section
variable {Γ : Gx} {ar : Fx} {W : WX} {X : Cx} {a b c e o : Expr} {pos : Pos} {ga gb gc g : BF} {fa fb : EF} {pl : PF} {σ : L2.St} {H : Hp}
def rdTB (Γ : Gx) (ar : Fx) (g : BF) : TT := fun σ H Q => rdB Γ ar g σ H fun x H' => ∃ k, x = .bl k ∧ Q k H'
theorem rdN_b {Q : VK} (q : rdB Γ ar g σ H Q) : rdN Γ ar g σ H Q := by
  obtain ⟨S, F, t, R, e, k⟩ := q
  exact ⟨S, F, t, R, e, fun v H' G s r _ => k v H' G s r⟩
theorem tb_cmp {op : CmpOp} {r : R2} {f : T → T → Option T} (ho : OpR X (compareOp op) r) (hf : OpT Γ r f) (ha : PE X a (rdB Γ ar ga)) (hb : PE X b (rdB Γ ar gb)) (hm : behindInMarks op b = false) : PT X (.Compare a [op] [b] pos) (rdTB Γ ar (bOp f ga gb)) :=
  PT.imp (pt_cmpR ho ha hb hm) fun σ H Q q => tOp_b hf σ H _ (rdN_b q)
def bNot (ga : BF) : BF := fun S => (ga S).bind fun x => match x with
  | .bl b => some (.bl (!b))
  | _ => none
def bAnd (ga gb : BF) : BF := fun S => (ga S).bind fun x => match x with
  | .bl true => gb S
  | .bl false => some (.bl false)
  | _ => none
theorem boolB {S : TSt} {F : FP} {k : Bool} {P : Bool → Hp → Prop} (R : RepS Γ ar H σ S F) (e1 : ga S = some (.bl k)) (h : ∀ H1, Same H H1 → P k H1) : rdB Γ ar ga σ H fun x H1 => ∃ c, x = .bl c ∧ P c H1 := by
  refine ⟨S, F, .bl k, R, e1, fun v H1 G s r => ?_⟩
  cases r
  exact ⟨k, rfl, h H1 s⟩
theorem rdB_after {S : TSt} {F : FP} {H1 : Hp} {t : T} {Q : VK} (R : RepS Γ ar H σ S F) (s : Same H H1) (e : gb S = some t) (k : ∀ v H' G, Same H H' → Rep Γ H' v t G → Q v H') : rdB Γ ar gb σ H1 Q :=
  ⟨S, F, t, R.same s, e, fun v H' G s' r => k v H' G (s.trans s') r⟩
theorem bNot_ok {Q : VK} (q : rdB Γ ar (bNot ga) σ H Q) : rdB Γ ar ga σ H fun x H1 => ∃ c, x = .bl c ∧ Q (.bl (!c)) H1 := by
  obtain ⟨S, F, t, R, e, k⟩ := q
  unfold bNot at e
  cases e1 : ga S with
  | none => rw [e1] at e; cases e
  | some x =>
    rw [e1] at e
    simp only [Option.bind_some] at e
    split at e
    · cases e
      exact boolB R e1 fun H1 s => k _ H1 FE s (.bl _)
    · cases e
theorem bAnd_ok {Q : VK} (q : rdB Γ ar (bAnd ga gb) σ H Q) : rdB Γ ar ga σ H fun x H1 => ∃ c, x = .bl c ∧ if c = true then rdB Γ ar gb σ H1 Q else Q (.bl false) H1 := by
  obtain ⟨S, F, t, R, e, k⟩ := q
  unfold bAnd at e
  cases e1 : ga S with
  | none => rw [e1] at e; cases e
  | some x =>
    rw [e1] at e
    simp only [Option.bind_some] at e
    split at e
    · exact boolB R e1 fun H1 s => iteT (rdB_after R s e k)
    · cases e
      exact boolB R e1 fun H1 s => iteF (k _ H1 FE s (.bl _))
    · cases e
theorem b_not (ha : PE X a (rdB Γ ar ga)) : PE X (.UnaryOp .Not a pos) (rdB Γ ar (bNot ga)) := PE.imp (pe_not ha) fun _ _ _ q => bNot_ok q
theorem b_and {rest : List Expr} (ha : PE X a (rdB Γ ar ga)) (hb : PE X (.BoolOp .And (b :: rest) pos) (rdB Γ ar gb)) : PE X (.BoolOp .And (a :: b :: rest) pos) (rdB Γ ar (bAnd ga gb)) := PE.imp (pe_and ha hb) fun _ _ _ q => bAnd_ok q
theorem rdB_mono {Q Q' : VK} (q : rdB Γ ar ga σ H Q) (k : ∀ v H', Q v H' → Q' v H') : rdB Γ ar ga σ H Q' := by
  obtain ⟨S, F, t, R, e, h⟩ := q
  exact ⟨S, F, t, R, e, fun v H' G s r => k v H' (h v H' G s r)⟩
theorem wb_and {rest : List Expr} (ha : PT X a (rdTB Γ ar ga)) (hb : PW X (.BoolOp .And (b :: rest) pos) (rdTB Γ ar gb)) : PW X (.BoolOp .And (a :: b :: rest) pos) (rdTB Γ ar (bAnd ga gb)) := VT.PW.imp (pw_and ha hb) fun σ H Q q => by
  refine rdB_mono (bAnd_ok q) fun v H' ⟨c, ev, h⟩ => ⟨c, ev, ?_⟩
  cases c with
  | true => exact h
  | false =>
    obtain ⟨k, ek, hk⟩ : ∃ k, V.bl false = V.bl k ∧ Q k H' := h
    cases ek
    exact hk
theorem wb_one_and (ha : PT X a (rdTB Γ ar ga)) : PW X (.BoolOp .And [a] pos) (rdTB Γ ar ga) := VT.PW.imp (pw_and1 ha) fun _ _ _ q => q
end
end VT
namespace VT
open PySem PySem.Spec PyProof.Rows L2
section
variable {Γ : Gx} {ar : Fx} {W : WX} {X : Cx} {a b c e o : Expr} {pos : Pos} {ga gb gc g : BF} {fa fb : EF} {pl : PF} {σ : L2.St} {H : Hp}
/-- a target of a comprehension whose names are vs -/
def TgW (Γ : Gx) (ar : Fx) (vs : List Nat) (g : TG) (tf : GF) : Prop := ∀ (H : Hp) (σ0 : L2.St) (S : TSt) (F G : FP) (v : V) (t : T) (S1 : TSt) (Q : L2.St → Hp → Prop), RepS Γ ar H (wipe σ0 vs) S F → Rep Γ H v t G → tf t S = some S1 →
  (∀ σ1, RepS Γ ar H σ1 S1 F → wipe σ1 vs = wipe σ0 vs → Q σ1 H) → g v (wipe σ0 vs) H Q
theorem tgwN {vs : List Nat} {j : Nat} (hj : j ∈ vs) (har : ar j = none) : TgW Γ ar vs (gName j) (tgN j) := by
  intro H σ0 S F G v t S1 Q R r e k
  unfold tgN at e
  by_cases im : t.im = true
  · rw [if_pos im] at e
    cases e
    exact k _ (R.putIm har r im) (wipe_set hj)
  · rw [if_neg im] at e; cases e
/-- what is made so far, at Dl -/
structure AccN (Γ : Gx) (H0 : Hp) (Dl : Addr) (H : Hp) (tacc : List T) (Ga : FP) : Prop where
  sm : Same H0 H
  at_ : ∃ acc : List V, H Dl = some (.lst acc) ∧ acc.length = tacc.length ∧ ∃ Gs : Nat → FP, (∀ (i : Nat) (v : V) (t : T), acc[i]? = some v → tacc[i]? = some t → Rep Γ H v t (Gs i)) ∧ (∀ i j a, i ≠ j → Gs i a → Gs j a → False) ∧ ∀ i a, Gs i a → Ga a
  nw : ∀ a, Ga a → H0 a = none ∧ H a ≠ none ∧ a ≠ Dl
theorem accN_start {Dl : Addr} (hD : H Dl = none) : AccN Γ H Dl (upd H Dl (.lst [])) [] FE :=
  ⟨fun b o e => by rw [upd_ne (ne_of_none e hD)]; exact e, ⟨[], upd_same, rfl, fun _ => FE, fun i v t e => by simp at e, fun _ _ _ _ z => z.elim, fun _ _ z => z⟩, fun _ z => z.elim⟩
theorem AccN.step {H0 H' : Hp} {Dl : Addr} {tacc : List T} {Ga : FP} (A : AccN Γ H0 Dl H tacc Ga) (s : Same H H') : AccN Γ H0 Dl H' tacc Ga := by
  obtain ⟨sm, ⟨acc, h1, h2, Gs, h3, h4, h5⟩, nw⟩ := A
  exact ⟨sm.trans s, ⟨acc, s _ _ h1, h2, Gs, fun i v t e1 e2 => (h3 i v t e1 e2).same s, h4, h5⟩, fun a z => ⟨(nw a z).1, same_al s (nw a z).2.1, (nw a z).2.2⟩⟩
theorem AccN.add {H0 H' : Hp} {Dl : Addr} {tacc : List T} {Ga G : FP} {v : V} {t : T} (hD : H0 Dl = none) (A : AccN Γ H0 Dl H tacc Ga) (s : Same H H') (r : Rep Γ H' v t G) (n : New H H' G) :
    ∃ acc, H' Dl = some (.lst acc) ∧ acc.length = tacc.length ∧ AccN Γ H0 Dl (upd H' Dl (.lst (acc ++ [v]))) (tacc ++ [t]) (FU Ga G) := by
  have A1 := A.step s
  obtain ⟨sm0, ⟨acc0, k1, _⟩, nw0⟩ := A
  obtain ⟨sm, ⟨acc, h1, h2, Gs, h3, h4, h5⟩, nw⟩ := A1
  have nGD : ∀ a, G a → a ≠ Dl := fun a ga z => by have := n.1 a ga; rw [z, k1] at this; cases this
  have fr : ∀ {w : V} {u : T} {F : FP}, Rep Γ H' w u F → (∀ a, F a → a ≠ Dl) → Rep Γ (upd H' Dl (.lst (acc ++ [v]))) w u F := fun {w u F} rr hF => by
    refine rr.frame (fun b o f q => by rw [upd_ne (hF b f)]; exact q) fun b o im q => ?_
    have : b ≠ Dl := fun z => by rw [z, h1] at q; cases q; exact im
    rw [upd_ne this]; exact q
  have dGa : ∀ a, Ga a → G a → False := fun a z z' => (nw0 a z).2.1 (n.1 a z')
  refine ⟨acc, h1, h2, ⟨fun b o e => ?_, ⟨acc ++ [v], upd_same, by simp [h2], fun i => if i < tacc.length then Gs i else if i = tacc.length then G else FE, fun i w u e1 e2 => ?_, fun i j b ne z z' => ?_, fun i b z => ?_⟩, fun b z => ?_⟩⟩
  · rw [upd_ne (ne_of_none e hD)]; exact sm b o e
  · by_cases c1 : i < tacc.length
    · simp only [if_pos c1]
      rw [List.getElem?_append_left (by omega)] at e1 e2
      exact fr (h3 i w u e1 e2) fun a z => (nw a (h5 i a z)).2.2
    · have hj : i = tacc.length := by
        have := (List.getElem?_eq_some_iff.mp e2).1
        simp at this
        omega
      subst hj
      simp only [if_neg c1, if_true]
      simp at e2
      subst e2
      rw [← h2] at e1
      simp at e1
      subst e1
      exact fr r nGD
  · by_cases c1 : i < tacc.length
    · simp only [if_pos c1] at z
      by_cases c2 : j < tacc.length
      · simp only [if_pos c2] at z'; exact h4 i j b ne z z'
      · simp only [if_neg c2] at z'
        by_cases c3 : j = tacc.length
        · simp only [if_pos c3] at z'; exact dGa b (h5 i b z) z'
        · simp only [if_neg c3] at z'; exact z'
    · simp only [if_neg c1] at z
      by_cases c3 : i = tacc.length
      · simp only [if_pos c3] at z
        by_cases c2 : j < tacc.length
        · simp only [if_pos c2] at z'; exact dGa b (h5 j b z') z
        · simp only [if_neg c2, if_neg (show ¬ j = tacc.length by omega)] at z'; exact z'
      · simp only [if_neg c3] at z; exact z
  · by_cases c1 : i < tacc.length
    · simp only [if_pos c1] at z; exact .inl (h5 i b z)
    · simp only [if_neg c1] at z
      by_cases c3 : i = tacc.length
      · simp only [if_pos c3] at z; exact .inr z
      · simp only [if_neg c3] at z; exact z.elim
  · rcases z with z | z
    · exact ⟨(nw b z).1, al_upd b (nw b z).2.1, (nw b z).2.2⟩
    · refine ⟨?_, al_upd b (n.2 b z), nGD b z⟩
      cases q : H0 b with
      | none => rfl
      | some o =>
        have := n.1 b z
        have h := sm0 b o q
        rw [this] at h
        cases h
theorem AccN.done {H0 : Hp} {Dl : Addr} {tacc : List T} {Ga : FP} (hD : H0 Dl = none) (A : AccN Γ H0 Dl H tacc Ga) : Same H0 H ∧ Rep Γ H (.ref Dl) (.nd .lst tacc) (FU Ga (fun a => a = Dl)) ∧ New H0 H (FU Ga (fun a => a = Dl)) := by
  obtain ⟨sm, ⟨acc, h1, h2, Gs, h3, h4, h5⟩, nw⟩ := A
  refine ⟨sm, .nd (Fs := Gs) h1 h2 (fun _ => ⟨.inr rfl, fun i z => (nw Dl (h5 i Dl z)).2.2 rfl⟩) h3 h4 fun i b z => .inl (h5 i b z), fun b z => z.elim (fun z => (nw b z).1) fun z => by rw [z]; exact hD, fun b z => z.elim (fun z => (nw b z).2.1) fun z => by rw [z, h1]; exact fun y => nomatch y⟩
def runN (tf : GF) (cond elt : BF) : List T → TSt → Option (List T)
  | [], _ => some []
  | t :: ts, S => (tf t S).bind fun S1 => (cond S1).bind fun c => match c with
    | .bl true => (elt S1).bind fun u => (runN tf cond elt ts S).bind fun us => some (u :: us)
    | .bl false => runN tf cond elt ts S
    | _ => none
def rdTBX (Γ : Gx) (C : Fx → Prop) (f : BF) : TT := fun σ H Q => ∃ ar', C ar' ∧ rdTB Γ ar' f σ H Q
def rdNX (Γ : Gx) (C : Fx → Prop) (f : BF) : TE := fun σ H Q => ∃ ar', C ar' ∧ rdN Γ ar' f σ H Q
theorem en_all {C : Fx → Prop} {f : BF} (h : ∀ ar', C ar' → PE X e (rdN Γ ar' f)) : PE X e (rdNX Γ C f) := ⟨fun pins s σ H Q I ⟨ar', c, q⟩ => (h ar' c).run pins s σ H Q I q⟩
theorem tb_one {C : Fx → Prop} {f : BF} {c : Expr} (h : ∀ ar', C ar' → PT X c (rdTB Γ ar' f)) : PTs X [c] (rdTBX Γ C f) := pts_one ⟨fun pins s σ H Q I ⟨ar', c, q⟩ => (h ar' c).run pins s σ H Q I q⟩
def bYes : BF := fun _ => some (.bl true)
theorem tb_nil {C : Fx → Prop} : PTs X [] (rdTBX Γ C bYes) := ⟨fun pins s σ H Q I ⟨ar', c, q⟩ => pts_nil.run pins s σ H Q I (by
  obtain ⟨S, F, t, R, e, k⟩ := q
  cases e
  obtain ⟨b, eb, hb⟩ := k (.bl true) H FE (Same.refl H) (.bl true)
  cases eb
  exact hb)⟩
/-- one turn -/
theorem turnN {vs : List Nat} {tf : GF} {tg : TG} {cond elt : BF} {C : Fx → Prop} (tk : TgW Γ (freeAt ar vs) vs tg tf) (hC : C (freeAt ar vs)) {H0 : Hp} {F : FP} {σ : L2.St} {Dl : Addr} {S : TSt} {tacc : List T} {Ga G : FP} {x : V} {t : T} {ts : List T} {fin : List T} (hD : H0 Dl = none)
    (R : RepS Γ (freeAt ar vs) H0 (wipe σ vs) S F) (A : AccN Γ H0 Dl H tacc Ga) (hacc : tacc.length < 100000) (r : Rep Γ H x t G) (ee : ∃ us, runN tf cond elt (t :: ts) S = some us ∧ tacc ++ us = fin)
    (P : Hp → Prop) (hP : ∀ H' tacc' Ga', AccN Γ H0 Dl H' tacc' Ga' → tacc'.length ≤ tacc.length + 1 → (∃ us, runN tf cond elt ts S = some us ∧ tacc' ++ us = fin) → P H') :
    tg x (wipe σ vs) H fun σ2 H2 => wipe σ2 vs = wipe σ vs ∧ rdTBX Γ C cond σ2 H2 fun b H3 => if b = true then rdNX Γ C elt σ2 H3 fun y H4 => ∃ acc, H4 Dl = some (.lst acc) ∧ acc.length < sizeLine ∧ P (upd H4 Dl (.lst (acc ++ [y]))) else P H3 := by
  obtain ⟨us, ee, ef⟩ := ee
  unfold runN at ee
  cases e1 : tf t S with
  | none => rw [e1] at ee; cases ee
  | some S1 =>
    rw [e1] at ee
    simp only [Option.bind_some] at ee
    refine tk H σ S F G x t S1 _ (R.same A.sm) r e1 fun σ1 R1 hw => ⟨hw, freeAt ar vs, hC, ?_⟩
    cases e2 : cond S1 with
    | none => rw [e2] at ee; cases ee
    | some cc =>
      rw [e2] at ee
      simp only [Option.bind_some] at ee
      split at ee
      · cases e3 : elt S1 with
        | none => rw [e3] at ee; cases ee
        | some u =>
          rw [e3] at ee
          simp only [Option.bind_some] at ee
          cases e4 : runN tf cond elt ts S with
          | none => rw [e4] at ee; cases ee
          | some us' =>
            rw [e4] at ee
            cases ee
            refine boolB R1 e2 fun H3 s3 => iteT ⟨freeAt ar vs, hC, S1, F, u, R1.same s3, e3, fun y H4 G4 s4 r4 n4 => ?_⟩
            obtain ⟨acc, q1, q2, A5⟩ := (A.step s3).add hD s4 r4 n4
            exact ⟨acc, q1, sz5' (by omega), hP _ _ _ A5 (by simp) ⟨us', e4, by rw [← ef]; simp⟩⟩
      · exact boolB R1 e2 fun H3 s3 => iteF (hP _ _ _ (A.step s3) (by omega) ⟨us, ee, ef⟩)
      · cases ee
def lcN (vs : List Nat) (tf : GF) (cond elt : BF) (ts : List T) (S : TSt) : Option T := if ts.length < 100000 then (runN tf cond elt ts (wipeS S vs)).bind fun us => some (.nd .lst us) else none
theorem coreN {vs : List Nat} {tf : GF} {tg : TG} {cond elt : BF} {C : Fx → Prop} (tk : TgW Γ (freeAt ar vs) vs tg tf) (hC : C (freeAt ar vs)) {H1 : Hp} {σ : L2.St} {S : TSt} {F G : FP} {x : V} {k : Kd} {ts : List T} {t : T} {Q : VK} (r : Rep Γ H1 x (.nd k ts) G) (hk : isSq k = true) (im : T.imAll ts = true) (R : RepS Γ ar H1 σ S F)
    (ee : lcN vs tf cond elt ts S = some t) (kk : ∀ v H' G, Same H1 H' → Rep Γ H' v t G → New H1 H' G → Q v H') :
    ∃ a ws, x = .ref a ∧ SqX Γ.K H1 k a ws ∧ CompR tg (rdTBX Γ C cond) (rdNX Γ C elt) vs σ Q (ItX Γ.K a k) H1 := by
  unfold lcN at ee
  by_cases hz : ts.length < 100000
  · rw [if_pos hz] at ee
    cases e1 : runN tf cond elt ts (wipeS S vs) with
    | none => rw [e1] at ee; cases ee
    | some fin =>
      rw [e1] at ee
      cases ee
      cases r with
      | @nd _ _ a ws _ Fs hat hl hm hc hd hs =>
        have R0 := R.wiped (ar' := freeAt ar vs) vs free_ok.2
        have atk : ∀ {H' : Hp}, Same H1 H' → SqX Γ.K H' k a ws := fun s => (hat.keep (fun _ o eo => s _ _ eo) fun b o _ eo => s _ _ eo).sqx hk
        refine ⟨a, ws, rfl, hat.sqx hk, fun Dl hD => ?_⟩
        have h0 : ∃ tacc Ga, AccN Γ H1 Dl (upd H1 Dl (.lst [])) tacc Ga ∧ tacc.length ≤ 0 ∧ ∃ us, runN tf cond elt (ts.drop 0) (wipeS S vs) = some us ∧ tacc ++ us = fin := ⟨[], FE, accN_start hD, Nat.le_refl _, fin, e1, rfl⟩
        have hs' : ∀ (i : Nat) (y : V) (H' : Hp), ws[i]? = some y → (∃ tacc Ga, AccN Γ H1 Dl H' tacc Ga ∧ tacc.length ≤ i ∧ ∃ us, runN tf cond elt (ts.drop i) (wipeS S vs) = some us ∧ tacc ++ us = fin) →
            tg y (wipe σ vs) H' fun σ2 H2 => wipe σ2 vs = wipe σ vs ∧ rdTBX Γ C cond σ2 H2 fun b H3 => if b = true then rdNX Γ C elt σ2 H3 fun y H4 => ∃ acc, H4 Dl = some (.lst acc) ∧ acc.length < sizeLine ∧ (∃ tacc Ga, AccN Γ H1 Dl (upd H4 Dl (.lst (acc ++ [y]))) tacc Ga ∧ tacc.length ≤ i + 1 ∧ ∃ us, runN tf cond elt (ts.drop (i + 1)) (wipeS S vs) = some us ∧ tacc ++ us = fin)
              else ∃ tacc Ga, AccN Γ H1 Dl H3 tacc Ga ∧ tacc.length ≤ i + 1 ∧ ∃ us, runN tf cond elt (ts.drop (i + 1)) (wipeS S vs) = some us ∧ tacc ++ us = fin := by
          rintro i y H' hy ⟨tacc, Ga, A, hta, e'⟩
          have hi : i < ts.length := by rw [← hl]; exact (List.getElem?_eq_some_iff.mp hy).1
          have et : ts[i]? = some ts[i] := List.getElem?_eq_getElem hi
          rw [drop_get et] at e'
          exact turnN tk hC hD R0 A (by omega) ((hc i y _ hy et).same A.sm) e' (fun H' => ∃ tacc Ga, AccN Γ H1 Dl H' tacc Ga ∧ tacc.length ≤ i + 1 ∧ ∃ us, runN tf cond elt (ts.drop (i + 1)) (wipeS S vs) = some us ∧ tacc ++ us = fin)
            fun H2 ta2 Ga2 A2 hl2 e2 => ⟨ta2, Ga2, A2, by omega, e2⟩
        have hd' : ∀ H' : Hp, (∃ tacc Ga, AccN Γ H1 Dl H' tacc Ga ∧ tacc.length ≤ ws.length ∧ ∃ us, runN tf cond elt (ts.drop ws.length) (wipeS S vs) = some us ∧ tacc ++ us = fin) → Q (.ref Dl) H' := by
          rintro H' ⟨tacc, Ga, A, _, us, e', ef⟩
          rw [hl, List.drop_length] at e'
          cases e'
          rw [List.append_nil] at ef
          subst ef
          obtain ⟨d1, d2, d3⟩ := A.done hD
          exact kk _ H' _ d1 d2 d3
        have sq : ∀ (i : Nat) (H' : Hp), i ≤ ws.length → (∃ tacc Ga, AccN Γ H1 Dl H' tacc Ga ∧ tacc.length ≤ i ∧ ∃ us, runN tf cond elt (ts.drop i) (wipeS S vs) = some us ∧ tacc ++ us = fin) → SqX Γ.K H' k a ws := fun i H' _ ⟨_, _, A, _⟩ => atk A.sm
        cases k with
        | tup => exact lc_tup (K := Γ.K) (a := a) (xs := ws) (Qd := fun H' => Q (.ref Dl) H') (fun i H' => ∃ tacc Ga, AccN Γ H1 Dl H' tacc Ga ∧ tacc.length ≤ i ∧ ∃ us, runN tf cond elt (ts.drop i) (wipeS S vs) = some us ∧ tacc ++ us = fin) h0 sq hs' hd'
        | lst => exact lc_list (K := Γ.K) (a := a) (xs := ws) (Qd := fun H' => Q (.ref Dl) H') (fun i H' => ∃ tacc Ga, AccN Γ H1 Dl H' tacc Ga ∧ tacc.length ≤ i ∧ ∃ us, runN tf cond elt (ts.drop i) (wipeS S vs) = some us ∧ tacc ++ us = fin) h0 sq hs' hd'
        | fz => exact lc_list (K := Γ.K) (a := a) (xs := ws) (Qd := fun H' => Q (.ref Dl) H') (fun i H' => ∃ tacc Ga, AccN Γ H1 Dl H' tacc Ga ∧ tacc.length ≤ i ∧ ∃ us, runN tf cond elt (ts.drop i) (wipeS S vs) = some us ∧ tacc ++ us = fin) h0 sq hs' hd'
        | dK _ => cases hk
        | dT _ => cases hk
        | fK _ => cases hk
        | any => cases hk
        | obj _ _ => cases hk
  · rw [if_neg hz] at ee; cases ee
/-- over a list or tuple -/
def bLc (vs : List Nat) (tf : GF) (gs cond elt : BF) : BF := fun S => (gs S).bind fun u => (seqO u).bind fun kt => lcN vs tf cond elt kt.2 S
theorem lcN_ok {vs : List Nat} {tf : GF} {tg : TG} {gs cond elt : BF} {C : Fx → Prop} {Q : VK} (tk : TgW Γ (freeAt ar vs) vs tg tf) (hC : C (freeAt ar vs)) (q : rdN Γ ar (bLc vs tf gs cond elt) σ H Q) : tLc (iSeq Γ.K (rdB Γ ar gs)) tg (rdTBX Γ C cond) (rdNX Γ C elt) vs σ H Q := by
  obtain ⟨S, F, t, R, ee, kk⟩ := q
  unfold bLc at ee
  cases e1 : gs S with
  | none => rw [e1] at ee; cases ee
  | some u =>
    rw [e1] at ee
    simp only [Option.bind_some] at ee
    cases e2 : seqO u with
    | none => rw [e2] at ee; cases ee
    | some kt =>
      obtain ⟨k, ts⟩ := kt
      rw [e2] at ee
      simp only [Option.bind_some] at ee
      obtain ⟨rfl, hk, im⟩ := seqO_some e2
      have main : ∀ v H' G, Same H H' → Rep Γ H' v (.nd k ts) G → ∃ a ws, v = .ref a ∧ SqX Γ.K H' k a ws ∧ CompR tg (rdTBX Γ C cond) (rdNX Γ C elt) vs σ Q (ItX Γ.K a k) H' := fun v H' G s r =>
        coreN tk hC r hk im (R.same s) ee fun w H2 G2 s2 r2 n2 => kk w H2 G2 (s.trans s2) r2 (n2.back s)
      cases k with
      | tup =>
        refine .inr ⟨S, F, _, R, e1, fun v H' G s r => ?_⟩
        obtain ⟨a, ws, ev, hq, lp⟩ := main v H' G s r
        exact ⟨a, ev, ⟨ws, hq⟩, lp⟩
      | lst =>
        refine .inl ⟨S, F, _, R, e1, fun v H' G s r => ?_⟩
        obtain ⟨a, ws, ev, hq, lp⟩ := main v H' G s r
        exact ⟨a, ev, ⟨ws, hq⟩, lp⟩
      | fz =>
        refine .inl ⟨S, F, _, R, e1, fun v H' G s r => ?_⟩
        obtain ⟨a, ws, ev, hq, lp⟩ := main v H' G s r
        exact ⟨a, ev, ⟨ws, hq⟩, lp⟩
      | dK _ => cases hk
      | dT _ => cases hk
      | fK _ => cases hk
      | any => cases hk
      | obj _ _ => cases hk
section
variable {elt tg iter : Expr} {ifs : List Expr} {scope : Scope} {own : List (Str × Nat)} {cond el gs : BF} {gg : TG} {tf : GF}
abbrev CT' : Fx → Prop := fun _ => True
theorem n_lc (hc : X.calm = true) (hN : X.N.Nodup) (tk : ∀ ar : Fx, (∀ v ∈ own.map (·.2), ar v = none) → TgW Γ ar (own.map (·.2)) gg tf) (hi : PE X iter (rdB Γ ar gs)) (ok : BlkOk X.N X.env.scope scope own) (hg : ∀ (s : Shared) (H : Hp) (C : Addr) (cl : List (Str × Addr)) (fp : List Addr), PG (X.blk s H scope (compEnvC scope cl C X.env) fp) tg gg)
    (ht : ∀ (s : Shared) (H : Hp) (C : Addr) (cl : List (Str × Addr)) (fp : List Addr), PTs (X.blk s H scope (compEnvC scope cl C X.env) fp) ifs (rdTBX Γ CT' cond)) (he : ∀ (s : Shared) (H : Hp) (C : Addr) (cl : List (Str × Addr)) (fp : List Addr), PE (X.blk s H scope (compEnvC scope cl C X.env) fp) elt (rdNX Γ CT' el))
    (hK : X.K = Γ.K := by rfl) (hs : ∀ x, foldedSetIterable iter X.env x = pure x := by intro _; rfl) : PE X (.ListComp elt [⟨tg, iter, ifs, 0⟩] scope pos) (rdN Γ ar (bLc (own.map (·.2)) tf gs cond el)) := by
  refine PE.imp (pe_lc hc hN (pi_seq hi) ok hg ht he hs) fun σ H Q q => ?_
  rw [hK]
  exact lcN_ok (tk _ free_ok.1) trivial q
theorem set_okN {i : Nat} (hi : ar i = none) {D : Ends} (q : rdS Γ ar W (sSet i (eOfN g)) D σ H) : rdN Γ ar g σ H fun v H1 => D.nx (σ.set i (some v)) H1 := by
  obtain ⟨S, F, r, S', R, e, k⟩ := set_ok hi q
  unfold eOfN at e
  cases e1 : g S with
  | none => rw [e1] at e; cases e
  | some t =>
    rw [e1] at e
    cases e
    exact ⟨S, F, t, R, e1, fun v H' G s r n => k v H' F G (own_new R s r n)⟩
end
end
end VT
namespace VT
open PySem PySem.Spec PyProof.Rows L2
section
variable {Γ : Gx} {ar : Fx} {W : WX} {X : Cx} {a b c e o : Expr} {pos p : Pos} {ga gb gc g : BF} {fa fb : EF} {pl : PF} {σ : L2.St} {H : Hp}
theorem takesN0 {X : Cx} : L2N.Takes X W0 := fun _ _ x => by
  obtain ⟨_, _, _, _, _, _, _, _, _, _, _, _, _, _, _, _, z⟩ := x
  exact z.elim
def rCatL (K : PySem.W.Frag) : R2 := fun x y H Q => ∃ l b xs zs, x = .ref l ∧ y = .ref b ∧ SqL K H l xs ∧ SqL K H b zs ∧ xs.length + zs.length ≤ sizeLine ∧ ∀ p, H p = none → Q (.ref p) (upd H p (.lst (xs ++ zs)))
theorem op_catL : OpR X (binaryOp .Add) (rCatL X.K) := by
  intro pins s σ H x y v u Q I rx ry h
  obtain ⟨l, b, xs, zs, rfl, rfl, hH, hB, hz, q⟩ := h
  cases rx
  cases ry
  obtain ⟨its, r, ⟨⟨cls, dd, data, sl⟩, n, ho, hc, hdd, hd⟩, z⟩ := I.list hH
  obtain ⟨its2, r2, ⟨⟨cls2, dd2, data2, sl2⟩, n2, ho2, hc2, hdd2, hd2⟩, z2⟩ := I.list hB
  simp only at hc hd hc2 hd2
  subst hc hd hc2 hd2
  have e : its.toArray ++ its2.toArray = (its ++ its2).toArray := by simp
  have hl := r.length
  have hl2 := r2.length
  refine concat_meets ⟨_, ho, rfl⟩ ⟨_, ho2, rfl⟩ noFill_list_add seq_list_add PySem.F.slot_list_add PySem.F.entry_list_add (PySem.F.args_list_add_2 _ _) (list_addW l b its.toArray its2.toArray n n2 dd dd2 sl sl2 (by simp; omega)) ⟨ho, ho2, ?_⟩
  rw [e]
  exact ⟨.ref _, _, I.lnew (t' := s.toks) (r.append r2) (by rw [List.length_append]; omega), rfl, q _ I.fresh⟩
def isLs : Kd → Bool
  | .lst => true
  | .fz => true
  | _ => false
def addA : T → T → Option T
  | .int i, .int j => some (.int (i + j))
  | .str x, .str y => gd (x.length + y.length ≤ 100000) (.str (x ++ y))
  | .nd k xs, .nd k' ys =>
    if isLs k = true ∧ isLs k' = true then gd (xs.length + ys.length ≤ 100000 ∧ T.imAll (xs ++ ys) = true) (.nd .lst (xs ++ ys))
    else match k, k' with
      | .tup, .tup => gd (xs.length + ys.length ≤ 100000 ∧ T.imAll (xs ++ ys) = true ∧ xs.isEmpty = false) (.nd .tup (xs ++ ys))
      | _, _ => none
  | _, _ => none
def rAddA (K : PySem.W.Frag) : R2 := fun x y H Q => (rI0 (fun i j => .int (i + j)) x y H Q ∨ (∃ i j, x = .str i ∧ y = .str j ∧ i.length + j.length ≤ sizeLine ∧ Q (.str (i ++ j)) H)) ∨ (rCatL K x y H Q ∨ rCatT K x y H Q)
theorem op_addA : OpR X (binaryOp .Add) (rAddA X.K) := or_OpR (or_OpR op_add op_add_str) (or_OpR op_catL op_catT)
theorem Rep.lsAt {H : Hp} {x : V} {k : Kd} {ts : List T} {G : FP} (h : Rep Γ H x (.nd k ts) G) (hk : isLs k = true) :
    ∃ a vs, x = .ref a ∧ SqL Γ.K H a vs ∧ vs.length = ts.length ∧ ∀ (i : Nat) (v : V) (t : T), vs[i]? = some v → ts[i]? = some t → Rep Γ H v t G := by
  cases k with
  | lst => exact h.list (.inl rfl)
  | fz => exact h.list (.inr rfl)
  | _ => cases hk
theorem addA_ok : OpT Γ (rAddA Γ.K) addA := by
  intro H x y t1 t2 t G1 G2 Q r1 r2 e k
  unfold addA at e
  split at e
  · cases e
    cases r1
    cases r2
    exact .inl (.inl ⟨_, _, rfl, rfl, k _ H FE (Same.refl H) (.int _) new_FE⟩)
  · obtain ⟨c1, rfl⟩ := gd_some.mp e
    cases r1
    cases r2
    exact .inl (.inr ⟨_, _, rfl, rfl, sz5 c1, k _ H FE (Same.refl H) (.str _) new_FE⟩)
  · rename_i k1 xs k2 ys
    by_cases hk : isLs k1 = true ∧ isLs k2 = true
    · rw [if_pos hk] at e
      obtain ⟨⟨c1, c2⟩, rfl⟩ := gd_some.mp e
      obtain ⟨a, vs, rfl, ha, hl, hc⟩ := r1.lsAt hk.1
      obtain ⟨b, ws, rfl, hb, hl2, hc2⟩ := r2.lsAt hk.2
      refine .inr (.inl ⟨a, b, vs, ws, rfl, rfl, ha, hb, sz5 (by rw [hl, hl2]; exact c1), fun p hp => ?_⟩)
      obtain ⟨s, r, n⟩ := new_lst (Γ := Γ) (ts := _ ++ _) hp (by rw [List.length_append, List.length_append, hl, hl2]) (app_kids hl hc hc2) c2
      exact k _ _ _ s r n
    · rw [if_neg hk] at e
      split at e
      · obtain ⟨⟨c1, c2, c3⟩, rfl⟩ := gd_some.mp e
        obtain ⟨a, vs, rfl, ha, hl, hc⟩ := r1.tupl
        obtain ⟨b, ws, rfl, hb, hl2, hc2⟩ := r2.tupl
        have hv : vs ≠ [] := fun z => by
          rw [z] at hl
          cases xs with
          | nil => cases c3
          | cons x xs => simp at hl
        refine .inr (.inr ⟨a, b, vs, ws, rfl, rfl, ha, hb, hv, sz5 (by rw [hl, hl2]; exact c1), fun hw => ?_, fun hw p hp => ?_⟩)
        · have hy : ys = [] := by
            rw [hw] at hl2
            cases ys with
            | nil => rfl
            | cons y ys => simp at hl2
          subst hy
          rw [List.append_nil] at k c2
          exact k _ H FE (Same.refl H) (r1.im (by rw [im_tup]; exact c2) FE) new_FE
        · obtain ⟨s, r, n⟩ := new_tup (Γ := Γ) (ts := _ ++ _) hp (by rw [List.length_append, List.length_append, hl, hl2]) (app_kids hl hc hc2) c2
          exact k _ _ _ s r n
      · cases e
  · cases e
def T.isB (b : Bool) : T → Bool
  | .bl c => c == b
  | _ => false
theorem Rep.isB {H : Hp} {v : V} {t : T} {F : FP} {b : Bool} (h : Rep Γ H v t F) : decide (v = .bl b) = t.isB b := by
  cases h with
  | bl c =>
    show _ = (c == b)
    by_cases e : c = b
    · rw [e]; simp
    · rw [decide_eq_false (fun z => e (V.bl.inj z))]
      exact (beq_eq_false_iff_ne.mpr e).symm
  | _ => rfl
end
section
variable {ts us : List T} {t u w x y : T} {i j : Int} {S : TSt} {ga gb gc gs cond elt : BF} {vs : List Nat} {tf : GF} {k : Kd} {b : Bool}
def kBNot : T → Option T
  | .bl b => some (.bl (!b))
  | _ => none
def kBAnd (gb : BF) (S : TSt) : T → Option T
  | .bl true => gb S
  | .bl false => some (.bl false)
  | _ => none
theorem bNot_q : bNot ga S = (ga S).bind kBNot := by unfold bNot; cases ga S with | none => rfl | some x => cases x <;> rfl
theorem kBNot_q : kBNot (.bl b) = some (.bl (!b)) := rfl
theorem bAnd_q : bAnd ga gb S = (ga S).bind (kBAnd gb S) := by unfold bAnd; cases ga S with | none => rfl | some x => cases x with | bl b => cases b <;> rfl | _ => rfl
theorem kBAnd_q : kBAnd gb S (.bl b) = if b = true then gb S else some (.bl false) := by cases b <;> rfl
theorem bYes_q : bYes S = some (.bl true) := rfl
def kNlc (us : List T) : Option T := some (.nd .lst us)
theorem lcN_q : lcN vs tf cond elt ts S = if ts.length < 100000 then (runN tf cond elt ts (wipeS S vs)).bind kNlc else none := rfl
theorem kNlc_q : kNlc us = some (.nd .lst us) := rfl
def kBLc (vs : List Nat) (tf : GF) (cond elt : BF) (S : TSt) (kt : Kd × List T) : Option T := lcN vs tf cond elt kt.2 S
def kBL (vs : List Nat) (tf : GF) (cond elt : BF) (S : TSt) (u : T) : Option T := (seqO u).bind (kBLc vs tf cond elt S)
theorem bLc_q : bLc vs tf gs cond elt S = (gs S).bind (kBL vs tf cond elt S) := rfl
theorem kBL_q : kBL vs tf cond elt S u = (seqO u).bind (kBLc vs tf cond elt S) := rfl
theorem kBLc_q : kBLc vs tf cond elt S (k, ts) = lcN vs tf cond elt ts S := rfl
theorem runN_pure {α : Type} {gx : α → T} {q : α → Bool} {h : α → T} (S1 : α → TSt) : ∀ (xs : List α), (∀ x ∈ xs, tf (gx x) S = some (S1 x)) → (∀ x ∈ xs, cond (S1 x) = some (.bl (q x))) → (∀ x ∈ xs, q x = true → elt (S1 x) = some (h x)) → runN tf cond elt (xs.map gx) S = some ((xs.filter q).map h)
  | [], _, _, _ => rfl
  | x :: xs, h1, h2, h3 => by
    have ih := runN_pure S1 xs (fun y hy => h1 y (List.mem_cons_of_mem _ hy)) (fun y hy => h2 y (List.mem_cons_of_mem _ hy)) fun y hy => h3 y (List.mem_cons_of_mem _ hy)
    rw [List.map_cons, runN, h1 x List.mem_cons_self, Option.bind_some, h2 x List.mem_cons_self, Option.bind_some, List.filter_cons]
    cases hq : q x with
    | false => simp only [ih]; rfl
    | true => simp only [h3 x List.mem_cons_self hq, ih, Option.bind_some]; rfl
theorem addA_i : addA (.int i) (.int j) = some (.int (i + j)) := rfl
theorem addA_s {a b : Str} : addA (.str a) (.str b) = gd (a.length + b.length ≤ 100000) (.str (a ++ b)) := rfl
theorem addA_ll : addA (.nd .lst ts) (.nd .lst us) = gd (ts.length + us.length ≤ 100000 ∧ T.imAll (ts ++ us) = true) (.nd .lst (ts ++ us)) := rfl
theorem addA_fl : addA (.nd .fz ts) (.nd .lst us) = gd (ts.length + us.length ≤ 100000 ∧ T.imAll (ts ++ us) = true) (.nd .lst (ts ++ us)) := rfl
theorem addA_tt : addA (.nd .tup ts) (.nd .tup us) = gd (ts.length + us.length ≤ 100000 ∧ T.imAll (ts ++ us) = true ∧ ts.isEmpty = false) (.nd .tup (ts ++ us)) := rfl
theorem isB_bl {c : Bool} : (T.bl c).isB b = (c == b) := rfl
theorem isB_non : T.non.isB b = false := rfl
theorem isB_int : (T.int i).isB b = false := rfl
theorem isB_str {z : Str} : (T.str z).isB b = false := rfl
theorem isB_nd : (T.nd k ts).isB b = false := rfl
theorem isN_bl : (T.bl b).isN = false := rfl
end
end VT
namespace VT
open PySem L2
end VT
namespace VT
open PySem PySem.Spec PyProof.Rows L2
section
variable {S : TSt} {i : Nat} {t u : T}
theorem addA_lf {ts us : List T} : addA (.nd .lst ts) (.nd .fz us) = gd (ts.length + us.length ≤ 100000 ∧ T.imAll (ts ++ us) = true) (.nd .lst (ts ++ us)) := rfl
end
end VT
namespace VT
open PySem L2
/-- a number in figures -/
def dg (i : Int) : Str := Str.ofString (toString i)
theorem ofS_ok (s : String) : PyData.strOk (Str.ofString s) = true := by
  unfold PyData.strOk
  rw [Str.ofString_eq_toList]
  simp only [List.all_toArray, List.all_map, List.all_eq_true]
  intro c _
  simp only [Function.comp, decide_eq_true_eq]
  have h := c.valid
  have e : c.toNat = c.val.toNat := rfl
  rw [e]
  rcases h with h | h
  · have : c.val.toNat < 0xd800 := h
    omega
  · have : c.val.toNat < 0x110000 := h.2
    omega
theorem dg_ok (i : Int) : PyData.strOk (dg i) = true := ofS_ok _
theorem beq_tt : (true == true) = true := rfl
theorem beq_tf : (true == false) = false := rfl
theorem beq_ft : (false == true) = false := rfl
theorem beq_ff : (false == false) = true := rfl
end VT
namespace VT
open PySem PySem.Spec PyProof.Rows L2
end VT
namespace VT
open PySem PySem.Spec PyProof.Rows L2
end VT
namespace VT
open PySem PySem.Spec PyProof.Rows L2
end VT
namespace VT
open PySem L2
end VT
namespace VT
open PySem L2
end VT
namespace VT
open PySem L2
section
variable {Γ : Gx} {ar : Fx} {W : WX} {X : Cx} {pos : Pos}
theorem putK_new {κ : Type} [DecidableEq κ] {k : κ} {v : V} {kvs : List (κ × V)} (h : k ∉ kvs.map (·.1)) : L2.putK kvs k v = kvs ++ [(k, v)] := by
  unfold L2.putK
  rw [if_neg]
  intro z
  rw [List.any_eq_true] at z
  obtain ⟨kv, h1, h2⟩ := z
  exact h (List.mem_map.mpr ⟨kv, h1, of_decide_eq_true h2⟩)
end
end VT
namespace VT
open PySem L2
end VT
namespace VT
open PySem L2
abbrev MR := List T → Option T
abbrev RF := TSt → Option (Option T)
end VT
namespace VT
open PySem L2
end VT
namespace VT
open PySem L2
end VT
namespace VT
open PySem L2
end VT
namespace VT
open PySem L2
section
variable {m : MR} {n c i : Nat} {x : Str} {pl : PF} {gs : BAF} {S : TSt} {p : List Nat} {t u : T} {as : List Arg} {ts : List T} {f g : RF} {b : Bool} {gb : BF}
variable {vs : List Nat} {tf : GF} {cond elt : BF} {kt : List (List Key)}
theorem eYes_q : eYes S = some (.ok (.bl true), S) := rfl
theorem tgT_tup {is : List Nat} : tgT is (.nd .tup ts) S = if T.imAll ts = true then setAll is ts S else none := rfl
theorem tupleT_lst : tupleT (.nd .lst ts) = if T.imAll ts = true then some (.nd .tup ts) else none := by
  unfold tupleT
  simp [isSq]
theorem tupleT_tup : tupleT (.nd .tup ts) = if T.imAll ts = true then some (.nd .tup ts) else none := by
  unfold tupleT
  simp [isSq]
end
def fl (n : Int) (f : Int → T) : List T := (rgI n).map f
def up {α : Type} (f : Int → α) (k : Int) (x : α) : Int → α := fun j => if j = k then x else f j
theorem up_same {α : Type} {f : Int → α} {k : Int} {x : α} : up f k x k = x := if_pos rfl
theorem up_ne {α : Type} {f : Int → α} {k j : Int} {x : α} (h : ¬ j = k) : up f k x j = f j := if_neg h
theorem up_id {α : Type} {f : Int → α} {k : Int} : up f k (f k) = f := by
  funext j
  unfold up
  split
  · rename_i h; rw [h]
  · rfl
theorem fl_len {n : Int} {f : Int → T} : (fl n f).length = n.toNat := by rw [fl, List.length_map, rgI_length]
theorem rgI_get {n k : Int} (h0 : 0 ≤ k) (h1 : k < n) : (rgI n)[k.toNat]? = some k := by
  unfold rgI
  rw [List.getElem?_map, List.getElem?_range (by omega)]
  simp only [Option.map_some]
  congr 1
  omega
theorem fl_get {n k : Int} {f : Int → T} (h0 : 0 ≤ k) (h1 : k < n) : (fl n f)[k.toNat]? = some (f k) := by
  rw [fl, List.getElem?_map, rgI_get h0 h1]
  try rfl
theorem fl_getD {n k : Int} {f : Int → T} (h0 : 0 ≤ k) (h1 : k < n) : (fl n f).getD k.toNat .non = f k := by
  rw [List.getD_eq_getElem?_getD, fl_get h0 h1]
  try rfl
theorem fl_set {n k : Int} {f : Int → T} {x : T} (h0 : 0 ≤ k) (h1 : k < n) : (fl n f).set k.toNat x = fl n (up f k x) := by
  apply List.ext_getElem?
  intro j
  by_cases hj : j < n.toNat
  · have e1 : (fl n (up f k x))[j]? = some (up f k x (j : Int)) := by
      have := fl_get (n := n) (k := (j : Int)) (f := up f k x) (by omega) (by omega)
      simpa using this
    have e2 : (fl n f)[j]? = some (f (j : Int)) := by
      have := fl_get (n := n) (k := (j : Int)) (f := f) (by omega) (by omega)
      simpa using this
    rw [e1, List.getElem?_set]
    by_cases c : k.toNat = j
    · rw [if_pos c, if_pos (by rw [fl_len]; omega)]
      have : (j : Int) = k := by omega
      rw [this, up_same]
    · rw [if_neg c, e2, up_ne (by omega)]
  · rw [List.getElem?_eq_none (by rw [List.length_set, fl_len]; omega), List.getElem?_eq_none (by rw [fl_len]; omega)]
theorem ixN_fl {n k : Int} (h0 : 0 ≤ k) (h1 : k < n) : ixN n.toNat k = some k.toNat := by
  unfold ixN
  rw [if_pos h0, if_pos (by omega)]
theorem atI_fl {n k : Int} {f : Int → T} (h0 : 0 ≤ k) (h1 : k < n) : atI (fl n f) k = some (f k) := by
  unfold atI
  rw [fl_len, ixN_fl h0 h1, Option.bind_some, fl_get h0 h1]
theorem ixB_fl {n k : Int} {f : Int → T} (h0 : 0 ≤ k) (h1 : k < n) : ixB (.nd .lst (fl n f)) (.int k) = some (f k) := by rw [ixB_lst, atI_fl h0 h1]
theorem setA_fl {n k : Int} {f : Int → T} {x : T} (h0 : 0 ≤ k) (h1 : k < n) : setA (.int k) (.nd .lst (fl n f)) [x] = some (.nd .lst (fl n (up f k x)), .non) := by rw [setA_l, setM_q, fl_len, ixN_fl h0 h1, Option.bind_some, kSM_q, fl_set h0 h1]
end VT
namespace VT
open PySem PySem.Spec PyProof.Rows L2
end VT
namespace VT
open PySem PySem.Spec PyProof.Rows L2
end VT
namespace VT
open PySem PySem.Spec PyProof.Rows L2
end VT
namespace VT
open PySem PySem.Spec PyProof.Rows L2
end VT
namespace VT
open PySem PySem.Spec PyProof.Rows L2
end VT
namespace VT
open PySem L2
end VT
namespace VT
open PySem PySem.Spec PyProof.Rows L2
end VT
namespace VT
open PySem PySem.Spec PyProof.Rows L2
section
variable {Γ : Gx} {X : Cx} {ar : Fx} {W : WX} {e o : Expr} {fa : EF} {pos : Pos} {pl : PF}
theorem focusR {H : Hp} {b : Nat} {k : Kd} {ts : List T} {a0 : Addr} {t1 : T} {F : FP} (h : Rep Γ H (.ref a0) (.nd k ts) F) (mu : k.ow = true) (eu : ts[b]? = some t1) :
    ∃ v1 G o, vAt H [b] (.ref a0) = some v1 ∧ Rep Γ H v1 t1 G ∧ (∀ a, G a → F a) ∧ ¬ G a0 ∧ H a0 = some o ∧
      ∀ H' t2 G', KeIn H H' F G → (∀ a, G' a → G a ∨ ¬ F a) → Rep Γ H' v1 t2 G' → Rep Γ H' (.ref a0) (.nd k (ts.set b t2)) (fun a => (F a ∧ ¬ G a) ∨ G' a) := by
  cases h with
  | @nd _ _ _ vs _ Fs hat hl hm hk hd hs =>
    have hi : b < ts.length := (List.getElem?_eq_some_iff.mp eu).1
    obtain ⟨vi, ev⟩ : ∃ vi, vs[b]? = some vi := ⟨vs[b]'(by omega), List.getElem?_eq_getElem (by omega)⟩
    obtain ⟨o, ho, hko⟩ := hat.kids (ow_mu mu)
    have nGa : ¬ Fs b a0 := fun z => (hm mu).2 b z
    refine ⟨vi, Fs b, o, ?_, hk b vi t1 ev eu, fun c z => hs b c z, nGa, ho, fun H' t2 G' ke nw r => ?_⟩
    · show (H a0).bind _ = _
      rw [ho]
      show (VT.kids o)[b]?.bind _ = _
      rw [hko, ev]
      try rfl
    · have nG'a : ¬ G' a0 := fun z => (nw a0 z).elim nGa fun q => q (hm mu).1
      refine .nd (Fs := fun j => if j = b then G' else Fs j) (hat.keep (fun _ o' e' => ke.keep a0 o' (hm mu).1 nGa e') ke.imm) (by rw [List.length_set]; exact hl) (fun _ => ⟨.inl ⟨(hm mu).1, nGa⟩, fun j => ?_⟩) (fun j w s e1 e2 => ?_) (fun j j' c ne z z' => ?_) fun j c z => ?_
      · by_cases hj : j = b
        · rw [if_pos hj]; exact nG'a
        · rw [if_neg hj]; exact (hm mu).2 j
      · by_cases hj : j = b
        · subst hj
          rw [if_pos rfl]
          rw [List.getElem?_set_self hi] at e2
          have ew : w = vi := Option.some.inj (e1.symm.trans ev)
          subst ew
          have es : t2 = s := Option.some.inj e2
          rw [← es]
          exact r
        · rw [if_neg hj]
          rw [List.getElem?_set_ne (Ne.symm hj)] at e2
          exact (hk j w s e1 e2).frame (fun c o f q => ke.keep c o (hs j c f) (fun g => hd j b c hj f g) q) ke.imm
      · have aux : ∀ j, j ≠ b → Fs j c → G' c → False := fun j hj f g => (nw c g).elim (fun g => hd j b c hj f g) fun nf => nf (hs j c f)
        by_cases hj : j = b
        · by_cases hj' : j' = b
          · exact ne (hj.trans hj'.symm)
          · rw [if_pos hj] at z; rw [if_neg hj'] at z'; exact aux j' hj' z' z
        · rw [if_neg hj] at z
          by_cases hj' : j' = b
          · rw [if_pos hj'] at z'; exact aux j hj z z'
          · rw [if_neg hj'] at z'; exact hd j j' c ne z z'
      · by_cases hj : j = b
        · rw [if_pos hj] at z; exact .inr z
        · rw [if_neg hj] at z
          exact .inl ⟨hs j c z, fun g => hd j b c hj z g⟩
end
end VT
namespace VT
open PySem PySem.Spec PyProof.Rows L2
end VT
namespace VT
open PySem PySem.Spec PyProof.Rows L2
end VT
namespace VT
open PySem PySem.Spec PyProof.Rows L2
end VT
namespace VT
open PySem PySem.Spec PyProof.Rows L2
end VT
namespace VT
open PySem PySem.Spec PyProof.Rows L2 HandSPX
end VT
namespace VT
open PySem PySem.Spec PyProof.Rows L2 HandSPX
end VT
namespace VT
open PySem PySem.Spec L2
end VT
namespace VT
open PySem PySem.Spec L2
end VT
namespace VT
open PySem PySem.Spec L2
def insM : MuF
  | .nd .lst ts, [.int i, t] => if ts.length < 100000 ∧ 0 ≤ i ∧ i ≤ 100000 ∧ T.imAll ts = true ∧ t.im = true then some (.nd .lst (ts.take i.toNat ++ [t] ++ ts.drop i.toNat), .non) else none
  | _, _ => none
theorem insM_q {ts : List T} {i : Int} {t : T} : insM (.nd .lst ts) [.int i, t] = if ts.length < 100000 ∧ 0 ≤ i ∧ i ≤ 100000 ∧ T.imAll ts = true ∧ t.im = true then some (.nd .lst (ts.take i.toNat ++ [t] ++ ts.drop i.toNat), .non) else none := rfl
def rInsert : V → List V → Hp → VK → Prop := fun x vs H Q => ∃ (l : Addr) (xs : List V) (i : Int) (y : V), x = .ref l ∧ vs = [.int i, y] ∧ H l = some (.lst xs) ∧ xs.length < sizeLine ∧ 0 ≤ i ∧ i < 2 ^ 63 ∧ Q .non (upd H l (.lst (xs.take i.toNat ++ [y] ++ xs.drop i.toNat)))
section
variable {Γ : Gx} {ar : Fx} {W : WX} {X : Cx}
theorem mt_ins : MtM X "list.insert" rInsert := mt_insert
theorem ins_get {α : Type} {xs : List α} {n : Nat} {y : α} {j : Nat} : (xs.take n ++ [y] ++ xs.drop n)[j]? = if j < min n xs.length then xs[j]? else if j = min n xs.length then some y else xs[j - 1]? := by
  have hl : (xs.take n).length = min n xs.length := by simp
  by_cases c1 : j < min n xs.length
  · rw [if_pos c1, List.append_assoc, List.getElem?_append_left (by omega), List.getElem?_take, if_pos (by omega)]
  · rw [if_neg c1, List.append_assoc, List.getElem?_append_right (by omega), hl]
    by_cases c2 : j = min n xs.length
    · rw [if_pos c2, c2]
      simp
    · rw [if_neg c2]
      obtain ⟨k, hk⟩ : ∃ k, j - min n xs.length = k + 1 := ⟨j - min n xs.length - 1, by omega⟩
      rw [hk]
      simp only [List.singleton_append, List.getElem?_cons_succ, List.getElem?_drop]
      by_cases c3 : n ≤ xs.length
      · congr 1
        omega
      · rw [List.getElem?_eq_none (by omega), List.getElem?_eq_none (by omega)]
theorem insM_ok : MutT Γ rInsert insM := by
  intro H x u us u' res G Gx Gs vs Q r hl hg hd hs dj e k
  unfold insM at e
  split at e
  · rename_i ts i t
    by_cases hz : ts.length < 100000 ∧ 0 ≤ i ∧ i ≤ 100000 ∧ T.imAll ts = true ∧ t.im = true
    · rw [if_pos hz] at e
      obtain ⟨z1, z2, z3, z4, z5⟩ := hz
      cases e
      cases r with
      | @nd _ _ a ws _ Fs hat hlw hm hc hdd hss =>
        have hat : H a = some (.lst ws) := hat
        match vs, hl with
        | [w, y], _ =>
          have ri := hg 0 w (.int i) rfl rfl
          have ry := hg 1 y t rfl rfl
          cases ri
          have hlw : ws.length = ts.length := hlw
          refine ⟨a, ws, i, y, rfl, rfl, hat, sz5' (by omega), z2, by omega, ?_⟩
          refine k _ _ (fun x => x = a ∨ ∃ j : Nat, FE x) FE (ke_upd hat (fun z => z) (hm rfl).1) (fun b z => ?_) (fun _ _ z => z) al_upd
            (node_upd (Fs' := fun _ => FE) hat (fun z => z) upd_same (by simp [hlw]) (fun j v t' q1 q2 => ?_) (fun i j b ne z z' => z) fun j z => z) .non
          · rcases z with (z | ⟨j, z⟩) | z
            · rw [z]; exact .inl (hm rfl).1
            · exact z.elim
            · exact z.elim
          · rw [ins_get] at q1 q2
            rw [hlw] at q1
            by_cases c1 : j < min i.toNat ts.length
            · rw [if_pos c1] at q1 q2
              exact (hc _ v t' q1 q2).im (imAll_iff.mp z4 _ _ q2) FE
            · rw [if_neg c1] at q1 q2
              by_cases c2 : j = min i.toNat ts.length
              · rw [if_pos c2] at q1 q2
                cases q1
                cases q2
                exact ry.im z5 FE
              · rw [if_neg c2] at q1 q2
                exact (hc _ v t' q1 q2).im (imAll_iff.mp z4 _ _ q2) FE
    · rw [if_neg hz] at e; cases e
  · cases e
variable {a b c : Expr} {op op' : CmpOp} {r r' : R2} {f f' : T → T → Option T} {ga gb gc : BF} {pos : Pos}
end
end VT
namespace VT
open PySem PySem.Spec L2
end VT
namespace VT
open PySem PySem.Spec L2
end VT
namespace VT
open PySem PySem.Spec L2
end VT
namespace VT
open PySem PySem.Spec PyProof.Rows L2 L2H HotX
end VT
namespace VT
open PySem PySem.Spec L2
end VT
namespace VT
open PySem PySem.Spec PyProof.Rows L2
mutual
def lockD : T → Option T
  | .nd .lst ts => (lockDs ts).bind fun us => some (.nd .fz us)
  | .nd (.dK ks) ts => (lockDs ts).bind fun us => some (.nd (.fK ks) us)
  | .nd .tup ts => (lockDs ts).bind fun us => some (.nd .tup us)
  | .nd .fz ts => if T.imAll ts = true then some (.nd .fz ts) else none
  | .nd (.fK ks) ts => if T.imAll ts = true then some (.nd (.fK ks) ts) else none
  | .nd _ _ => none
  | t => some t
def lockDs : List T → Option (List T)
  | [] => some []
  | t :: ts => (lockD t).bind fun u => (lockDs ts).bind fun us => some (u :: us)
end
theorem lockDs_get : ∀ {ts us : List T}, lockDs ts = some us → us.length = ts.length ∧ ∀ (i : Nat) (t : T), ts[i]? = some t → ∃ u, us[i]? = some u ∧ lockD t = some u
  | [], us, e => by
    unfold lockDs at e
    cases e
    exact ⟨rfl, fun i t z => by simp at z⟩
  | t :: ts, us, e => by
    unfold lockDs at e
    cases e1 : lockD t with
    | none => rw [e1] at e; cases e
    | some u =>
      rw [e1] at e
      simp only [Option.bind_some] at e
      cases e2 : lockDs ts with
      | none => rw [e2] at e; cases e
      | some us' =>
        rw [e2] at e
        cases e
        obtain ⟨h1, h2⟩ := lockDs_get e2
        refine ⟨by simp [h1], fun i v z => ?_⟩
        cases i with
        | zero => simp at z; subst z; exact ⟨u, rfl, e1⟩
        | succ i => simpa using h2 i v (by simpa using z)
abbrev Mu2 (u : HO) : Prop := Mut (some u) ∧ ¬ Im u
abbrev LL := List (Addr × HO)
abbrev inL (L : LL) : FP := fun a => ∃ u, (a, u) ∈ L
structure GoodL (L : LL) (H : Hp) : Prop where
  at' : ∀ p ∈ L, H p.1 = some p.2 ∧ Mu2 p.2
  nd : (L.map (·.1)).Nodup
structure LkL (L : LL) (H H1 : Hp) : Prop where
  off : ∀ b, ¬ inL L b → H1 b = H b
  on : ∀ p ∈ L, ∃ od, H1 p.1 = some (.frz od p.2)
def unL (L : LL) (H : Hp) : Hp := fun b => match L.lookup b with
  | some u => some u
  | none => H b
theorem mut_im {u : HO} (m : Mu2 u) : ¬ Im u := m.2
theorem GoodL.uniq {L : LL} {H : Hp} (g : GoodL L H) {a : Addr} {u v : HO} (h : (a, u) ∈ L) (k : (a, v) ∈ L) : u = v := by
  have h1 := (g.at' _ h).1
  have k1 := (g.at' _ k).1
  simp only at h1 k1
  rw [h1] at k1
  exact Option.some.inj k1
theorem lkU_mem : ∀ {L : LL} {a : Addr} {u : HO}, L.lookup a = some u → (a, u) ∈ L
  | [], a, u, h => by cases h
  | (b, v) :: L, a, u, h => by
    unfold List.lookup at h
    by_cases e : a = b
    · subst e
      rw [show (a == a) = true from beq_self_eq_true a] at h
      cases h
      exact List.mem_cons_self
    · rw [show (a == b) = false from beq_eq_false_iff_ne.mpr e] at h
      exact List.mem_cons_of_mem _ (lkU_mem h)
theorem lkU_none : ∀ {L : LL} {a : Addr}, L.lookup a = none ↔ ¬ inL L a
  | [], a => ⟨fun _ ⟨_, z⟩ => by simp at z, fun _ => rfl⟩
  | (b, v) :: L, a => by
    unfold List.lookup
    by_cases e : a = b
    · subst e
      rw [show (a == a) = true from beq_self_eq_true a]
      exact ⟨(fun z => nomatch z), fun z => (z ⟨v, List.mem_cons_self⟩).elim⟩
    · rw [show (a == b) = false from beq_eq_false_iff_ne.mpr e]
      show L.lookup a = none ↔ _
      rw [lkU_none (L := L)]
      exact ⟨fun h ⟨u, z⟩ => by
        rcases List.mem_cons.mp z with z | z
        · cases z; exact e rfl
        · exact h ⟨u, z⟩, fun h ⟨u, z⟩ => h ⟨u, List.mem_cons_of_mem _ z⟩⟩
theorem unL_off {L : LL} {H : Hp} {b : Addr} (h : ¬ inL L b) : unL L H b = H b := by
  unfold unL
  rw [lkU_none.mpr h]
theorem unL_on {L : LL} {H H0 : Hp} (g : GoodL L H0) {b : Addr} {u : HO} (h : (b, u) ∈ L) : unL L H b = some u := by
  unfold unL
  cases e : L.lookup b with
  | none => exact absurd ⟨u, h⟩ (lkU_none.mp e)
  | some v => rw [g.uniq (lkU_mem e) h]
theorem GoodL.ne {L : LL} {H : Hp} (g : GoodL L H) {b : Addr} {o : HO} (h : H b = some o) (i : ¬ Mu2 o) : ¬ inL L b := fun ⟨u, z⟩ => by
  obtain ⟨h1, m⟩ := g.at' _ z
  simp only at h1
  rw [h] at h1
  cases h1
  exact i m
theorem GoodL.al {L : LL} {H : Hp} (g : GoodL L H) {b : Addr} (h : inL L b) : H b ≠ none := by
  obtain ⟨u, z⟩ := h
  rw [(g.at' _ z).1]
  exact fun y => nomatch y
theorem LkL.ke {L : LL} {H H1 : Hp} (g : GoodL L H) (l : LkL L H H1) : Ke H H1 (inL L) :=
  ⟨fun b o e n => by rw [l.off b n]; exact e, fun b o i e => by rw [l.off b (g.ne e fun m => mut_im m i)]; exact e⟩
/-- the heap behind the lock -/
theorem un_ke {L : LL} {H H1 H2 : Hp} (g : GoodL L H) (l : LkL L H H1) (F : FP) (hF : ∀ a, inL L a → F a) (k : ∀ b o, H1 b = some o → ¬ F b → H2 b = some o) (im : ∀ b o, Im o → H1 b = some o → H2 b = some o) : Ke H (unL L H2) F ∧ (∀ b u, (b, u) ∈ L → unL L H2 b = H b) := by
  have on : ∀ b u, (b, u) ∈ L → unL L H2 b = H b := fun b u z => by rw [unL_on g z]; exact (g.at' _ z).1.symm
  refine ⟨⟨fun b o e n => ?_, fun b o i e => ?_⟩, on⟩
  · have nb : ¬ inL L b := fun z => n (hF b z)
    rw [unL_off nb]
    exact k b o (by rw [l.off b nb]; exact e) n
  · have nb : ¬ inL L b := g.ne e fun m => mut_im m i
    rw [unL_off nb]
    exact im b o i (by rw [l.off b nb]; exact e)
section
variable {Γ : Gx} {ar : Fx} {W : WX} {X : Cx} {e : Expr} {g : BF} {pl : PF}
/-- what is locked, and how it looks -/
structure Lkd (Γ : Gx) (H : Hp) (v : V) (t t' : T) (F : FP) (L : LL) : Prop where
  at' : ∀ p ∈ L, H p.1 = some p.2 ∧ Mu2 p.2 ∧ F p.1
  nd : (L.map (·.1)).Nodup
  rep : Rep Γ H v t (inL L)
  lk : ∀ H', (∀ p ∈ L, ∃ od, H' p.1 = some (.frz od p.2)) → (∀ b o, Im o → H b = some o → H' b = some o) → Rep Γ H' v t' FE ∧ t'.im = true
theorem lkd_kids {H : Hp} {vs : List V} {ts us : List T} {Fs : Nat → FP} (hl : vs.length = ts.length) (hu : us.length = ts.length) (hg : ∀ (i : Nat) (t : T), ts[i]? = some t → ∃ u, us[i]? = some u ∧ lockD t = some u)
    (ih : ∀ i v t u, vs[i]? = some v → ts[i]? = some t → lockD t = some u → ∃ L, Lkd Γ H v t u (Fs i) L) (hd : ∀ i j a, i ≠ j → Fs i a → Fs j a → False) : ∀ n, ∃ L : LL, (∀ p ∈ L, H p.1 = some p.2 ∧ Mu2 p.2 ∧ ∃ i, i < n ∧ Fs i p.1) ∧ (L.map (·.1)).Nodup ∧
      (∀ i v t, i < n → vs[i]? = some v → ts[i]? = some t → Rep Γ H v t (fun a => inL L a ∧ Fs i a)) ∧
      ∀ H', (∀ p ∈ L, ∃ od, H' p.1 = some (.frz od p.2)) → (∀ b o, Im o → H b = some o → H' b = some o) → ∀ i v u, i < n → vs[i]? = some v → us[i]? = some u → Rep Γ H' v u FE ∧ u.im = true
  | 0 => ⟨[], fun p z => by simp at z, List.nodup_nil, fun i v t z => absurd z (Nat.not_lt_zero _), fun H' _ _ i v u z => absurd z (Nat.not_lt_zero _)⟩
  | n + 1 => by
    obtain ⟨L, h1, h2, h3, h4⟩ := lkd_kids hl hu hg ih hd n
    by_cases hn : n < ts.length
    · have ev : vs[n]? = some (vs[n]'(by omega)) := List.getElem?_eq_getElem (by omega)
      have et : ts[n]? = some ts[n] := List.getElem?_eq_getElem hn
      obtain ⟨u, eu, el⟩ := hg n _ et
      obtain ⟨M, k1, k2, k3, k4⟩ := ih n _ _ u ev et el
      refine ⟨M ++ L, fun p z => ?_, ?_, fun i v t z e1 e2 => ?_, fun H' q im i v u' z e1 e2 => ?_⟩
      · rcases List.mem_append.mp z with z | z
        · exact ⟨(k1 p z).1, (k1 p z).2.1, n, Nat.lt_succ_self n, (k1 p z).2.2⟩
        · obtain ⟨y1, y2, i, y3, y4⟩ := h1 p z
          exact ⟨y1, y2, i, Nat.lt_succ_of_lt y3, y4⟩
      · rw [List.map_append, List.nodup_append]
        refine ⟨k2, h2, fun a ha b hb => ?_⟩
        obtain ⟨p, hp, rfl⟩ := List.mem_map.mp ha
        obtain ⟨q, hq, rfl⟩ := List.mem_map.mp hb
        obtain ⟨_, _, i, y3, y4⟩ := h1 q hq
        exact fun z => hd n i p.1 (by omega) (k1 p hp).2.2 (z ▸ y4)
      · by_cases hi : i = n
        · subst hi
          rw [ev] at e1
          rw [et] at e2
          cases e1
          cases e2
          exact k3.mono fun a ⟨w, y⟩ => ⟨⟨w, List.mem_append_left _ y⟩, (k1 _ y).2.2⟩
        · exact (h3 i v t (by omega) e1 e2).mono fun a ⟨⟨w, y⟩, y'⟩ => ⟨⟨w, List.mem_append_right _ y⟩, y'⟩
      · by_cases hi : i = n
        · subst hi
          rw [ev] at e1
          rw [eu] at e2
          cases e1
          cases e2
          exact k4 H' (fun p y => q p (List.mem_append_left _ y)) im
        · exact h4 H' (fun p y => q p (List.mem_append_right _ y)) im i v u' (by omega) e1 e2
    · refine ⟨L, fun p z => ?_, h2, fun i v t z e1 e2 => ?_, fun H' q im i v u z e1 e2 => ?_⟩
      · obtain ⟨y1, y2, i, y3, y4⟩ := h1 p z
        exact ⟨y1, y2, i, Nat.lt_succ_of_lt y3, y4⟩
      · have : i < ts.length := (List.getElem?_eq_some_iff.mp e2).1
        exact h3 i v t (by omega) e1 e2
      · have : i < us.length := (List.getElem?_eq_some_iff.mp e2).1
        exact h4 H' q im i v u (by omega) e1 e2
theorem Rep.lkd {H : Hp} {v : V} {t : T} {F : FP} (h : Rep Γ H v t F) : ∀ t', lockD t = some t' → ∃ L, Lkd Γ H v t t' F L := by
  induction h with
  | non => intro t' e; unfold lockD at e; cases e; exact ⟨[], fun p z => by simp at z, List.nodup_nil, .non, fun _ _ _ => ⟨.non, rfl⟩⟩
  | bl b => intro t' e; unfold lockD at e; cases e; exact ⟨[], fun p z => by simp at z, List.nodup_nil, .bl b, fun _ _ _ => ⟨.bl b, rfl⟩⟩
  | int i => intro t' e; unfold lockD at e; cases e; exact ⟨[], fun p z => by simp at z, List.nodup_nil, .int i, fun _ _ _ => ⟨.int i, rfl⟩⟩
  | str x => intro t' e; unfold lockD at e; cases e; exact ⟨[], fun p z => by simp at z, List.nodup_nil, .str x, fun _ _ _ => ⟨.str x, rfl⟩⟩
  | @nd F k a vs ts Fs hat hl hm hk hd hs ih =>
    intro t' e
    have self : ∀ {us : List T}, lockDs ts = some us → _ := fun {us} e1 => lkd_kids (Γ := Γ) (H := H) (vs := vs) (ts := ts) (us := us) (Fs := Fs) hl (lockDs_get e1).1 (lockDs_get e1).2 (fun i v t u q1 q2 q3 => ih i v t q1 q2 u q3) hd ts.length
    have imc : (T.nd k ts).im = true → k.ow = false → ∃ L, Lkd Γ H (.ref a) (.nd k ts) (.nd k ts) F L := fun im ho => by
      have r : Rep Γ H (.ref a) (.nd k ts) F := .nd hat hl hm hk hd hs
      exact ⟨[], fun p z => by simp at z, List.nodup_nil, r.im im _, fun H' _ imm => ⟨(r.im im FE).frame (fun _ _ z => z.elim) imm, im⟩⟩
    have own : ∀ {o : HO} {k' : Kd} {us : List T}, k.ow = true → H a = some o → Mu2 o → lockDs ts = some us → (T.imAll us = true → (T.nd k' us).im = true) → (∀ H' od, H' a = some (.frz od o) → At Γ H' k' a vs) → k'.ow = false → ∃ L, Lkd Γ H (.ref a) (.nd k ts) (.nd k' us) F L := fun {o k' us} ho ha mu e1 hi hA ho' => by
      obtain ⟨L, h1, h2, h3, h4⟩ := self e1
      have na : ∀ p ∈ L, p.1 ≠ a := fun p z q => by
        obtain ⟨_, _, i, _, y⟩ := h1 p z
        exact (hm ho).2 i (q ▸ y)
      refine ⟨(a, o) :: L, fun p z => ?_, ?_, ?_, fun H' q im => ?_⟩
      · rcases List.mem_cons.mp z with z | z
        · subst z; exact ⟨ha, mu, (hm ho).1⟩
        · obtain ⟨y1, y2, i, _, y⟩ := h1 p z
          exact ⟨y1, y2, hs i _ y⟩
      · rw [List.map_cons, List.nodup_cons]
        refine ⟨fun z => ?_, h2⟩
        obtain ⟨p, hp, e⟩ := List.mem_map.mp z
        exact na p hp e
      · refine .nd (Fs := fun i b => inL L b ∧ Fs i b) hat hl (fun _ => ⟨⟨o, List.mem_cons_self⟩, fun i z => (hm ho).2 i z.2⟩) (fun i v t q1 q2 => h3 i v t (List.getElem?_eq_some_iff.mp q2).1 q1 q2) (fun i j b ne z z' => hd i j b ne z.2 z'.2) fun i b z => z.1.elim fun u y => ⟨u, List.mem_cons_of_mem _ y⟩
      · obtain ⟨od, hod⟩ := q (a, o) List.mem_cons_self
        have kk := h4 H' (fun p z => q p (List.mem_cons_of_mem _ z)) im
        have hlu := (lockDs_get e1).1
        refine ⟨.nd (Fs := fun _ => FE) (hA H' od hod) (by rw [hl, hlu]) (fun m => by rw [ho'] at m; cases m) (fun i v u q1 q2 => (kk i v u (by have := (List.getElem?_eq_some_iff.mp q2).1; omega) q1 q2).1) (fun _ _ _ _ z => z.elim) (fun _ _ z => z.elim), hi (imAll_iff.mpr fun i u q2 => ?_)⟩
        have : i < us.length := (List.getElem?_eq_some_iff.mp q2).1
        exact (kk i _ u (by omega) (List.getElem?_eq_getElem (by omega)) q2).2
    unfold lockD at e
    cases k with
    | lst =>
      simp only at e
      cases e1 : lockDs ts with
      | none => rw [e1] at e; cases e
      | some us =>
        rw [e1] at e
        cases e
        exact own rfl hat ⟨trivial, fun z => z⟩ e1 (fun z => by rw [im_fz]; exact z) (fun H' od q => .inl ⟨od, q⟩) rfl
    | dK ks =>
      simp only at e
      cases e1 : lockDs ts with
      | none => rw [e1] at e; cases e
      | some us =>
        rw [e1] at e
        cases e
        exact own rfl hat.2 ⟨trivial, fun z => z⟩ e1 (fun z => by rw [im_fK]; exact z) (fun H' od q => ⟨hat.1, od, q⟩) rfl
    | tup =>
      simp only at e
      cases e1 : lockDs ts with
      | none => rw [e1] at e; cases e
      | some us =>
        rw [e1] at e
        cases e
        obtain ⟨L, h1, h2, h3, h4⟩ := self e1
        refine ⟨L, fun p z => ?_, h2, ?_, fun H' q im => ?_⟩
        · obtain ⟨y1, y2, i, _, y⟩ := h1 p z
          exact ⟨y1, y2, hs i _ y⟩
        · exact .nd (Fs := fun i b => inL L b ∧ Fs i b) hat hl (fun m => nomatch m) (fun i v t q1 q2 => h3 i v t (List.getElem?_eq_some_iff.mp q2).1 q1 q2) (fun i j b ne z z' => hd i j b ne z.2 z'.2) fun i b z => z.1
        · have kk := h4 H' q im
          have hlu := (lockDs_get e1).1
          refine ⟨.nd (k := .tup) (Fs := fun _ => FE) (im _ _ trivial hat) (by rw [hl, hlu]) (fun m => nomatch m) (fun i v u q1 q2 => (kk i v u (by have := (List.getElem?_eq_some_iff.mp q2).1; omega) q1 q2).1) (fun _ _ _ _ z => z.elim) (fun _ _ z => z.elim), ?_⟩
          rw [im_tup]
          refine imAll_iff.mpr fun i u q2 => ?_
          have : i < us.length := (List.getElem?_eq_some_iff.mp q2).1
          exact (kk i _ u (by omega) (List.getElem?_eq_getElem (by omega)) q2).2
    | fz =>
      simp only at e
      by_cases im : T.imAll ts = true
      · rw [if_pos im] at e
        cases e
        exact imc (by rw [im_fz]; exact im) rfl
      · rw [if_neg im] at e; cases e
    | fK ks =>
      simp only at e
      by_cases im : T.imAll ts = true
      · rw [if_pos im] at e
        cases e
        exact imc (by rw [im_fK]; exact im) rfl
      · rw [if_neg im] at e; cases e
    | _ => cases e
def tLkE : Nat → TE → TE
  | 0, t => t
  | n + 1, t => tLockE (tLkE n t)
def tLkS : Nat → TS → TS
  | 0, t => t
  | n + 1, t => tLock (tLkS n t)
theorem pe_lkN {t : TE} (h : PE X e t) : ∀ n, PE X e (tLkE n t)
  | 0 => h
  | n + 1 => pe_lock (pe_lkN h n)
theorem ps_lkN {st : Stmt} {t : TS} (h : PS X st t) : ∀ n, PS X st (tLkS n t)
  | 0 => h
  | n + 1 => ps_lock (ps_lkN h n)
theorem pe_lkA {t : TE} (h : PE X e t) : PE X e (fun σ H Q => ∃ n, tLkE n t σ H Q) := ⟨fun pins s σ H Q I ⟨n, q⟩ => (pe_lkN h n).run pins s σ H Q I q⟩
theorem ps_lkA {st : Stmt} {t : TS} (h : PS X st t) : PS X st (fun D σ H => ∃ n, tLkS n t D σ H) := ⟨fun pins s σ H D I ⟨n, q⟩ => (ps_lkN h n).run pins s σ H D I q⟩
theorem GoodL.tail {p : Addr × HO} {L : LL} {H : Hp} (g : GoodL (p :: L) H) (od : Obj) : GoodL L (upd H p.1 (.frz od p.2)) := by
  have nd := g.nd
  rw [List.map_cons, List.nodup_cons] at nd
  refine ⟨fun q z => ?_, nd.2⟩
  have : q.1 ≠ p.1 := fun y => nd.1 (y ▸ List.mem_map.mpr ⟨q, z, rfl⟩)
  rw [upd_ne this]
  exact g.at' q (List.mem_cons_of_mem _ z)
theorem LkL.cons {p : Addr × HO} {L : LL} {H H1 : Hp} {od : Obj} (g : GoodL (p :: L) H) (l : LkL L (upd H p.1 (.frz od p.2)) H1) : LkL (p :: L) H H1 ∧ H1 p.1 = some (.frz od p.2) := by
  have nd := g.nd
  rw [List.map_cons, List.nodup_cons] at nd
  have np : ¬ inL L p.1 := fun ⟨u, z⟩ => nd.1 (List.mem_map.mpr ⟨_, z, rfl⟩)
  have e1 : H1 p.1 = some (.frz od p.2) := by rw [l.off _ np, upd_same]
  refine ⟨⟨fun b nb => ?_, fun q z => ?_⟩, e1⟩
  · have h1 : b ≠ p.1 := fun y => nb ⟨p.2, by rw [y]; exact List.mem_cons_self⟩
    rw [l.off b fun ⟨u, z⟩ => nb ⟨u, List.mem_cons_of_mem _ z⟩, upd_ne h1]
  · rcases List.mem_cons.mp z with z | z
    · subst z; exact ⟨od, e1⟩
    · exact l.on q z
theorem unL_cons {p : Addr × HO} {L : LL} {H H2 : Hp} (g : GoodL (p :: L) H) : upd (unL L H2) p.1 p.2 = unL (p :: L) H2 := by
  funext b
  unfold unL
  show _ = match (match b == p.1 with | true => some p.2 | false => L.lookup b) with
    | some u => some u
    | none => H2 b
  by_cases h : b = p.1
  · subst h
    rw [upd_same, show (p.1 == p.1) = true from beq_self_eq_true _]
  · rw [upd_ne h, show (b == p.1) = false from beq_eq_false_iff_ne.mpr h]
theorem unL_np {p : Addr × HO} {L : LL} {H H2 : Hp} (g : GoodL (p :: L) H) : unL L H2 p.1 = H2 p.1 := by
  have nd := g.nd
  rw [List.map_cons, List.nodup_cons] at nd
  exact unL_off fun ⟨u, z⟩ => nd.1 (List.mem_map.mpr ⟨_, z, rfl⟩)
theorem tLkE_in {t : TE} {σ : L2.St} : ∀ (L : LL) (H : Hp) (Q : VK), GoodL L H → (∀ (H1 : Hp) (Q' : VK), LkL L H H1 → (∀ v H2, (∀ p ∈ L, H2 p.1 = H1 p.1) → Q v (unL L H2) → Q' v H2) → t σ H1 Q') → tLkE L.length t σ H Q
  | [], H, Q, g, h => h H Q ⟨fun _ _ => rfl, fun p z => by simp at z⟩ fun v H2 _ q => q
  | p :: L, H, Q, g, h => by
    refine ⟨p.1, p.2, (g.at' p List.mem_cons_self).1, (g.at' p List.mem_cons_self).2.1, fun od => ?_⟩
    refine tLkE_in L _ _ (g.tail od) fun H1 Q' l k => ?_
    obtain ⟨l2, e1⟩ := LkL.cons g l
    refine h H1 Q' l2 fun v H2 hp q => k v H2 (fun q z => hp q (List.mem_cons_of_mem _ z)) ⟨?_, ?_⟩
    · rw [unL_np g, hp p List.mem_cons_self, e1]
    · rw [unL_cons g]; exact q
theorem tLkS_in {t : TS} {σ : L2.St} : ∀ (L : LL) (H : Hp) (D : Ends), GoodL L H → (∀ (H1 : Hp) (D' : Ends), LkL L H H1 →
      (∀ σ' H2, (∀ p ∈ L, H2 p.1 = H1 p.1) → D.nx σ' (unL L H2) → D'.nx σ' H2) → (∀ σ' H2, (∀ p ∈ L, H2 p.1 = H1 p.1) → D.bk σ' (unL L H2) → D'.bk σ' H2) → (∀ σ' H2, (∀ p ∈ L, H2 p.1 = H1 p.1) → D.ct σ' (unL L H2) → D'.ct σ' H2) →
      (∀ v H2, (∀ p ∈ L, H2 p.1 = H1 p.1) → D.rt v (unL L H2) → D'.rt v H2) → t D' σ H1) → tLkS L.length t D σ H
  | [], H, D, g, h => h H D ⟨fun _ _ => rfl, fun p z => by simp at z⟩ (fun _ _ _ q => q) (fun _ _ _ q => q) (fun _ _ _ q => q) fun _ _ _ q => q
  | p :: L, H, D, g, h => by
    refine ⟨p.1, p.2, (g.at' p List.mem_cons_self).1, (g.at' p List.mem_cons_self).2.1, fun od => ?_⟩
    refine tLkS_in L _ _ (g.tail od) fun H1 D' l k1 k2 k3 k4 => ?_
    obtain ⟨l2, e1⟩ := LkL.cons g l
    refine h H1 D' l2 (fun v H2 hp q => k1 v H2 (fun q z => hp q (List.mem_cons_of_mem _ z)) ⟨?_, ?_⟩) (fun v H2 hp q => k2 v H2 (fun q z => hp q (List.mem_cons_of_mem _ z)) ⟨?_, ?_⟩) (fun v H2 hp q => k3 v H2 (fun q z => hp q (List.mem_cons_of_mem _ z)) ⟨?_, ?_⟩) fun v H2 hp q => k4 v H2 (fun q z => hp q (List.mem_cons_of_mem _ z)) ⟨?_, ?_⟩
    all_goals first
      | (rw [unL_np g, hp p List.mem_cons_self, e1]; done)
      | (rw [unL_cons g]; exact q)
end
end VT
namespace VT
open PySem PySem.Spec PyProof.Rows L2
mutual
def T.nk : T → Bool
  | .nd .fz _ => false
  | .nd (.fK _) _ => false
  | .nd _ ts => T.nkAll ts
  | _ => true
def T.nkAll : List T → Bool
  | [] => true
  | t :: ts => t.nk && T.nkAll ts
end
def nkL : TSt → Bool
  | [] => true
  | none :: S => nkL S
  | some t :: S => t.nk && nkL S
theorem nkAll_get : ∀ {ts : List T} {i : Nat} {t : T}, T.nkAll ts = true → ts[i]? = some t → t.nk = true
  | [], _, _, _, e => by cases e
  | u :: ts, 0, t, h, e => by
    cases e
    unfold T.nkAll at h
    rw [Bool.and_eq_true] at h
    exact h.1
  | u :: ts, i + 1, t, h, e => by
    unfold T.nkAll at h
    rw [Bool.and_eq_true] at h
    exact nkAll_get (ts := ts) h.2 (by simpa using e)
theorem nkL_get : ∀ {S : TSt} {i : Nat} {t : T}, nkL S = true → S[i]? = some (some t) → t.nk = true
  | [], _, _, _, e => by cases e
  | none :: S, 0, t, h, e => by cases e
  | some u :: S, 0, t, h, e => by
    cases e
    unfold nkL at h
    rw [Bool.and_eq_true] at h
    exact h.1
  | none :: S, i + 1, t, h, e => nkL_get (S := S) (by unfold nkL at h; exact h) (by simpa using e)
  | some u :: S, i + 1, t, h, e => by
    unfold nkL at h
    rw [Bool.and_eq_true] at h
    exact nkL_get (S := S) h.2 (by simpa using e)
section
variable {Γ : Gx} {ar : Fx} {W : WX} {X : Cx} {e : Expr} {g : BF} {pl : PF} {pos : Pos}
theorem nk_kids {k : Kd} {ts : List T} (h : (T.nd k ts).nk = true) : k ≠ .fz ∧ (∀ ks, k ≠ .fK ks) ∧ T.nkAll ts = true := by
  cases k with
  | fz => exact absurd h (by unfold T.nk; decide)
  | fK ks => exact absurd h (by unfold T.nk; exact Bool.false_ne_true)
  | tup => exact ⟨(fun z => nomatch z), (fun _ z => nomatch z), by unfold T.nk at h; exact h⟩
  | lst => exact ⟨(fun z => nomatch z), (fun _ z => nomatch z), by unfold T.nk at h; exact h⟩
  | dK _ => exact ⟨(fun z => nomatch z), (fun _ z => nomatch z), by unfold T.nk at h; exact h⟩
  | dT _ => exact ⟨(fun z => nomatch z), (fun _ z => nomatch z), by unfold T.nk at h; exact h⟩
  | any => exact ⟨(fun z => nomatch z), (fun _ z => nomatch z), by unfold T.nk at h; exact h⟩
  | obj _ _ => exact ⟨(fun z => nomatch z), (fun _ z => nomatch z), by unfold T.nk at h; exact h⟩
theorem Rep.thawN {H H' : Hp} {v : V} {t : T} {F : FP} (h : Rep Γ H v t F) (nk : t.nk = true) (hH : ∀ b, H' b = H b ∨ ∃ od u, H b = some (.frz od u)) : Rep Γ H' v t F := by
  induction h with
  | non => exact .non
  | bl b => exact .bl b
  | int i => exact .int i
  | str x => exact .str x
  | @nd F k a vs ts Fs hat hl hm hk hd hs ih =>
    obtain ⟨n1, n2, n3⟩ := nk_kids nk
    have ne : ∀ {o' : HO}, H a = some o' → (∀ q z, o' ≠ .frz q z) → H' a = some o' := fun {o'} e n => by
      rcases hH a with z | ⟨od, u, z⟩
      · rw [z]; exact e
      · rw [e] at z; exact absurd (Option.some.inj z) (n od u)
    refine .nd (Fs := Fs) ?_ hl hm (fun i v t e1 e2 => ih i v t e1 e2 (nkAll_get n3 e2)) hd hs
    cases k with
    | tup => exact ne hat fun q z y => nomatch y
    | lst => exact ne hat fun q z y => nomatch y
    | fz => exact absurd rfl n1
    | fK ks => exact absurd rfl (n2 ks)
    | any => trivial
    | dK ks => exact ⟨hat.1, ne hat.2 fun q z y => nomatch y⟩
    | dT ks => exact ⟨hat.1, ne hat.2 fun q z y => nomatch y⟩
    | obj c ns =>
      obtain ⟨h1, dx, h2⟩ := hat
      exact ⟨h1, dx, ne h2 fun q z y => nomatch y⟩
theorem RepS.thawN {H H' : Hp} {σ : L2.St} {S : TSt} {F : FP} (R : RepS Γ ar H σ S F) (nk : nkL S = true) (hH : ∀ b, H' b = H b ∨ ∃ od u, H b = some (.frz od u)) (al' : ∀ a, F a → H' a ≠ none) : RepS Γ ar H' σ S F := by
  obtain ⟨len, arg, ⟨Fs, h1, h2, h3⟩, al⟩ := R
  refine ⟨len, arg, ⟨Fs, fun i t e => ?_, h2, h3⟩, al'⟩
  obtain ⟨v, e1, r⟩ := h1 i t e
  exact ⟨v, e1, r.thawN (nkL_get nk e) hH⟩
theorem RepS.hushL {H : Hp} {σ : L2.St} {F : FP} : ∀ (ws : List Nat) {S : TSt}, RepS Γ ar H σ S F → RepS Γ ar H σ (wipeS S ws) F := fun ws {S} R => by
  obtain ⟨len, arg, ⟨Fs, h1, h2, h3⟩, al⟩ := R
  exact ⟨by rw [wipeS_length]; exact len, arg, ⟨Fs, fun i t e => h1 i t (wipeS_some e).1, h2, h3⟩, al⟩
theorem focus2 {H : Hp} : ∀ (p : List Nat) {v : V} {t t1 : T} {F : FP}, Rep Γ H v t F → tAt p t = some t1 →
    ∃ v1 G, vAt H p v = some v1 ∧ Rep Γ H v1 t1 G ∧ (∀ a, G a → F a) ∧
      (∀ H' t2 G', KeIn H H' F G → (∀ a, G' a → G a ∨ ¬ F a) → Rep Γ H' v1 t2 G' → Rep Γ H' v (tPut p t t2) (fun a => (F a ∧ ¬ G a) ∨ G' a)) ∧ ∀ H', KeIn H H' F G → vAt H' p v = some v1
  | [], v, t, t1, F, h, e => by
    have e' : t = t1 := Option.some.inj e
    subst e'
    exact ⟨v, F, rfl, h, fun _ z => z, fun H' t2 G' _ _ r => r.mono fun a g => .inr g, fun _ _ => rfl⟩
  | i :: p, v, t, t1, F, h, e => by
    cases h with
    | non => cases e
    | bl b => cases e
    | int j => cases e
    | str x => cases e
    | @nd _ k a vs ts Fs hat hl hm hk hd hs =>
      simp only [tAt] at e
      by_cases mu : k.mu = true
      · rw [if_pos mu] at e
        cases eu : ts[i]? with
        | none => rw [eu] at e; cases e
        | some u =>
          rw [eu] at e
          have e1 : tAt p u = some t1 := e
          have hi : i < ts.length := (List.getElem?_eq_some_iff.mp eu).1
          obtain ⟨vi, ev⟩ : ∃ vi, vs[i]? = some vi := ⟨vs[i]'(by omega), List.getElem?_eq_getElem (by omega)⟩
          obtain ⟨v1, G, hv, hr, hg, back, side⟩ := focus2 p (hk i vi u ev eu) e1
          obtain ⟨o, ho, hko⟩ := hat.kids mu
          have nGa : k.ow = true → ¬ G a := fun m z => (hm m).2 i (hg a z)
          refine ⟨v1, G, ?_, hr, fun b z => hs i b (hg b z), fun H' t2 G' ke nw r => ?_, fun H' ke => ?_⟩
          · show (H a).bind _ = _
            rw [ho]
            show (VT.kids o)[i]?.bind _ = _
            rw [hko, ev]
            exact hv
          · have nG'a : k.ow = true → ¬ G' a := fun m z => (nw a z).elim (nGa m) fun q => q (hm m).1
            have eg : ts.getD i .non = u := by rw [List.getD_eq_getElem?_getD, eu]; rfl
            show Rep Γ H' (.ref a) (.nd k (ts.set i (tPut p (ts.getD i .non) t2))) _
            rw [eg]
            refine .nd (Fs := fun j => if j = i then (fun b => (Fs i b ∧ ¬ G b) ∨ G' b) else Fs j) (hat.keep (fun m o' e' => ke.keep a o' (hm m).1 (nGa m) e') ke.imm) (by rw [List.length_set]; exact hl) (fun m => ⟨.inl ⟨(hm m).1, nGa m⟩, fun j => ?_⟩) (fun j w s e1 e2 => ?_) (fun j j' b ne z z' => ?_) fun j b z => ?_
            · by_cases hj : j = i
              · rw [if_pos hj]
                rintro (z | z)
                · exact (hm m).2 i z.1
                · exact nG'a m z
              · rw [if_neg hj]
                exact (hm m).2 j
            · by_cases hj : j = i
              · subst hj
                rw [if_pos rfl]
                rw [List.getElem?_set_self hi] at e2
                have ew : w = vi := Option.some.inj (e1.symm.trans ev)
                subst ew
                have es : tPut p u t2 = s := Option.some.inj e2
                rw [← es]
                exact back H' t2 G' ⟨fun b o f n q => ke.keep b o (hs j b f) n q, ke.imm⟩ (fun b z => (nw b z).elim .inl fun q => .inr fun f => q (hs j b f)) r
              · rw [if_neg hj]
                rw [List.getElem?_set_ne (Ne.symm hj)] at e2
                exact (hk j w s e1 e2).frame (fun b o f q => ke.keep b o (hs j b f) (fun g => hd j i b hj f (hg b g)) q) ke.imm
            · have aux : ∀ m, m ≠ i → ((Fs i b ∧ ¬ G b) ∨ G' b) → Fs m b → False := fun m hmi y y' => by
                rcases y with y | y
                · exact hd i m b (Ne.symm hmi) y.1 y'
                · rcases nw b y with g | g
                  · exact hd i m b (Ne.symm hmi) (hg b g) y'
                  · exact g (hs m b y')
              by_cases hj : j = i
              · by_cases hj' : j' = i
                · exact ne (hj.trans hj'.symm)
                · rw [if_pos hj] at z
                  rw [if_neg hj'] at z'
                  exact aux j' hj' z z'
              · rw [if_neg hj] at z
                by_cases hj' : j' = i
                · rw [if_pos hj'] at z'
                  exact aux j hj z' z
                · rw [if_neg hj'] at z'
                  exact hd j j' b ne z z'
            · by_cases hj : j = i
              · rw [if_pos hj] at z
                rcases z with z | z
                · exact .inl ⟨hs i b z.1, z.2⟩
                · exact .inr z
              · rw [if_neg hj] at z
                exact .inl ⟨hs j b z, fun g => hd j i b hj z (hg b g)⟩
          · show (H' a).bind _ = _
            rw [hat.stay mu ho (fun m => ke.keep a o (hm m).1 (nGa m) ho) ke.imm]
            show (VT.kids o)[i]?.bind _ = _
            rw [hko, ev]
            exact side H' ⟨fun b o f n q => ke.keep b o (hs i b f) n q, ke.imm⟩
      · rw [if_neg mu] at e
        cases e
/-- a place of a slot locked -/
theorem lock_slot {H : Hp} {σ : L2.St} {S : TSt} {F : FP} {i : Nat} {p : List Nat} {t u w : T} (R : RepS Γ ar H σ S F) (e0 : sl S i = some t) (e1 : tAt p t = some u) (el : lockD u = some w) :
    ∃ v0 F1 Gi L, σ[i]? = some (some v0) ∧ Rep Γ H v0 t Gi ∧ RepS Γ ar H σ (S.set i none) F1 ∧ (∀ a, F1 a → Gi a → False) ∧ (∀ a, F1 a → F a) ∧ (∀ a, Gi a → F a) ∧ GoodL L H ∧ (∀ a, inL L a → Gi a) ∧
      ∀ H1, LkL L H H1 → RepS Γ ar H1 σ (S.set i none) F1 ∧ ∃ v G', vAt H1 p v0 = some v ∧ Rep Γ H1 v0 (tPut p t w) G' ∧ (∀ a, G' a → Gi a) ∧ Rep Γ H1 v w FE ∧ w.im = true := by
  obtain ⟨v0, F1, Gi, ev0, rv, R1, d1, s1, s2⟩ := R.take (sl_some.mp e0)
  obtain ⟨v, G, b1, b2, b3, back, side⟩ := VT.focus2 p rv e1
  obtain ⟨L, h1, h2, h3, h4⟩ := b2.lkd w el
  have gl : GoodL L H := ⟨fun q z => ⟨(h1 q z).1, (h1 q z).2.1⟩, h2⟩
  have hG : ∀ a, inL L a → G a := fun a ⟨o, z⟩ => (h1 _ z).2.2
  refine ⟨v0, F1, Gi, L, ev0, rv, R1, d1, s1, s2, gl, fun a z => b3 a (hG a z), fun H1 l => ?_⟩
  have ke := l.ke gl
  obtain ⟨rw1, im⟩ := h4 H1 l.on ke.imm
  have rb := back H1 w FE ⟨fun b o _ n q => ke.keep b o q fun z => n (hG b z), ke.imm⟩ (fun _ z => z.elim) rw1
  refine ⟨R1.ke ke fun a f z => d1 a f (b3 a (hG a z)), v, _, ?_, rb, fun a z => z.elim (fun z => z.1) fun z => z.elim, rw1, im⟩
  exact side H1 ⟨fun b o _ n q => ke.keep b o q fun z => n (hG b z), ke.imm⟩
/-- .. and behind it -/
theorem unlock_slot {H H1 H2 : Hp} {σ' : L2.St} {S2 : TSt} {F F1 F2 Gi : FP} {i : Nat} {v0 : V} {t : T} {L : LL} {ws : List Nat} (rv : Rep Γ H v0 t Gi) (d1 : ∀ a, F1 a → Gi a → False) (s1 : ∀ a, F1 a → F a) (s2 : ∀ a, Gi a → F a) (gl : GoodL L H) (hL : ∀ a, inL L a → Gi a) (l : LkL L H H1) (alG : ∀ a, Gi a → H a ≠ none)
    (R2 : RepS Γ ar H2 σ' S2 F2) (hv : σ'[i]? = some (some v0)) (u : Upd H1 H2 F1 F2) (nk : nkL (wipeS S2 ws) = true) :
    RepS Γ ar (unL L H2) σ' ((wipeS S2 ws).set i (some t)) (FU F2 Gi) ∧ Upd H (unL L H2) F (FU F2 Gi) ∧ (∀ a, F2 a → Gi a → False) ∧ (∀ a, Gi a → unL L H2 a ≠ none) ∧ (∀ p ∈ L, H2 p.1 = H1 p.1) ∧ ∀ b, unL L H2 b = H2 b ∨ ∃ od u, H2 b = some (.frz od u) := by
  have fz : ∀ p ∈ L, H2 p.1 = H1 p.1 := fun p z => by
    obtain ⟨od, e⟩ := l.on p z
    rw [e]
    exact u.imm _ _ trivial e
  have ff : ∀ b, unL L H2 b = H2 b ∨ ∃ od u, H2 b = some (.frz od u) := fun b => by
    by_cases z : inL L b
    · obtain ⟨o, z⟩ := z
      obtain ⟨od, e⟩ := l.on _ z
      exact .inr ⟨od, o, (fz _ z).trans e⟩
    · exact .inl (unL_off z)
  have d2 : ∀ a, F2 a → Gi a → False := fun a f gi => (u.new a f).elim (fun z => d1 a z gi) fun z => by
    by_cases y : inL L a
    · obtain ⟨o, y⟩ := y
      obtain ⟨od, e⟩ := l.on _ y
      simp only at e
      rw [e] at z; cases z
    · rw [l.off a y] at z
      exact alG a gi z
  have ke := un_ke gl l (FU F1 Gi) (fun a z => .inr (hL a z)) (H2 := H2) (fun b o e n => u.keep b o e fun f => n (.inl f)) u.imm
  have gi : ∀ a o, Gi a → H a = some o → unL L H2 a = some o := fun a o ga e => by
    by_cases z : inL L a
    · obtain ⟨o', z⟩ := z
      rw [ke.2 a o' z]; exact e
    · rw [unL_off z]
      exact u.keep a o (by rw [l.off a z]; exact e) fun f => d1 a f ga
  have rv' : Rep Γ (unL L H2) v0 t Gi := rv.frame (fun a o ga e => gi a o ga e) ke.1.imm
  have al2 : ∀ a, Gi a → unL L H2 a ≠ none := fun a ga => by
    cases e : H a with
    | none => exact absurd e (alG a ga)
    | some o => rw [gi a o ga e]; exact fun z => nomatch z
  have R3 := (R2.hushL ws).thawN nk ff fun a f => by
    rw [unL_off fun z => d2 a f (hL a z)]
    exact R2.al a f
  refine ⟨R3.give hv rv' d2 al2, ⟨⟨fun b o e n => ke.1.keep b o e fun z => n (z.elim (s1 b) (s2 b)), ke.1.imm⟩, fun a z => ?_⟩, d2, al2, fz, ff⟩
  rcases z with z | z
  · rcases u.new a z with y | y
    · exact .inl (s1 a y)
    · by_cases q : inL L a
      · exact .inl (s2 a (hL a q))
      · rw [l.off a q] at y; exact .inr y
  · exact .inl (s2 a z)
def kLD4 (r : T) : Option T := if r.nk = true then some r else none
def kLD3 (g : BF) (S : TSt) (i : Nat) (p : List Nat) (t w : T) : Option T := (g (S.set i (some (tPut p t w)))).bind kLD4
def kLD2 (g : BF) (S : TSt) (i : Nat) (p : List Nat) (t u : T) : Option T := (lockD u).bind (kLD3 g S i p t)
def kLD1 (g : BF) (S : TSt) (i : Nat) (p : List Nat) (t : T) : Option T := (tAt p t).bind (kLD2 g S i p t)
def kLD0 (g : BF) (S : TSt) (x : Nat × List Nat) : Option T := (sl S x.1).bind (kLD1 g S x.1 x.2)
def bLkD (pl : PF) (g : BF) : BF := fun S => (pl S).bind (kLD0 g S)
theorem bLkD_q {S : TSt} : bLkD pl g S = (pl S).bind (kLD0 g S) := rfl
theorem kLD0_q {S : TSt} {i : Nat} {p : List Nat} : kLD0 g S (i, p) = (sl S i).bind (kLD1 g S i p) := rfl
theorem kLD1_q {S : TSt} {i : Nat} {p : List Nat} {t : T} : kLD1 g S i p t = (tAt p t).bind (kLD2 g S i p t) := rfl
theorem kLD2_q {S : TSt} {i : Nat} {p : List Nat} {t u : T} : kLD2 g S i p t u = (lockD u).bind (kLD3 g S i p t) := rfl
theorem kLD3_q {S : TSt} {i : Nat} {p : List Nat} {t w : T} : kLD3 g S i p t w = (g (S.set i (some (tPut p t w)))).bind kLD4 := rfl
theorem kLD4_q {r : T} : kLD4 r = if r.nk = true then some r else none := rfl
theorem n_lkD (pl : PF) (h : PE X e (rdN Γ ar g)) : PE X e (rdN Γ ar (bLkD pl g)) := PE.imp (pe_lkA h) fun σ H Q q => by
  obtain ⟨S, F, t, R, ee, k⟩ := q
  rw [bLkD_q] at ee
  cases q1 : pl S with
  | none => rw [q1] at ee; cases ee
  | some ip =>
    obtain ⟨i, p⟩ := ip
    rw [q1, Option.bind_some, kLD0_q] at ee
    cases q2 : sl S i with
    | none => rw [q2] at ee; cases ee
    | some t0 =>
      rw [q2, Option.bind_some, kLD1_q] at ee
      cases q3 : tAt p t0 with
      | none => rw [q3] at ee; cases ee
      | some u =>
        rw [q3, Option.bind_some, kLD2_q] at ee
        cases q4 : lockD u with
        | none => rw [q4] at ee; cases ee
        | some w =>
          rw [q4, Option.bind_some, kLD3_q] at ee
          cases q5 : g (S.set i (some (tPut p t0 w))) with
          | none => rw [q5] at ee; cases ee
          | some r =>
            rw [q5, Option.bind_some, kLD4_q] at ee
            by_cases nk : r.nk = true
            · rw [if_pos nk] at ee
              cases ee
              obtain ⟨v0, F1, Gi, L, ev, rv, R1, d1, s1, s2, gl, hL, lk⟩ := lock_slot R q2 q3 q4
              refine ⟨L.length, tLkE_in L H Q gl fun H1 Q' l kQ => ?_⟩
              obtain ⟨R2, v, G', hv, r2, g2, _⟩ := lk H1 l
              have alG : ∀ a, G' a → H1 a ≠ none := fun a ga => by
                by_cases z : inL L a
                · obtain ⟨o, z⟩ := z
                  obtain ⟨od, e1⟩ := l.on _ z
                  simp only at e1
                  rw [e1]; exact fun y => nomatch y
                · rw [l.off a z]; exact R.al a (s2 a (g2 a ga))
              have Rg := R2.give ev r2 (fun a f ga => d1 a f (g2 a ga)) alG
              rw [List.set_set] at Rg
              refine ⟨_, _, t, Rg, q5, fun v' H2 G s rr n => ?_⟩
              have fz : ∀ p ∈ L, H2 p.1 = H1 p.1 := fun p z => by
                obtain ⟨od, e⟩ := l.on p z
                rw [e]; exact s _ _ e
              refine kQ v' H2 fz (k v' _ G (fun b o eb => ?_) (rr.thawN nk fun b => ?_) ⟨fun a ga => ?_, fun a ga => ?_⟩)
              · by_cases z : inL L b
                · obtain ⟨o', z⟩ := z
                  rw [unL_on gl z, ← (gl.at' _ z).1]; exact eb
                · rw [unL_off z]; exact s b o (by rw [l.off b z]; exact eb)
              · by_cases z : inL L b
                · obtain ⟨o', z⟩ := z
                  obtain ⟨od, e⟩ := l.on _ z
                  exact .inr ⟨od, o', (fz _ z).trans e⟩
                · exact .inl (unL_off z)
              · have h1 := n.1 a ga
                by_cases z : inL L a
                · obtain ⟨o', z⟩ := z
                  obtain ⟨od, e⟩ := l.on _ z
                  simp only at e
                  rw [e] at h1; cases h1
                · rw [l.off a z] at h1; exact h1
              · by_cases z : inL L a
                · obtain ⟨o', z⟩ := z
                  rw [unL_on gl z]; exact fun y => nomatch y
                · rw [unL_off z]; exact n.2 a ga
            · rw [if_neg nk] at ee; cases ee
theorem RepS.pin {H : Hp} {σ : L2.St} {S : TSt} {F : FP} {i : Nat} {v0 : V} (R : RepS Γ ar H σ S F) (h : σ[i]? = some (some v0)) : RepS Γ (fixAt ar i v0) H σ S F := R.fix fun j w qj => by
  unfold fixAt at qj
  by_cases hj : j = i
  · rw [if_pos hj] at qj
    cases qj
    rw [hj]
    exact h
  · rw [if_neg hj] at qj
    exact R.arg j w qj
end
end VT
namespace VT
open PySem PySem.Spec PyProof.Rows L2
end VT
namespace VT
open PySem PySem.Spec PyProof.Rows L2
end VT
namespace VT
open PySem PySem.Spec PyProof.Rows L2
end VT
namespace VT
open PySem PySem.Spec PyProof.Rows L2
end VT
namespace VT
open PySem PySem.Spec PyProof.Rows L2
section
variable {Γ : Gx} {X : Cx}
def rEqL (K : PySem.W.Frag) (neg : Bool) : R2 := fun x y H Q => ∃ a b xs, x = .ref a ∧ y = .ref b ∧ SqL K H a xs ∧ SqL K H b [] ∧ Q (.bl (if neg then !xs.isEmpty else xs.isEmpty)) H
theorem op_neL (hu : X.A.units < cLine) : OpR X (compareOp .NotEq) (rEqL X.K true) := by
  intro pins s σ H x y v u Q I rx ry h
  obtain ⟨a, b, xs, rfl, rfl, ha, hb, q⟩ := h
  obtain rfl : v = Value.ref a := rx
  obtain rfl : u = Value.ref b := ry
  obtain ⟨its, r1, p1, _⟩ := I.list ha
  obtain ⟨its2, r2, p2, _⟩ := I.list hb
  cases r2
  have l1 := r1.length
  cases xs with
  | nil =>
    cases r1
    exact SeqAt.RcNeAt.lists (e := fun _ => true) p1.isList p2.isList rfl hu (fun j h1 h2 => absurd h2 (by simp)) _ _ _ _ ⟨.bl false, H, I, rfl, q⟩
  | cons x xs => exact SeqAt.RcNeAt.lists_lengths p1.isList p2.isList (by simp; intro z; rw [z] at l1; simp at l1) hu _ _ _ _ ⟨.bl true, H, I, rfl, q⟩
def kEq (neg : Bool) (ts : List T) : T → Option T
  | .nd .lst [] => some (.bl (if neg then !ts.isEmpty else ts.isEmpty))
  | _ => none
def eqLn (neg : Bool) (t1 t2 : T) : Option T := match t1 with
  | .nd .lst ts => kEq neg ts t2
  | .nd .fz ts => kEq neg ts t2
  | _ => none
def neL : T → T → Option T := eqLn true
theorem eqLn_ok {neg : Bool} : OpT Γ (rEqL Γ.K neg) (eqLn neg) := by
  intro H x y t1 t2 t G1 G2 Q r1 r2 e k
  have key : ∀ ts, (t1 = .nd .lst ts ∨ t1 = .nd .fz ts) → kEq neg ts t2 = some t → rEqL Γ.K neg x y H Q := fun ts ht e => by
    unfold kEq at e
    split at e
    · cases e
      obtain ⟨b, ws, rfl, hq2, hl2, _⟩ := r2.list (.inl rfl)
      have : ws = [] := List.eq_nil_of_length_eq_zero hl2
      subst this
      have : ∃ a vs, x = .ref a ∧ SqL Γ.K H a vs ∧ vs.length = ts.length := by
        rcases ht with rfl | rfl
        · obtain ⟨a, vs, rfl, hq, hl, _⟩ := r1.list (.inl rfl)
          exact ⟨a, vs, rfl, hq, hl⟩
        · obtain ⟨a, vs, rfl, hq, hl, _⟩ := r1.list (.inr rfl)
          exact ⟨a, vs, rfl, hq, hl⟩
      obtain ⟨a, vs, rfl, hq, hl⟩ := this
      have e2 : vs.isEmpty = ts.isEmpty := by cases vs <;> cases ts <;> simp_all
      refine ⟨a, b, vs, rfl, rfl, hq, hq2, ?_⟩
      rw [e2]
      exact k _ H FE (Same.refl H) (.bl _) new_FE
    · cases e
  unfold eqLn at e
  split at e
  · exact key _ (.inl rfl) e
  · exact key _ (.inr rfl) e
  · cases e
theorem neL_ok : OpT Γ (rEqL Γ.K true) neL := eqLn_ok
theorem neL_l {ts : List T} : neL (.nd .lst ts) (.nd .lst []) = some (.bl (!ts.isEmpty)) := rfl
theorem neL_f {ts : List T} : neL (.nd .fz ts) (.nd .lst []) = some (.bl (!ts.isEmpty)) := rfl
end
end VT
namespace VT
open PySem PySem.Spec PyProof.Rows L2
end VT
namespace VT
open PySem PySem.Spec PyProof.Rows L2
end VT
namespace VT
open PySem PySem.Spec PyProof.Rows L2
end VT
namespace VT
open PySem PySem.Spec PyProof.Rows L2
section
variable {Γ : Gx} {ar : Fx} {W : WX} {X : Cx} {pl : PF}
theorem b1_lc {elt tg iter : Expr} {ifs : List Expr} {scope : Scope} {own : List (Str × Nat)} {cond el gs : BF} {gg : TG} {tf : GF} (i : Nat) {y : Str} {py spos pos : Pos} (hc : X.calm = true) (hN : X.N.Nodup) (hsw : swapsWith (.ListComp elt [⟨tg, iter, ifs, 0⟩] scope pos) (some (.Name y py)) spos.line X.env = pure true) (tk : ∀ ar : Fx, (∀ v ∈ own.map (·.2), ar v = none) → TgW Γ ar (own.map (·.2)) gg tf) (hi : PE X iter (rdB Γ ar gs)) (ok : BlkOk X.N X.env.scope scope own) (hg : ∀ (s : Shared) (H : Hp) (C : Addr) (cl : List (Str × Addr)) (fp : List Addr), PG (X.blk s H scope (compEnvC scope cl C X.env) fp) tg gg)
    (ht : ∀ (s : Shared) (H : Hp) (C : Addr) (cl : List (Str × Addr)) (fp : List Addr), PTs (X.blk s H scope (compEnvC scope cl C X.env) fp) ifs (rdTBX Γ CT' cond)) (he : ∀ (s : Shared) (H : Hp) (C : Addr) (cl : List (Str × Addr)) (fp : List Addr), PE (X.blk s H scope (compEnvC scope cl C X.env) fp) elt (rdNX Γ CT' el))
    (hy : X.N[i]? = some y := by rfl) (hyl : X.env.scope.names.lookup y = some .local := by rfl) (hK : X.K = Γ.K := by rfl) (hs : ∀ x, foldedSetIterable iter X.env x = pure x := by intro _; rfl) :
    PS X (.Assign [.Name y py] (.ListComp elt [⟨tg, iter, ifs, 0⟩] scope pos) spos) (tAsg (rdN Γ ar (bLc (own.map (·.2)) tf gs cond el)) (gName i)) := by
  refine PS.imp (ps_setLc hc hN hy hyl hsw (pi_seq hi) ok hg ht he hs) fun D σ H q => ?_
  rw [hK]
  exact lcN_ok (tk _ free_ok.1) trivial q
end
end VT
namespace VT
open PySem PySem.Spec PyProof.Rows L2
end VT
namespace VT
open PySem PySem.Spec PyProof.Rows L2
end VT
namespace VT
open PySem PySem.Spec PyProof.Rows L2
end VT
namespace VT
open PySem PySem.Spec PyProof.Rows L2
end VT
namespace VT
open PySem PySem.Spec PyProof.Rows L2
end VT
namespace VT
open PySem L2
section
variable {Γ : Gx} {ar : Fx} {W : WX} {X : Cx} {pos : Pos}
/-- the list of a name, hidden, beside the names -/
structure Ld (Γ : Gx) (ar : Fx) (H1 : Hp) (F1 : FP) (a : Addr) (H : Hp) (σ : St) (S : TSt) (F Gi : FP) (L : List T) : Prop where
  rs : RepS Γ ar H σ S F
  rep : Rep Γ H (.ref a) (.nd .lst L) Gi
  dj : ∀ b, F b → Gi b → False
  al : ∀ b, Gi b → H b ≠ none
  up : Upd H1 H F1 (FU F Gi)
theorem fixAt_self {v : Nat} {y : V} : fixAt ar v y v = some y := by unfold fixAt; rw [if_pos rfl]
theorem fixAt_ne {v j : Nat} {y : V} (h : j ≠ v) : fixAt ar v y j = ar j := by unfold fixAt; rw [if_neg h]
theorem Ld.lend {H1 : Hp} {F1 : FP} {a : Addr} {H : Hp} {σ : St} {S : TSt} {F Gi : FP} {acc us : List T} {u : T} {ws : List V} {y : V} {v : Nat} (A : Ld Γ ar H1 F1 a H σ S F Gi (acc ++ u :: us)) (hws : H a = some (.lst ws)) (hy : ws[acc.length]? = some y) (hv : ar v = none) (hvl : v < S.length) :
    ∃ F0, RepS Γ (fixAt ar v y) H (σ.set v (some y)) (S.set v (some u)) F0 ∧
      ∀ H' σ' S2 F2 u', RepS Γ (fixAt ar v y) H' σ' S2 F2 → Upd H H' F0 F2 → sl S2 v = some u' →
        ∃ F3 Gi' G1, Ld Γ ar H1 F1 a H' σ' (S2.set v none) F3 Gi' (acc ++ u' :: us) ∧ H' a = some (.lst ws) ∧ σ'[v]? = some (some y) ∧ Rep Γ H' y u' G1 ∧
          (∀ b o, H b = some o → ¬ F b → ¬ Gi b → H' b = some o) ∧ (∀ b, F3 b ∨ Gi' b → (F b ∨ Gi b) ∨ H b = none) := by
  have hk : (acc ++ u :: us)[acc.length]? = some u := by rw [List.getElem?_append_right (Nat.le_refl _), Nat.sub_self]; rfl
  obtain ⟨v1, G, o, e1, r1, s1, na, ho, back⟩ := focusR A.rep rfl hk
  have ev : v1 = y := by
    have e1' : (H a).bind (fun o => (VT.kids o)[acc.length]?.bind fun v => some v) = some v1 := e1
    rw [hws] at e1'
    have e2 : (ws[acc.length]?).bind (fun v => some v) = some v1 := e1'
    rw [hy] at e2
    exact (Option.some.inj e2).symm
  subst ev
  have hvs : v < σ.length := by rw [← A.rs.len]; exact hvl
  have R0 := A.rs.put hv r1 (fun b f g => A.dj b f (s1 b g)) (fun b g => A.al b (s1 b g))
  refine ⟨FU F G, R0.fix fun j w q => ?_, fun H' σ' S2 F2 u' R2 u2 es => ?_⟩
  · by_cases hj : j = v
    · rw [hj, fixAt_self] at q
      cases q
      rw [hj, List.getElem?_set_self hvs]
    · rw [fixAt_ne hj] at q
      exact R0.arg j w q
  · obtain ⟨w, F3, G1, ew, rw', R4, d3, f3, g3⟩ := R2.take (sl_some.mp es)
    have ey : σ'[v]? = some (some v1) := R2.arg v v1 fixAt_self
    have ewy : w = v1 := Option.some.inj (Option.some.inj (ew.symm.trans ey))
    subst ewy
    have nw : ∀ b, F2 b → (F b ∨ G b) ∨ H b = none := fun b z => u2.new b z
    have nG : ∀ b, G1 b → G b ∨ ¬ Gi b := fun b z => (nw b (g3 b z)).elim (fun z => z.elim (fun f => .inr fun g => A.dj b f g) .inl) fun z => .inr fun g => A.al b g z
    have r2 := back H' u' G1 ⟨fun b o gi ng e => u2.keep b o e fun z => z.elim (fun f => A.dj b f gi) ng, u2.imm⟩ nG rw'
    have es : (acc ++ u :: us).set acc.length u' = acc ++ u' :: us := by rw [List.set_append_right _ _ (Nat.le_refl _), Nat.sub_self]; rfl
    rw [es] at r2
    have ag : Gi a := by
      have := A.rep
      cases this with
      | @nd _ _ a' vs _ Fs hat hl hm hk hd hs => exact (hm rfl).1
    have nf : ∀ b, Gi b → ¬ G b → ¬ FU F G b := fun b gi ng z => z.elim (fun f => A.dj b f gi) ng
    refine ⟨F3, fun b => (Gi b ∧ ¬ G b) ∨ G1 b, G1, ⟨R4.fix fun j w q => ?_, r2, fun b f g => ?_, fun b g => ?_, A.up.trans ⟨⟨fun b o e n => u2.keep b o e fun z => n (z.elim .inl fun g => .inr (s1 b g)), u2.imm⟩, fun b z => ?_⟩⟩, u2.keep a _ hws (nf a ag na), ey, rw', fun b o e nF nG => u2.keep b o e fun z => z.elim nF fun g => nG (s1 b g), fun b z => ?_⟩
    · have hj : j ≠ v := fun z => by rw [z, hv] at q; cases q
      exact R4.arg j w (by rw [fixAt_ne hj]; exact q)
    · rcases g with ⟨gi, ng⟩ | g
      · exact (nw b (f3 b f)).elim (fun z => z.elim (fun f => A.dj b f gi) ng) fun z => A.al b gi z
      · exact d3 b f g
    · rcases g with ⟨gi, ng⟩ | g
      · exact u2.toKe.al (A.al b gi) (nf b gi ng)
      · exact R2.al b (g3 b g)
    · rcases z with z | ⟨gi, _⟩ | z
      · exact (nw b (f3 b z)).imp (fun z => z.imp id (s1 b)) id
      · exact .inl (.inr gi)
      · exact (nw b (g3 b z)).imp (fun z => z.imp id (s1 b)) id
    · rcases z with z | ⟨gi, _⟩ | z
      · exact (nw b (f3 b z)).imp (fun z => z.imp id (s1 b)) id
      · exact .inl (.inr gi)
      · exact (nw b (g3 b z)).imp (fun z => z.imp id (s1 b)) id
/-- for v in P: each item lent to v, and put back -/
def runI (v : Nat) (body : SF) : List T → TSt → List T → Option (List T × TSt)
  | [], S, acc => some (acc, S)
  | u :: us, S, acc => (body (S.set v (some u))).bind fun rx => match rx with
    | (.nx, S2) => (sl S2 v).bind fun u' => if v < S2.length then runI v body us (S2.set v none) (acc ++ [u']) else none
    | _ => none
def kFL3 (i : Nat) (r : List T × TSt) : Option (Fl × TSt) := some (.nx, r.2.set i (some (.nd .lst r.1)))
def kFL2 (i v : Nat) (body : SF) (S : TSt) : T → Option (Fl × TSt)
  | .nd .lst us => if v < S.length then (runI v body us (S.set i none) []).bind (kFL3 i) else none
  | _ => none
def sForL (i v : Nat) (body : SF) : SF := fun S => (sl S i).bind (kFL2 i v body S)
theorem fix_loc2 {L L' : List Nat} {i v : Nat} {x y : V} (h : Loc' L ar) (hs : ∀ j ∈ L', j ≠ i ∧ j ≠ v ∧ j ∈ L) : Loc' L' (fixAt (fixAt ar i x) v y) := fun j hj => by
  rw [fixAt_ne (hs j hj).2.1, fixAt_ne (hs j hj).1]
  exact h j (hs j hj).2.2
theorem har_of {H : Hp} {σ : St} {S : TSt} {F : FP} {i : Nat} {v0 : V} (R : RepS Γ ar H σ S F) (h1 : σ[i]? = some (some v0)) {j : Nat} {w : V} (q : fixAt ar i v0 j = some w) : σ[j]? = some (some w) := by
  by_cases hj : j = i
  · rw [hj, fixAt_self] at q
    cases q
    rw [hj]
    exact h1
  · rw [fixAt_ne hj] at q
    exact R.arg j w q
theorem Ld.back {H1 : Hp} {F1 : FP} {a : Addr} {H : Hp} {σ : St} {S : TSt} {F Gi : FP} {L : List T} {i : Nat} {H0 : Hp} {σ0 : St} {S0 : TSt} {F0 : FP} (A : Ld Γ (fixAt ar i (.ref a)) H1 F1 a H σ S F Gi L) (R : RepS Γ ar H0 σ0 S0 F0) (h0 : σ0[i]? = some (some (.ref a))) :
    RepS Γ ar H σ (S.set i (some (.nd .lst L))) (FU F Gi) := by
  have hi : σ[i]? = some (some (.ref a)) := A.rs.arg i _ fixAt_self
  refine (A.rs.give hi A.rep A.dj A.al).fix fun j w q => ?_
  by_cases hj : j = i
  · have := R.arg j w q
    rw [hj, h0] at this
    rw [hj, hi]
    exact this
  · exact A.rs.arg j w (by rw [fixAt_ne hj]; exact q)
theorem forL_ok {L L' : List Nat} {i v : Nat} {body : SF} (hL : Loc' L ar) (hs' : ∀ j ∈ L', j ≠ i ∧ j ≠ v ∧ j ∈ L) (hv : ar v = none) (hiv : v ≠ i) {D : Ends} {σ : St} {H : Hp} (q : rdS Γ ar W (sForL i v body) D σ H) :
    tFor (iList Γ.K (tVar i)) (gName v) (rdSX Γ W (Loc' L') body) D σ H := by
  obtain ⟨S, F, fl, SN, R, ee, kk⟩ := q
  unfold sForL at ee
  cases q2 : sl S i with
  | none => rw [q2] at ee; cases ee
  | some t0 =>
    rw [q2, Option.bind_some] at ee
    unfold kFL2 at ee
    split at ee
    · rename_i us
      by_cases hvl : v < S.length
      · rw [if_pos hvl] at ee
        cases e3 : runI v body us (S.set i none) [] with
        | none => rw [e3] at ee; cases ee
        | some fin =>
          rw [e3, Option.bind_some] at ee
          cases ee
          obtain ⟨v0, F1, Gi, ev0, rv, R1, d1, s1, s2⟩ := R.take (sl_some.mp q2)
          obtain ⟨a, ws, rfl, hat, hl, _⟩ := rv.lstAt
          refine ⟨.ref a, ev0, a, rfl, ⟨ws, .inl (.inl hat)⟩, ?_⟩
          have A0 : Ld Γ (fixAt ar i (.ref a)) H F a H σ (S.set i none) F1 Gi us :=
            ⟨R1.fix fun j w q => har_of R ev0 q, rv, d1, fun b g => R.al b (s2 b g), ⟨Ke.refl H F, fun b z => .inl (z.elim (s1 b) (s2 b))⟩⟩
          refine for_list (K := Γ.K) (a := a) (xs := ws) (fun k σ' H' => ∃ S' F' Gi' acc rest, Ld Γ (fixAt ar i (.ref a)) H F a H' σ' S' F' Gi' (acc ++ rest) ∧ H' a = some (.lst ws) ∧ acc.length = k ∧ v < S'.length ∧ runI v body rest S' acc = some fin)
            ⟨_, F1, Gi, [], us, A0, hat, rfl, by rw [List.length_set]; exact hvl, e3⟩ (fun k σ' H' _ ⟨_, _, _, _, _, _, h, _⟩ => .inl (.inl h)) (fun k y σ' H' hy ⟨S', F', Gi', acc, rest, A, hw, hk, hvl', e'⟩ => ?_) fun σ' H' ⟨S', F', Gi', acc, rest, A, hw, hk, hvl', e'⟩ => ?_
          · subst hk
            have hlen : ws.length = (acc ++ rest).length := by
              obtain ⟨a', vs', z, h2, h3, _⟩ := A.rep.lstAt
              cases z
              rw [hw] at h2
              cases h2
              exact h3
            cases rest with
            | nil =>
              have := (List.getElem?_eq_some_iff.mp hy).1
              rw [List.append_nil] at hlen
              omega
            | cons u rest =>
              obtain ⟨F0, R0, cont⟩ := A.lend hw hy (by rw [fixAt_ne hiv]; exact hv) hvl'
              unfold runI at e'
              cases e1 : body (S'.set v (some u)) with
              | none => rw [e1] at e'; cases e'
              | some rx =>
                obtain ⟨fl1, S2⟩ := rx
                rw [e1, Option.bind_some] at e'
                cases fl1 with
                | nx =>
                  simp only at e'
                  refine ⟨_, fix_loc2 hL hs', _, F0, .nx, S2, R0, e1, fun σ2 H2 F2 R2 u2 => ?_⟩
                  cases e5 : sl S2 v with
                  | none => rw [e5] at e'; cases e'
                  | some u' =>
                    rw [e5, Option.bind_some] at e'
                    by_cases hv2 : v < S2.length
                    · rw [if_pos hv2] at e'
                      obtain ⟨F3, Gi2, G1, A3, hw3, _, _, _, _⟩ := cont H2 σ2 S2 F2 u' R2 u2 e5
                      exact ⟨_, F3, Gi2, acc ++ [u'], rest, by rw [List.append_assoc]; exact A3, hw3, by simp, by rw [List.length_set]; exact hv2, e'⟩
                    · rw [if_neg hv2] at e'; cases e'
                | bk => cases e'
                | ct => cases e'
                | rt t => cases e'
                | ex c => cases e'
          · have hlen : ws.length = (acc ++ rest).length := by
              obtain ⟨a', vs', z, h2, h3, _⟩ := A.rep.lstAt
              cases z
              rw [hw] at h2
              cases h2
              exact h3
            have hr : rest = [] := List.eq_nil_of_length_eq_zero (by rw [List.length_append] at hlen; omega)
            subst hr
            cases e'
            rw [List.append_nil] at A
            exact kk σ' H' _ (A.back R ev0) A.up
      · rw [if_neg hvl] at ee; cases ee
    · cases ee
theorem s_forL {L : List Nat} (i v : Nat) (L' : List Nat) {tg iter : Expr} {body : List Stmt} {sb : SF} (hp : PassesOwn (model X.prog X.w) X.A X.env X.xe) (hc : X.calm = true) (hL : Loc' L ar) (hv : ar v = none) (hi : PE X iter (tVar i)) (hg : PG X tg (gName v))
    (hb : ∀ ar', Loc' L' ar' → PSs X body (rdS Γ ar' W sb)) (hs' : ∀ j ∈ L', j ≠ i ∧ j ≠ v ∧ j ∈ L := by decide) (hiv : v ≠ i := by decide) (hK : X.K = Γ.K := by rfl) (hs : ∀ x, foldedSetIterable iter X.env x = pure x := by intro _; rfl) : PS X (.For tg iter body [] pos) (rdS Γ ar W (sForL i v sb)) := by
  refine PS.imp (ps_for hp hc (pi_list hi) hg (ss_all hb) hs) fun D σ H q => ?_
  rw [hK]
  exact forL_ok hL hs' hv hiv q
/-- for v in list(P): b1; if c: b2; P.remove(v) -/
abbrev okRem (L : List T) (u : T) (k : Nat) : Prop := L.length ≤ 100000 ∧ PyData.canLayAll0 (datAll L) = true ∧ shT u = true ∧ SeqAt.dataPlace (datAll L) (dat u) = some k
def runJ (v : Nat) (b1 : SF) (c : EF) (b2 : SF) : List T → TSt → List T → Option (List T × TSt)
  | [], S, acc => some (acc, S)
  | u :: us, S, acc => (b1 (S.set v (some u))).bind fun rx => match rx with
    | (.nx, S1) => (c S1).bind fun rb => match rb with
      | (.ok (.bl true), S2) => (b2 S2).bind fun ry => match ry with
        | (.nx, S3) => (sl S3 v).bind fun u' => if v < S3.length ∧ okRem (acc ++ u' :: us) u' acc.length then runJ v b1 c b2 us (S3.set v none) acc else none
        | _ => none
      | (.ok (.bl false), S2) => (sl S2 v).bind fun u' => if v < S2.length then runJ v b1 c b2 us (S2.set v none) (acc ++ [u']) else none
      | _ => none
    | _ => none
def kFJ2 (i v : Nat) (b1 : SF) (c : EF) (b2 : SF) (S : TSt) : T → Option (Fl × TSt)
  | .nd .lst us => if v < S.length then (runJ v b1 c b2 us (S.set i none) []).bind (kFL3 i) else none
  | _ => none
def sForJ (i v : Nat) (b1 : SF) (c : EF) (b2 : SF) : SF := fun S => (sl S i).bind (kFJ2 i v b1 c b2 S)
theorem rem_al {H : Hp} {a : Addr} {ts : List T} {G : FP} {y : V} {t : T} {Gy : FP} {i : Nat} {ws : List V} {Q : VK} (r : Rep Γ H (.ref a) (.nd .lst ts) G) (hat0 : H a = some (.lst ws)) (ry : Rep Γ H y t Gy) (hz : okRem ts t i)
    (k : ∀ G', (∀ b, G' b → G b) → Ke H (upd H a (.lst (ws.eraseIdx i))) G → Rep Γ (upd H a (.lst (ws.eraseIdx i))) (.ref a) (.nd .lst (ts.eraseIdx i)) G' → Q .non (upd H a (.lst (ws.eraseIdx i)))) : rRemD Γ.K (.ref a) [y] H Q := by
  cases r with
  | @nd _ _ _ vs _ Fs hat hlw hm hc hdd hss =>
    have hat : H a = some (.lst vs) := hat
    have hlw : vs.length = ts.length := hlw
    have : vs = ws := by
      rw [hat0] at hat
      cases hat
      rfl
    subst this
    refine ⟨a, vs, y, datAll ts, dat t, i, rfl, rfl, hat, dpAll hlw fun j v t' q1 q2 => (hc j v t' q1 q2).dp (layAll_get hz.2.1 q2), ry.dp (shT_lay hz.2.2.1), hz.2.1, hz.2.2.1, hz.2.2.2, sz5 (by omega), ?_⟩
    refine k (fun x => x = a ∨ ∃ j, (if j < i then Fs j else Fs (j + 1)) x) (fun b z => ?_) (ke_upd hat (fun z => z) (hm rfl).1)
      (node_upd hat (fun z => z) upd_same (by rw [List.length_eraseIdx, List.length_eraseIdx, hlw]) (fun j v t' q1 q2 => ?_) (fun i' j b ne z z' => ?_) fun j z => ?_)
    · rcases z with z | ⟨j, z⟩
      · rw [z]; exact (hm rfl).1
      · by_cases c1 : j < i
        · rw [if_pos c1] at z; exact hss j b z
        · rw [if_neg c1] at z; exact hss _ b z
    · rw [List.getElem?_eraseIdx] at q1 q2
      by_cases c1 : j < i
      · rw [if_pos c1] at q1 q2 ⊢; exact hc j v t' q1 q2
      · rw [if_neg c1] at q1 q2 ⊢; exact hc (j + 1) v t' q1 q2
    · by_cases c1 : i' < i
      · rw [if_pos c1] at z
        by_cases c2 : j < i
        · rw [if_pos c2] at z'; exact hdd i' j b ne z z'
        · rw [if_neg c2] at z'; exact hdd i' (j + 1) b (by omega) z z'
      · rw [if_neg c1] at z
        by_cases c2 : j < i
        · rw [if_pos c2] at z'; exact hdd (i' + 1) j b (by omega) z z'
        · rw [if_neg c2] at z'; exact hdd (i' + 1) (j + 1) b (by omega) z z'
    · by_cases c1 : j < i
      · rw [if_pos c1] at z; exact (hm rfl).2 j z
      · rw [if_neg c1] at z; exact (hm rfl).2 _ z
def rdTC (Γ : Gx) (W : WX) (C : Fx → Prop) (f : EF) : TT := fun σ H Q => ∃ ar', C ar' ∧ rdT Γ ar' W f σ H Q
theorem tc_all {c : Expr} {C : Fx → Prop} {f : EF} (h : ∀ ar', C ar' → PT X c (rdT Γ ar' W f)) : PT X c (rdTC Γ W C f) := ⟨fun pins s σ H Q I ⟨ar', c, q⟩ => (h ar' c).run pins s σ H Q I q⟩
theorem s_all {st : Stmt} {C : Fx → Prop} {sb : SF} (h : ∀ ar', C ar' → PS X st (rdS Γ ar' W sb)) : PS X st (rdSX Γ W C sb) := ⟨fun pins s σ H D I ⟨ar', c, q⟩ => (h ar' c).run pins s σ H D I q⟩
abbrev tRem (K : PySem.W.Frag) (i v : Nat) : TE := tBM K "list" (rRemD K) (tVar i) (tCons (tVar v) tNil)
abbrev tLst (K : PySem.W.Frag) (i : Nat) : TE := tCB (fun xs H Q => ∃ p ys, xs = [.ref p] ∧ (SqL K H p ys ∨ SqT K H p ys) ∧ ∀ l, H l = none → Q (.ref l) (upd H l (.lst ys))) (tCons (tVar i) tNil)
abbrev tbJ (Γ : Gx) (W : WX) (C : Fx → Prop) (i v : Nat) (b1 : SF) (c : EF) (b2 : SF) : TS := tSeq (rdSX Γ W C b1) (tIfS (rdTC Γ W C c) (tSeq (rdSX Γ W C b2) (tDrop (tRem Γ.K i v))) tNext)
theorem forJ_ok {L L' : List Nat} {i v : Nat} {b1 : SF} {c : EF} {b2 : SF} (hL : Loc' L ar) (hs' : ∀ j ∈ L', j ≠ i ∧ j ≠ v ∧ j ∈ L) (hv : ar v = none) (hiv : v ≠ i) {D : Ends} {σ : St} {H : Hp} (q : rdS Γ ar W (sForJ i v b1 c b2) D σ H) :
    tFor (iList Γ.K (tLst Γ.K i)) (gName v) (tbJ Γ W (Loc' L') i v b1 c b2) D σ H := by
  obtain ⟨S, F, fl, SN, R, ee, kk⟩ := q
  unfold sForJ at ee
  cases q2 : sl S i with
  | none => rw [q2] at ee; cases ee
  | some t0 =>
    rw [q2, Option.bind_some] at ee
    unfold kFJ2 at ee
    split at ee
    · rename_i us
      by_cases hvl : v < S.length
      · rw [if_pos hvl] at ee
        cases e3 : runJ v b1 c b2 us (S.set i none) [] with
        | none => rw [e3] at ee; cases ee
        | some fin =>
          rw [e3, Option.bind_some] at ee
          cases ee
          obtain ⟨v0, F1, Gi, ev0, rv, R1, d1, s1, s2⟩ := R.take (sl_some.mp q2)
          obtain ⟨a, ws, rfl, hat, hl, _⟩ := rv.lstAt
          refine ⟨.ref a, ev0, a, ws, rfl, .inl (.inl (.inl hat)), fun d hd => ?_⟩
          have sD : Same H (upd H d (.lst ws)) := upd_new hd
          have nda : d ≠ a := fun z => by rw [z, hat] at hd; cases hd
          refine ⟨d, rfl, ⟨ws, .inl (.inl upd_same)⟩, ?_⟩
          have A0 : Ld Γ (fixAt ar i (.ref a)) H F a (upd H d (.lst ws)) σ (S.set i none) F1 Gi us :=
            ⟨(R1.fix fun j w q => har_of R ev0 q).same sD, rv.same sD, d1, fun b g => same_al sD (R.al b (s2 b g)), ⟨Ke.of_same F sD, fun b z => .inl (z.elim (s1 b) (s2 b))⟩⟩
          have nF : ¬ F1 d := fun f => R.al d (s1 d f) hd
          have nG : ¬ Gi d := fun g => R.al d (s2 d g) hd
          refine for_list (K := Γ.K) (a := d) (xs := ws) (fun k σ' H' => ∃ S' F' Gi' acc rest wa, Ld Γ (fixAt ar i (.ref a)) H F a H' σ' S' F' Gi' (acc ++ rest) ∧ H' a = some (.lst (wa ++ ws.drop k)) ∧ wa.length = acc.length ∧ rest.length = ws.length - k ∧ H' d = some (.lst ws) ∧ ¬ F' d ∧ ¬ Gi' d ∧ v < S'.length ∧ runJ v b1 c b2 rest S' acc = some fin)
            ⟨_, F1, Gi, [], us, [], A0, sD _ _ hat, rfl, by rw [hl, Nat.sub_zero], upd_same, nF, nG, by rw [List.length_set]; exact hvl, e3⟩ (fun k σ' H' _ ⟨_, _, _, _, _, _, _, _, _, _, h, _⟩ => .inl (.inl h))
            (fun k y σ' H' hy ⟨S', F', Gi', acc, rest, wa, A, hw, hwa, hr, hd', nF', nG', hvl', e'⟩ => ?_) fun σ' H' ⟨S', F', Gi', acc, rest, wa, A, hw, hwa, hr, hd', nF', nG', hvl', e'⟩ => ?_
          · have hk := (List.getElem?_eq_some_iff.mp hy).1
            have hdr : ws.drop k = y :: ws.drop (k + 1) := drop_get hy
            cases rest with
            | nil => rw [List.length_nil] at hr; omega
            | cons u rest =>
              have hr2 : rest.length = ws.length - (k + 1) := by rw [List.length_cons] at hr; omega
              have hy2 : (wa ++ ws.drop k)[acc.length]? = some y := by rw [← hwa, List.getElem?_append_right (Nat.le_refl _), Nat.sub_self, hdr]; rfl
              obtain ⟨F0, R0, cont⟩ := A.lend hw hy2 (by rw [fixAt_ne hiv]; exact hv) hvl'
              have hC := fix_loc2 (x := V.ref a) (y := y) hL hs'
              have dne : d ≠ a := nda
              unfold runJ at e'
              cases e1 : b1 (S'.set v (some u)) with
              | none => rw [e1] at e'; cases e'
              | some rx =>
                obtain ⟨fl1, S1⟩ := rx
                rw [e1, Option.bind_some] at e'
                cases fl1 with
                | nx =>
                  simp only at e'
                  refine ⟨_, hC, _, F0, .nx, S1, R0, e1, fun σ2 H2 F2 R2 u2 => ?_⟩
                  cases e4 : c S1 with
                  | none => rw [e4] at e'; cases e'
                  | some rb =>
                    rw [e4, Option.bind_some] at e'
                    split at e'
                    · rename_i S2
                      refine ⟨_, hC, bool_then R2 e4 fun H3 F3 R3 u3 => ?_⟩
                      rw [if_pos rfl]
                      cases e5 : b2 S2 with
                      | none => rw [e5] at e'; cases e'
                      | some ry =>
                        obtain ⟨fl2, S3⟩ := ry
                        rw [e5, Option.bind_some] at e'
                        cases fl2 with
                        | nx =>
                          simp only at e'
                          refine ⟨_, hC, _, F3, .nx, S3, R3, e5, fun σ4 H4 F4 R4 u4 => ?_⟩
                          cases e6 : sl S3 v with
                          | none => rw [e6] at e'; cases e'
                          | some u' =>
                            rw [e6, Option.bind_some] at e'
                            by_cases hz : v < S3.length ∧ okRem (acc ++ u' :: rest) u' acc.length
                            · rw [if_pos hz] at e'
                              obtain ⟨F5, Gi5, G1, A5, hw5, ey5, ry5, kp5, nw5⟩ := cont H4 σ4 S3 F4 u' R4 ((u2.trans u3).trans u4) e6
                              refine ⟨.ref a, A5.rs.arg i _ fixAt_self, A5.rep.tyL rfl, y, ey5, ?_⟩
                              dsimp only [tNil]
                              refine rem_al A5.rep hw5 ry5 hz.2 fun G' sub ke r' => ?_
                              have ee1 : (acc ++ u' :: rest).eraseIdx acc.length = acc ++ rest := by rw [List.eraseIdx_append_of_length_le (Nat.le_refl _), Nat.sub_self]; rfl
                              have ee2 : (wa ++ ws.drop k).eraseIdx acc.length = wa ++ ws.drop (k + 1) := by rw [← hwa, List.eraseIdx_append_of_length_le (Nat.le_refl _), Nat.sub_self, hdr]; rfl
                              rw [ee1] at r'
                              rw [ee2] at r' ke ⊢
                              have hd4 : H4 d = some (.lst ws) := kp5 d _ hd' nF' nG'
                              have al' : ∀ b, H4 b ≠ none → upd H4 a (.lst (wa ++ ws.drop (k + 1))) b ≠ none := fun b z => al_upd b z
                              refine ⟨_, F5, G', acc, rest, wa, ⟨A5.rs.ke ke A5.dj, r', fun b f g => A5.dj b f (sub b g), fun b g => al' b (A5.al b (sub b g)), A5.up.trans ⟨⟨fun b o e n => ke.keep b o e fun g => n (.inr g), ke.imm⟩, fun b z => .inl (z.elim .inl fun g => .inr (sub b g))⟩⟩, upd_same, hwa, hr2, by rw [upd_ne dne]; exact hd4, fun f => (nw5 d (.inl f)).elim (fun z => z.elim nF' nG') fun z => (by rw [hd'] at z; cases z), fun g => (nw5 d (.inr (sub d g))).elim (fun z => z.elim nF' nG') fun z => (by rw [hd'] at z; cases z), by rw [List.length_set]; exact hz.1, e'⟩
                            · rw [if_neg hz] at e'; cases e'
                        | bk => cases e'
                        | ct => cases e'
                        | rt t => cases e'
                        | ex c => cases e'
                    · rename_i S2
                      refine ⟨_, hC, bool_then R2 e4 fun H3 F3 R3 u3 => ?_⟩
                      rw [if_neg (fun z => nomatch z)]
                      cases e6 : sl S2 v with
                      | none => rw [e6] at e'; cases e'
                      | some u' =>
                        rw [e6, Option.bind_some] at e'
                        by_cases hz : v < S2.length
                        · rw [if_pos hz] at e'
                          obtain ⟨F5, Gi5, G1, A5, hw5, ey5, ry5, kp5, nw5⟩ := cont H3 σ2 S2 F3 u' R3 (u2.trans u3) e6
                          refine ⟨_, F5, Gi5, acc ++ [u'], rest, wa ++ [y], by rw [List.append_assoc]; exact A5, by rw [hw5, hdr, List.append_assoc]; rfl, by simp [hwa], hr2, kp5 d _ hd' nF' nG', fun f => (nw5 d (.inl f)).elim (fun z => z.elim nF' nG') fun z => (by rw [hd'] at z; cases z), fun g => (nw5 d (.inr g)).elim (fun z => z.elim nF' nG') fun z => (by rw [hd'] at z; cases z), by rw [List.length_set]; exact hz, e'⟩
                        · rw [if_neg hz] at e'; cases e'
                    · cases e'
                | bk => cases e'
                | ct => cases e'
                | rt t => cases e'
                | ex c => cases e'
          · have hr0 : rest = [] := List.eq_nil_of_length_eq_zero (by omega)
            subst hr0
            cases e'
            rw [List.append_nil] at A
            exact kk σ' H' _ (A.back R ev0) A.up
      · rw [if_neg hvl] at ee; cases ee
    · cases ee
theorem s_forJ {L : List Nat} (i v : Nat) (L' : List Nat) {tg iter : Expr} {st1 st2 st3 : Stmt} {tc : Expr} {p2 : Pos} {b1 b2 : SF} {c : EF} (hp : PassesOwn (model X.prog X.w) X.A X.env X.xe) (hc : X.calm = true) (hL : Loc' L ar) (hv : ar v = none) (hi : PE X iter (tLst X.K i)) (hg : PG X tg (gName v))
    (h1 : ∀ ar', Loc' L' ar' → PS X st1 (rdS Γ ar' W b1)) (ht : ∀ ar', Loc' L' ar' → PT X tc (rdT Γ ar' W c)) (h2 : ∀ ar', Loc' L' ar' → PS X st2 (rdS Γ ar' W b2)) (h3 : PS X st3 (tDrop (tRem X.K i v)))
    (hs' : ∀ j ∈ L', j ≠ i ∧ j ≠ v ∧ j ∈ L := by decide) (hiv : v ≠ i := by decide) (hK : X.K = Γ.K := by rfl) (hs : ∀ x, foldedSetIterable iter X.env x = pure x := by intro _; rfl) : PS X (.For tg iter [st1, .If tc [st2, st3] [] p2] [] pos) (rdS Γ ar W (sForJ i v b1 c b2)) := by
  refine PS.imp (ps_for hp hc (pi_list hi) hg (pss_cons (s_all h1) (pss_one (ps_if (tc_all ht) (pss_cons (s_all h2) (pss_one h3)) pss_nil))) hs) fun D σ H q => ?_
  rw [hK]
  exact forJ_ok hL hs' hv hiv q
section
variable {p : Pos} {e : Expr}
theorem p_lst {i : Nat} {y : Str} {pos' : Pos} (hm : X.mg "list" = none) (hN : X.N[i]? = some y := by rfl) (hv : Vis X.env.scope y := by first | exact Or.inl rfl | exact Or.inr (Or.inl rfl) | exact Or.inr (Or.inr rfl)) (hd : (y == ("__debug__" : Str)) = false := by decide) (hcd : (y == ("__classdict__" : Str)) = false := by decide)
    (hg : Gl X "list" := by rfl) (he : starEach [.Name y pos'] X.env = (false, eval (.Name y pos') X.env) :: starEach [] X.env := by rfl) (hpl : (backTo pos (starEach [] X.env)).any (·.1) = false := by rfl) : PE X (.Call (.Name "list" p) [.Name y pos'] [] pos) (tLst X.K i) :=
  pe_callTy call_list_of hg hm PyProof.Rows.boot_list (pa_cons (pe_var hN hv hd hcd) pa_nil he) (he := he) (hpl := hpl)
theorem p_rem {i v : Nat} {y z : Str} {pos' pos2 apos cpos : Pos} (hu : X.A.units + 65 < cLine) (hN : X.N[i]? = some y := by rfl) (hN2 : X.N[v]? = some z := by rfl) (hv : Vis X.env.scope y := by first | exact Or.inl rfl | exact Or.inr (Or.inl rfl) | exact Or.inr (Or.inr rfl)) (hv2 : Vis X.env.scope z := by first | exact Or.inl rfl | exact Or.inr (Or.inl rfl) | exact Or.inr (Or.inr rfl))
    (hd : (y == ("__debug__" : Str)) = false := by decide) (hcd : (y == ("__classdict__" : Str)) = false := by decide) (hd2 : (z == ("__debug__" : Str)) = false := by decide) (hcd2 : (z == ("__classdict__" : Str)) = false := by decide)
    (hbase : attributeBase (.Name y pos') "remove" X.env (eval (.Name y pos') X.env) = eval (.Name y pos') X.env := by rfl)
    (hfew : ((backTo cpos (starEach [.Name z pos2] X.env)).all (fun x => !x.1) && (backToKw cpos (keywordEach [] X.env)).all (fun x => x.1.isSome) && decide (([.Name z pos2] : List Expr).length + ([] : List Keyword).length + (if ([] : List Keyword).isEmpty then 0 else 1) < 30)) = true := by rfl)
    (hline : (apos.endLine == cpos.line) = true := by rfl)
    (hst : starEach [.Name z pos2] X.env = (false, eval (.Name z pos2) X.env) :: starEach [] X.env := by rfl)
    (hpl : (backTo cpos (starEach [] X.env)).any (·.1) = false := by rfl)
    (hs : swapsWith (.Call (.Attribute (.Name y pos') "remove" apos) [.Name z pos2] [] cpos) none pos.line X.env = pure false := by rfl) :
    PS X (.Expr (.Call (.Attribute (.Name y pos') "remove" apos) [.Name z pos2] [] cpos) pos) (tDrop (tRem X.K i v)) :=
  ps_expr (pe_bm PySem.F.plainAttrs_list PySem.F.slot_list_remove rfl (mt_remD hu) (pe_var hN hv hd hcd) (pa_cons (pe_var hN2 hv2 hd2 hcd2) pa_nil hst) hbase hfew hline hst hpl) hs
end
end
theorem sForL_q {i v : Nat} {body : SF} {S : TSt} : sForL i v body S = (sl S i).bind (kFL2 i v body S) := rfl
theorem sForJ_q {i v : Nat} {b1 : SF} {c : EF} {b2 : SF} {S : TSt} : sForJ i v b1 c b2 S = (sl S i).bind (kFJ2 i v b1 c b2 S) := rfl
end VT
namespace VT
open PySem L2
section
variable {Γ : Gx} {ar : Fx} {W : WX} {X : Cx} {e : Expr} {f : EF}
def kLL3 (i : Nat) (t0 : T) : Rs T × TSt → Option (Rs T × TSt)
  | (.ok r, S1) => if r.nk = true ∧ nkL (wipeS S1 [i]) = true then some (.ok r, (wipeS S1 [i]).set i (some t0)) else none
  | _ => none
def kLL1 (i : Nat) (f : EF) (S : TSt) (t0 w : T) : Option (Rs T × TSt) := (f (S.set i (some w))).bind (kLL3 i t0)
def kLL0 (i : Nat) (f : EF) (S : TSt) (t0 : T) : Option (Rs T × TSt) := (lockD t0).bind (kLL1 i f S t0)
def eLkL (i : Nat) (f : EF) : EF := fun S => (sl S i).bind (kLL0 i f S)
section
variable {i : Nat} {S S1 : TSt} {r t0 w : T}
theorem eLkL_q : eLkL i f S = (sl S i).bind (kLL0 i f S) := rfl
theorem kLL0_q : kLL0 i f S t0 = (lockD t0).bind (kLL1 i f S t0) := rfl
theorem kLL1_q : kLL1 i f S t0 w = (f (S.set i (some w))).bind (kLL3 i t0) := rfl
theorem kLL3_q : kLL3 i t0 (.ok r, S1) = if r.nk = true ∧ nkL (wipeS S1 [i]) = true then some (.ok r, (wipeS S1 [i]).set i (some t0)) else none := rfl
end
theorem e_lkL (i : Nat) (h : PE X e (rdE Γ ar W f)) : PE X e (rdE Γ ar W (eLkL i f)) := by
  refine PE.imp (pe_lkA h) fun σ H Q q => ?_
  obtain ⟨S, F, rr, S', R, ee, kk⟩ := q
  rw [eLkL_q] at ee
  cases q1 : sl S i with
  | none => rw [q1] at ee; cases ee
  | some t0 =>
    rw [q1, Option.bind_some, kLL0_q] at ee
    cases q4 : lockD t0 with
    | none => rw [q4] at ee; cases ee
    | some w =>
      rw [q4, Option.bind_some, kLL1_q] at ee
      cases q5 : f (S.set i (some w)) with
      | none => rw [q5] at ee; cases ee
      | some o1 =>
        obtain ⟨r1, S1⟩ := o1
        rw [q5, Option.bind_some] at ee
        cases r1 with
        | ex c => cases ee
        | ok r =>
          rw [kLL3_q] at ee
          by_cases nk : r.nk = true ∧ nkL (wipeS S1 [i]) = true
          · rw [if_pos nk] at ee
            cases ee
            obtain ⟨v0, F1, Gi, L, ev, rv, R1, d1, s1, s2, gl, hL, lk⟩ := lock_slot (p := []) R q1 rfl q4
            refine ⟨L.length, tLkE_in L H Q gl fun H1 Q' l kQ => ?_⟩
            obtain ⟨R2, v, G', hv, r2, g2, rw1, im⟩ := lk H1 l
            have evv : v0 = v := Option.some.inj hv
            subst evv
            have alH : ∀ a, Gi a → H1 a ≠ none := fun a ga => by
              by_cases z : inL L a
              · obtain ⟨o, z⟩ := z
                obtain ⟨od, e1⟩ := l.on _ z
                simp only at e1
                rw [e1]; exact fun y => nomatch y
              · rw [l.off a z]; exact R.al a (s2 a ga)
            have Rg := (R2.give ev rw1 (fun _ _ z => z) fun _ z => z.elim).mono (fun a z => z.elim id fun z => z.elim) R2.al
            rw [List.set_set] at Rg
            refine ⟨_, _, .ok r, S1, Rg, q5, fun v' H2 F2 G2 ow => ?_⟩
            obtain ⟨b1, b2, b3, b4, b5, b6⟩ := unlock_slot (ws := [i]) (F := F) rv d1 s1 s2 gl hL l (fun a ga => R.al a (s2 a ga)) ow.rs ev (ow.u.sub fun a z => .inl z) nk.2
            have dg : ∀ a, Gi a → G2 a → False := fun a ga g => (ow.u.new a (.inr g)).elim (fun z => d1 a z ga) fun z => alH a ga z
            refine kQ v' H2 b5 (kk v' _ _ G2 ⟨b1, ow.r.thawN nk.1 b6, fun a z g => z.elim (fun z => ow.d a z g) fun z => dg a z g, fun a g => ?_, ⟨b2.toKe, fun a z => z.elim (b2.new a) fun g => ?_⟩⟩)
            · have nl : ¬ inL L a := fun z => dg a (hL a z) g
              rw [unL_off nl]
              exact ow.al a g
            · have nl : ¬ inL L a := fun z => dg a (hL a z) g
              exact (ow.u.new a (.inr g)).imp (s1 a) fun z => by rw [l.off a nl] at z; exact z
          · rw [if_neg nk] at ee; cases ee
end
end VT
namespace VT
open PySem PySem.Spec PyProof.Rows L2
section
variable {Γ : Gx} {ar : Fx} {W : WX} {X : Cx} {e : Expr} {g : BF} {pl : PF} {pos : Pos}
theorem s_lkA {st : Stmt} {j : Nat} (pl : PF) (hi : ar j = none) (h : PS X st (tAsg (rdN Γ ar g) (gName j))) : PS X st (rdS Γ ar W (sSet j (eOfN (bLkD pl g)))) := PS.imp (ps_lkA h) fun D σ H q => by
  obtain ⟨S, F, t, R, ee, k⟩ := set_okN hi q
  rw [bLkD_q] at ee
  cases q1 : pl S with
  | none => rw [q1] at ee; cases ee
  | some ip =>
    obtain ⟨i, p⟩ := ip
    rw [q1, Option.bind_some, kLD0_q] at ee
    cases q2 : sl S i with
    | none => rw [q2] at ee; cases ee
    | some t0 =>
      rw [q2, Option.bind_some, kLD1_q] at ee
      cases q3 : tAt p t0 with
      | none => rw [q3] at ee; cases ee
      | some u =>
        rw [q3, Option.bind_some, kLD2_q] at ee
        cases q4 : lockD u with
        | none => rw [q4] at ee; cases ee
        | some w =>
          rw [q4, Option.bind_some, kLD3_q] at ee
          cases q5 : g (S.set i (some (tPut p t0 w))) with
          | none => rw [q5] at ee; cases ee
          | some r =>
            rw [q5, Option.bind_some, kLD4_q] at ee
            by_cases nk : r.nk = true
            · rw [if_pos nk] at ee
              cases ee
              obtain ⟨v0, F1, Gi, L, ev, rv, R1, d1, s1, s2, gl, hL, lk⟩ := lock_slot R q2 q3 q4
              refine ⟨L.length, tLkS_in L H D gl fun H1 D' l kQ _ _ _ => ?_⟩
              obtain ⟨R2, v, G', hv, r2, g2, _⟩ := lk H1 l
              have alG : ∀ a, G' a → H1 a ≠ none := fun a ga => by
                by_cases z : inL L a
                · obtain ⟨o, z⟩ := z
                  obtain ⟨od, e1⟩ := l.on _ z
                  simp only at e1
                  rw [e1]; exact fun y => nomatch y
                · rw [l.off a z]; exact R.al a (s2 a (g2 a ga))
              have Rg := R2.give ev r2 (fun a f ga => d1 a f (g2 a ga)) alG
              rw [List.set_set] at Rg
              refine ⟨_, _, t, Rg, q5, fun v' H2 G s rr n => ?_⟩
              have fz : ∀ p ∈ L, H2 p.1 = H1 p.1 := fun p z => by
                obtain ⟨od, e⟩ := l.on p z
                rw [e]; exact s _ _ e
              refine kQ (σ.set j (some v')) H2 fz (k v' _ G (fun b o eb => ?_) (rr.thawN nk fun b => ?_) ⟨fun a ga => ?_, fun a ga => ?_⟩)
              · by_cases z : inL L b
                · obtain ⟨o', z⟩ := z
                  rw [unL_on gl z, ← (gl.at' _ z).1]; exact eb
                · rw [unL_off z]; exact s b o (by rw [l.off b z]; exact eb)
              · by_cases z : inL L b
                · obtain ⟨o', z⟩ := z
                  obtain ⟨od, e⟩ := l.on _ z
                  exact .inr ⟨od, o', (fz _ z).trans e⟩
                · exact .inl (unL_off z)
              · have h1 := n.1 a ga
                by_cases z : inL L a
                · obtain ⟨o', z⟩ := z
                  obtain ⟨od, e⟩ := l.on _ z
                  simp only at e
                  rw [e] at h1; cases h1
                · rw [l.off a z] at h1; exact h1
              · by_cases z : inL L a
                · obtain ⟨o', z⟩ := z
                  rw [unL_on gl z]; exact fun y => nomatch y
                · rw [unL_off z]; exact n.2 a ga
            · rw [if_neg nk] at ee; cases ee
end
end VT
namespace VT
open PySem L2
section
variable {Γ : Gx} {ar : Fx} {W : WX} {X : Cx} {pos : Pos}
def bLst3 (i j k : Nat) : BF := fun S => (sl S i).bind fun a => (sl S j).bind fun b => (sl S k).bind fun c => some (.nd .lst [a, b, c])
theorem b_lst3 (i j k : Nat) {x y z : Str} {px py pz : Pos} (hd : i ≠ j ∧ i ≠ k ∧ j ≠ k := by decide) (hx : X.N[i]? = some x := by rfl) (hy : X.N[j]? = some y := by rfl) (hz : X.N[k]? = some z := by rfl)
    (vx : Vis X.env.scope x := by first | exact Or.inl rfl | exact Or.inr (Or.inl rfl) | exact Or.inr (Or.inr rfl)) (vy : Vis X.env.scope y := by first | exact Or.inl rfl | exact Or.inr (Or.inl rfl) | exact Or.inr (Or.inr rfl)) (vz : Vis X.env.scope z := by first | exact Or.inl rfl | exact Or.inr (Or.inl rfl) | exact Or.inr (Or.inr rfl))
    (d1 : (x == ("__debug__" : Str)) = false := by decide) (c1 : (x == ("__classdict__" : Str)) = false := by decide) (d2 : (y == ("__debug__" : Str)) = false := by decide) (c2 : (y == ("__classdict__" : Str)) = false := by decide) (d3 : (z == ("__debug__" : Str)) = false := by decide) (c3 : (z == ("__classdict__" : Str)) = false := by decide)
    (s1 : starEach [.Name x px, .Name y py, .Name z pz] X.env = (false, eval (.Name x px) X.env) :: starEach [.Name y py, .Name z pz] X.env := by rfl) (s2 : starEach [.Name y py, .Name z pz] X.env = (false, eval (.Name y py) X.env) :: starEach [.Name z pz] X.env := by rfl) (s3 : starEach [.Name z pz] X.env = (false, eval (.Name z pz) X.env) :: starEach [] X.env := by rfl) :
    PE X (.List [.Name x px, .Name y py, .Name z pz] pos) (rdB Γ ar (bLst3 i j k)) := PE.imp (pe_lst (pa_cons (pe_var hx vx d1 c1) (pa_cons (pe_var hy vy d2 c2) (pa_cons (pe_var hz vz d3 c3) pa_nil s3) s2) s1)) fun σ H Q q => by
  obtain ⟨S, F, t, R, ee, kk⟩ := q
  unfold bLst3 at ee
  cases e1 : sl S i with
  | none => rw [e1] at ee; cases ee
  | some a =>
    rw [e1, Option.bind_some] at ee
    cases e2 : sl S j with
    | none => rw [e2] at ee; cases ee
    | some b =>
      rw [e2, Option.bind_some] at ee
      cases e3 : sl S k with
      | none => rw [e3] at ee; cases ee
      | some c =>
        rw [e3, Option.bind_some] at ee
        cases ee
        obtain ⟨len, arg, ⟨Fs, h1, h2, h3⟩, al⟩ := R
        obtain ⟨va, ea, ra⟩ := h1 i a (sl_some.mp e1)
        obtain ⟨vb, eb, rb⟩ := h1 j b (sl_some.mp e2)
        obtain ⟨vc, ec, rc⟩ := h1 k c (sl_some.mp e3)
        refine ⟨va, ea, vb, eb, vc, ec, (by show 3 ≤ sizeLine; exact sz5 (by decide)), fun p hp => ?_⟩
        have sm : Same H (upd H p (.lst [va, vb, vc])) := upd_new hp
        have np : ∀ n, ¬ Fs n p := fun n z => al p (h3 n p z) hp
        refine kk _ _ (fun q => q = p ∨ Fs i q ∨ Fs j q ∨ Fs k q) sm (.nd (Fs := fun n => match n with | 0 => Fs i | 1 => Fs j | 2 => Fs k | _ => FE) upd_same rfl (fun _ => ⟨.inl rfl, fun n => ?_⟩) (fun n v t q1 q2 => ?_) (fun n m q ne z1 z2 => ?_) fun n q z => ?_)
        · match n with
          | 0 => exact np i
          | 1 => exact np j
          | 2 => exact np k
          | _ + 3 => exact fun z => z
        · match n with
          | 0 => cases q1; cases q2; exact ra.same sm
          | 1 => cases q1; cases q2; exact rb.same sm
          | 2 => cases q1; cases q2; exact rc.same sm
          | _ + 3 => cases q1
        · match n, m with
          | 0, 0 => exact ne rfl
          | 1, 1 => exact ne rfl
          | 2, 2 => exact ne rfl
          | 0, 1 => exact h2 i j q hd.1 z1 z2
          | 0, 2 => exact h2 i k q hd.2.1 z1 z2
          | 1, 0 => exact h2 j i q (Ne.symm hd.1) z1 z2
          | 1, 2 => exact h2 j k q hd.2.2 z1 z2
          | 2, 0 => exact h2 k i q (Ne.symm hd.2.1) z1 z2
          | 2, 1 => exact h2 k j q (Ne.symm hd.2.2) z1 z2
          | _ + 3, _ => exact z1
          | 0, _ + 3 => exact z2
          | 1, _ + 3 => exact z2
          | 2, _ + 3 => exact z2
        · match n with
          | 0 => exact .inr (.inl z)
          | 1 => exact .inr (.inr (.inl z))
          | 2 => exact .inr (.inr (.inr z))
          | _ + 3 => exact z.elim
end
def kL3c (a b : T) (c : T) : Option T := some (.nd .lst [a, b, c])
def kL3b (k : Nat) (S : TSt) (a b : T) : Option T := (sl S k).bind (kL3c a b)
def kL3a (j k : Nat) (S : TSt) (a : T) : Option T := (sl S j).bind (kL3b k S a)
theorem bLst3_q {i j k : Nat} {S : TSt} : bLst3 i j k S = (sl S i).bind (kL3a j k S) := rfl
theorem kL3a_q {j k : Nat} {S : TSt} {a : T} : kL3a j k S a = (sl S j).bind (kL3b k S a) := rfl
theorem kL3b_q {k : Nat} {S : TSt} {a b : T} : kL3b k S a b = (sl S k).bind (kL3c a b) := rfl
theorem kL3c_q {a b c : T} : kL3c a b c = some (.nd .lst [a, b, c]) := rfl
end VT
namespace K05
open PySem L2 VT
def ct : Nat → List Str
  | 0 => ["coming", "pending"]
  | _ => []
abbrev gx (K : PySem.W.Frag) (cl : Nat → Addr) (okc : ∀ c f, f ∈ ct c → Cls K (cl c) ∧ NoAttr K (cl c) f) : Gx := ⟨K, cl, ct, okc⟩
structure Bi (mg : Str → Option Value) : Prop where
  ValueError : mg "ValueError" = none
  bool : mg "bool" = none
  int : mg "int" = none
  isinstance : mg "isinstance" = none
  len : mg "len" = none
  list : mg "list" = none
  min : mg "min" = none
  range : mg "range" = none
  tuple : mg "tuple" = none
theorem hu1 {A : Around} {k : Nat} (hr : Room k A) : A.units + 1 < cLine := by have := hr.un; omega
theorem hu0 {A : Around} {k : Nat} (hr : Room k A) : A.units < cLine := by have := hr.un; omega
theorem hu65 {A : Around} {k : Nat} (hr : Room k A) : A.units + 65 < cLine := by have := hr.un; omega
def kn : Nat → Option Str
  | 9 => some ("NoDeed+" : Str)
  | _ => none
theorem sc_Deeds___init : FnScope ["self"] ["self"] (defScope s_Deeds___init) := ⟨rfl, rfl, rfl, by decide +kernel, rfl, by decide +kernel, by decide +kernel⟩
def b_Deeds___init : SF := (sSeq (sMut (putFM ct "coming") (pVar 0) (eOfN (nC (.int 0))))
    (sMut (putFM ct "pending") (pVar 0) (eDisp .lst aNil)))
def m_Deeds___init : MF := mBody 1 1 b_Deeds___init
theorem sc_Deeds_begin : FnScope ["self", "space", "pages", "rooms", "hands", "number"] ["self", "space", "pages", "rooms", "hands"] (defScope s_Deeds_begin) := ⟨rfl, rfl, rfl, by decide +kernel, rfl, by decide +kernel, by decide +kernel⟩
def b_Deeds_begin : SF := (sSeq (sSet 5 (eOfN (nOfB (bOfP (pFld ct "coming" (pVar 0))))))
    (sSeq (sMut (putFM ct "coming") (pVar 0) (eOfN (bOp addA (bOfP (pVar 5)) (nC (.int 1)))))
    (sSeq (sIf (eOfN (bOp gtT (bUn lenT (bOfP (pVar 4))) (nC (.int 0)))) (sExpr (eMutP appM (pFld ct "pending" (pVar 0)) (baVal (nTup (baRef 5 (baRef 1 (baVal (bUn tupleT (bOfP (pVar 2))) (baVal (bUn tupleT (bOfP (pVar 3))) (baVal (bUn tupleT (bOfP (pVar 4))) baNil)))))) baNil))) sNil)
    (sRet (eVar 5)))))
def m_Deeds_begin : MF := mBody 5 6 b_Deeds_begin
theorem sc_Deeds_holds : FnScope ["self", "space", "page", "one"] ["self", "space", "page"] (defScope s_Deeds_holds) := ⟨rfl, rfl, rfl, by decide +kernel, rfl, by decide +kernel, by decide +kernel⟩
def b_Deeds_holds : SF := (sSeq (sForP 0 (tgN 3) (pFld ct "pending" (pVar 0)) (sIf (eAnd (eOfN (bOp eqT (bOp ixB (bOfP (pVar 3)) (nC (.int 1))) (bOfP (pVar 1)))) (eOfN (bOp inA (bOfP (pVar 2)) (bOp ixB (bOfP (pVar 3)) (nC (.int 2)))))) (sRet (eOfN (nC (.bl true)))) sNil))
    (sRet (eOfN (nC (.bl false)))))
def m_Deeds_holds : MF := mBody 3 4 b_Deeds_holds
theorem sc_Deeds_answered : FnScope ["self", "hand", "left", "told", "number", "space", "pages", "rooms", "hands", "others", "other"] ["self", "hand"] (defScope s_Deeds_answered) := ⟨rfl, rfl, rfl, by decide +kernel, rfl, by decide +kernel, by decide +kernel⟩
def b_Deeds_answered : SF := (sSeq (sSet 2 (eDisp .lst aNil))
    (sSeq (sSet 3 (eDisp .lst aNil))
    (sSeq (sForP 0 (tgT [4, 5, 6, 7, 8]) (pFld ct "pending" (pVar 0)) (sSeq (sSet 9 (eOfN (bUn tupleT (bLc [10] (tgN 10) (bOfP (pVar 8)) (bOp neT (bOfP (pVar 10)) (bOfP (pVar 1))) (nOfB (bOfP (pVar 10)))))))
    (sIf (eOfN (bOp eqT (bOfP (pVar 9)) (nTup baNil))) (sExpr (eMutV appM 3 (aVal (eOfN (nTup (baRef 4 (baRef 7 baNil)))) aNil))) (sExpr (eMutV appM 2 (aVal (eOfN (nTup (baRef 4 (baRef 5 (baRef 6 (baRef 7 (baRef 9 baNil))))))) aNil))))))
    (sSeq (sMut (putFM ct "pending") (pVar 0) (eVar 2))
    (sRet (eVar 3))))))
def m_Deeds_answered : MF := mBody 2 11 b_Deeds_answered
theorem sc_Deeds_waiting : FnScope ["self", "one"] ["self"] (defScope s_Deeds_waiting) := ⟨rfl, rfl, rfl, by decide +kernel, rfl, by decide +kernel, by decide +kernel⟩
def b_Deeds_waiting : SF := (sRet (eOfN (bLc [1] (tgN 1) (bOfP (pFld ct "pending" (pVar 0))) bYes (nTup (baVal (nOfB (bOp ixB (bOfP (pVar 1)) (nC (.int 0)))) (baVal (nOfB (bOp ixB (bOfP (pVar 1)) (nC (.int 4)))) baNil))))))
def m_Deeds_waiting : MF := mBody 1 2 b_Deeds_waiting
theorem sc_Deeds_is_told : FnScope ["self", "number", "one"] ["self", "number"] (defScope s_Deeds_is_told) := ⟨rfl, rfl, rfl, by decide +kernel, rfl, by decide +kernel, by decide +kernel⟩
def b_Deeds_is_told : SF := (sSeq (sIf (eOr (eOfN (bOp ltT (bOfP (pVar 1)) (nC (.int 0)))) (eOfN (bOp geT (bOfP (pVar 1)) (bOfP (pFld ct "coming" (pVar 0)))))) (sRaise 9) sNil)
    (sRet (eOfN (bOp notInA (bOfP (pVar 1)) (bLc [2] (tgN 2) (bOfP (pFld ct "pending" (pVar 0))) bYes (nOfB (bOp ixB (bOfP (pVar 2)) (nC (.int 0)))))))))
def m_Deeds_is_told : MF := mBody 2 3 b_Deeds_is_told
theorem sc_law_bag : FnScope ["script", "k", "cell", "seed"] ["script", "k"] (defScope s_law_bag) := ⟨rfl, rfl, rfl, by decide +kernel, rfl, by decide +kernel, by decide +kernel⟩
def b_law_bag : SF := (sSeq (sSet 2 (eOfN (nC (.int 0))))
    (sSeq (sIf (eOfN (bOp ltT (bOfP (pVar 1)) (bUn lenT (bOfP (pVar 0))))) (sSet 2 (eOfN (bOp modT (bOp ixB (bOfP (pVar 0)) (bOfP (pVar 1))) (bOp powT (nC (.int 10)) (nC (.int 60)))))) sNil)
    (sSeq (sSet 3 (eOfN (bOp addA (nC (.int 1)) (bOp modT (bOp addA (bOp addA (bOp addA (bOp mulT (bOp modT (bOfP (pVar 2)) (nC (.int 2147483629))) (nC (.int 16807))) (bOp mulT (bOp mulT (nC (.int 40009)) (bOfP (pVar 1))) (bOfP (pVar 1)))) (bOp mulT (nC (.int 7919)) (bOfP (pVar 1)))) (nC (.int 1009))) (nC (.int 2147483645))))))
    (sSeq (sIf (eOfN (bOp ltT (bOfP (pVar 2)) (bOp powT (nC (.int 10)) (nC (.int 18))))) (sRet (eDisp .lst (aVal (eOfN (nC (.int 0))) (aVal (eVar 3) aNil)))) sNil)
    (sRet (eDisp .lst (aVal (eVar 2) (aVal (eVar 3) aNil))))))))
def m_law_bag : MF := mBody 2 4 b_law_bag
theorem sc_law_take : FnScope ["bag", "many", "found"] ["bag", "many"] (defScope s_law_take) := ⟨rfl, rfl, rfl, by decide +kernel, rfl, by decide +kernel, by decide +kernel⟩
def b_law_take : SF := (sSeq (sIf (eOfN (bOp gtT (bOp ixB (bOfP (pVar 0)) (nC (.int 0))) (nC (.int 0)))) (sSeq (sSet 2 (eOfN (bOp modT (bOp ixB (bOfP (pVar 0)) (nC (.int 0))) (bOfP (pVar 1)))))
    (sSeq (sSetA (pVar 0) (nC (.int 0)) (eOfN (bOp fdivT (bOp ixB (bOfP (pVar 0)) (nC (.int 0))) (bOfP (pVar 1)))))
    (sRet (eVar 2)))) sNil)
    (sSeq (sSetA (pVar 0) (nC (.int 1)) (eOfN (bOp modT (bOp mulT (bOp ixB (bOfP (pVar 0)) (nC (.int 1))) (nC (.int 48271))) (nC (.int 2147483647)))))
    (sRet (eOfN (bOp modT (bOp fdivT (bOp modT (bOp mulT (bOp fdivT (bOp ixB (bOfP (pVar 0)) (nC (.int 1))) (nC (.int 13))) (bOp addA (bOp modT (bOp ixB (bOfP (pVar 0)) (nC (.int 1))) (nC (.int 32749))) (nC (.int 17)))) (nC (.int 2147483629))) (nC (.int 32))) (bOfP (pVar 1)))))))
def m_law_take : MF := mBody 2 3 b_law_take
theorem sc_law_pages : FnScope ["bag", "many", "left", "found", "k"] ["bag", "many"] (defScope s_law_pages) := ⟨rfl, rfl, rfl, by decide +kernel, rfl, by decide +kernel, by decide +kernel⟩
def b_law_pages : SF := (sSeq (sSet 2 (eOfN (bUn lrgT (bOfP (pVar 1)))))
    (sSeq (sSet 3 (eDisp .lst aNil))
    (sSeq (sForR (tgN 4) (eCall m_law_take 2 (aRef 0 (aVal (eOpB addA (eOp minT (eVar 1) (eOp ixA (eDisp .lst (aVal (eOfN (nC (.int 3))) (aVal (eOfN (nC (.int 30))) aNil))) (eCall m_law_take 2 (aRef 0 (aVal (eOfN (nC (.int 2))) aNil))))) (nC (.int 1))) aNil))) (sExpr (eMutV appM 3 (aVal (eMutV popM 2 (aVal (eCall m_law_take 2 (aRef 0 (aVal (eOfN (bUn lenT (bOfP (pVar 2)))) aNil))) aNil)) aNil))))
    (sRet (eVar 3)))))
def m_law_pages : MF := mBody 2 5 b_law_pages
theorem sc_law_whole : FnScope ["thing"] ["thing"] (defScope s_law_whole) := ⟨rfl, rfl, rfl, by decide +kernel, rfl, by decide +kernel, by decide +kernel⟩
def b_law_whole : SF := (sRet (eOfN (nOfB (bAnd (bUn (isiT "int") (bOfP (pVar 0))) (bNot (bUn (isiT "bool") (bOfP (pVar 0))))))))
def m_law_whole : MF := mBody 1 1 b_law_whole
theorem sc_law_truth : FnScope ["thing", "due"] ["thing", "due"] (defScope s_law_truth) := ⟨rfl, rfl, rfl, by decide +kernel, rfl, by decide +kernel, by decide +kernel⟩
def b_law_truth : SF := (sRet (eOfN (nOfB (bAnd (bUn (isiT "bool") (bOfP (pVar 0))) (bOp eqT (bOfP (pVar 0)) (bOfP (pVar 1)))))))
def m_law_truth : MF := mBody 2 2 b_law_truth
theorem sc_law_kinds : FnScope ["e", "some", "words", "k"] ["e"] (defScope s_law_kinds) := ⟨rfl, rfl, rfl, by decide +kernel, rfl, by decide +kernel, by decide +kernel⟩
def b_law_kinds (b0 b1 b2 b3 b4 b5 b6 b7 b8 b9 b10 b11 b12 b13 : Bool) : SF := (sSeq (sSet 1 (eDisp .lst (aVal (eOfN (nC (.bl b3))) (aVal (eOfN (nC (.bl b2))) (aVal (eOfN (nC (.bl b1))) (aVal (eOfN (nC (.bl b0))) aNil))))))
    (sSeq (sSet 1 (eOfN (bOp addA (bOfP (pVar 1)) (nLst (baVal (nC (.bl b7)) (baVal (nC (.bl b6)) (baVal (nC (.bl b5)) (baVal (nC (.bl b4)) baNil))))))))
    (sSeq (sSet 1 (eOfN (bOp addA (bOfP (pVar 1)) (nLst (baVal (nC (.bl b11)) (baVal (nC (.bl b10)) (baVal (nC (.bl b9)) (baVal (nC (.bl b8)) baNil))))))))
    (sSeq (sSet 2 (eDisp .lst (aVal (eOfN (nC (.str "Asleep"))) (aVal (eOfN (nC (.str "BadRow"))) (aVal (eOfN (nC (.str "Here"))) (aVal (eOfN (nC (.str "NoCall"))) (aVal (eOfN (nC (.str "NoDeed"))) (aVal (eOfN (nC (.str "NoHand"))) (aVal (eOfN (nC (.str "NoLeaf"))) (aVal (eOfN (nC (.str "NoPage"))) (aVal (eOfN (nC (.str "NoRight"))) (aVal (eOfN (nC (.str "NoRoom"))) aNil))))))))))))
    (sSeq (sSet 2 (eOfN (bOp addA (bOfP (pVar 2)) (nLst (baVal (nC (.str "NoSpace")) (baVal (nC (.str "Taken")) (baVal (nC (.str "Waits")) (baVal (nC (.str "+")) baNil))))))))
    (sSeq (sSet 1 (eOfN (bOp addA (bOfP (pVar 1)) (nLst (baVal (nC (.bl b13)) (baVal (nC (.bl b12)) baNil))))))
    (sRet (eUn (joinT "") (eLcR 3 [3] (eOfN (nC (.int 14))) (eOfN (bOp ixT (bOfP (pVar 1)) (bOfP (pVar 3)))) (eOfN (bOp ixT (bOfP (pVar 2)) (bOfP (pVar 3)))))))))))))
theorem sc_law_held : FnScope ["pending", "space", "page", "one"] ["pending", "space", "page"] (defScope s_law_held) := ⟨rfl, rfl, rfl, by decide +kernel, rfl, by decide +kernel, by decide +kernel⟩
def b_law_held : SF := (sRet (eOfN (bLkD (pVar 0) (bOp neL (bLc [3] (tgN 3) (bOfP (pVar 0)) (bAnd (bOp eqT (bOp ixB (bOfP (pVar 3)) (nC (.int 1))) (bOfP (pVar 1))) (bOp inA (bOfP (pVar 2)) (bOp ixB (bOfP (pVar 3)) (nC (.int 2))))) (nOfB (bOfP (pVar 3)))) (nLst baNil)))))
def m_law_held : MF := mBody 3 4 b_law_held
theorem sc_law_answered : FnScope ["deeds", "pending", "hand", "due", "one", "found", "other"] ["deeds", "pending", "hand"] (defScope s_law_answered) := ⟨rfl, rfl, rfl, by decide +kernel, rfl, by decide +kernel, by decide +kernel⟩
def b_law_answered : SF := (sSeq (sSet 3 (eDisp .lst aNil))
    (sSeq (sForJ 1 4 (sIf (eOfN (bOp inA (bOfP (pVar 2)) (bOp ixB (bOfP (pVar 4)) (nC (.int 4))))) (sSetA (pVar 4) (nC (.int 4)) (eOfN (bLc [6] (tgN 6) (bOp ixB (bOfP (pVar 4)) (nC (.int 4))) (bOp neT (bOfP (pVar 6)) (bOfP (pVar 2))) (nOfB (bOfP (pVar 6)))))) sNil) (eOfN (bOp eqT (bOp ixB (bOfP (pVar 4)) (nC (.int 4))) (nLst baNil))) (sExpr (eMutV appM 3 (aVal (eOfN (nTup (baVal (nOfB (bOp ixB (bOfP (pVar 4)) (nC (.int 0)))) (baVal (bUn tupleT (bOp ixB (bOfP (pVar 4)) (nC (.int 3)))) baNil)))) aNil))))
    (sSeq (sSet 5 (eMeth m_Deeds_answered 2 0 "answered" 0 (aRef 2 aNil)))
    (sSeq (sIf (eOr (eNot (eOfN (bUn (isiT "list") (bOfP (pVar 5))))) (eOfN (bOp neT (bOfP (pVar 5)) (bOfP (pVar 3))))) (sRet (eOfN (nC (.bl false)))) sNil)
    (sSeq (sExpr (eMutV appM 5 (aVal (eOfN (nTup (baVal (nC (.int 0)) (baVal (nTup baNil) baNil)))) aNil)))
    (sRet (eOfN (nC (.bl true)))))))))
def m_law_answered : MF := mBody 3 7 b_law_answered
theorem sc_law_told : FnScope ["deeds", "number", "kind", "told", "e"] ["deeds", "number"] (defScope s_law_told) := ⟨rfl, rfl, rfl, by decide +kernel, rfl, by decide +kernel, by decide +kernel⟩
def b_law_told : SF := (sSeq (sSet 2 (eOfN (nC (.str ""))))
    (sSeq (sSet 3 (eOfN (nC .non)))
    (sSeq (sTryK kn 4 2 (sSet 3 (eMeth m_Deeds_is_told 2 0 "is_told" 0 (aRef 1 aNil))))
    (sRet (eDisp .lst (aVal (eVar 2) (aVal (eVar 3) aNil)))))))
def m_law_told : MF := mBody 2 5 b_law_told
theorem sc_law_stands : FnScope ["deeds", "coming", "pending", "wide", "told", "waiting", "number", "space", "page", "one"] ["deeds", "coming", "pending", "wide"] (defScope s_law_stands) := ⟨rfl, rfl, rfl, by decide +kernel, rfl, by decide +kernel, by decide +kernel⟩
def b_law_stands : SF := (sSeq (sSet 4 (eMethP m_Deeds_waiting 1 0 "waiting" (pVar 0) baNil))
    (sSeq (sIf (eOr (eNot (eOfN (bUn (isiT "list") (bOfP (pVar 4))))) (eOfN (bOp neT (bOfP (pVar 4)) (bLkD (pVar 2) (bLc [9] (tgN 9) (bOfP (pVar 2)) bYes (nTup (baVal (nOfB (bOp ixB (bOfP (pVar 9)) (nC (.int 0)))) (baVal (bUn tupleT (bOp ixB (bOfP (pVar 9)) (nC (.int 4)))) baNil)))))))) (sRet (eOfN (nC (.bl false)))) sNil)
    (sSeq (sExpr (eMutV appM 4 (aVal (eOfN (nTup (baVal (nC (.int 0)) (baVal (nTup (baVal (nC (.int 1)) baNil)) baNil)))) aNil)))
    (sSeq (sSet 5 (eOfN (bLkD (pVar 2) (bLc [9] (tgN 9) (bOfP (pVar 2)) bYes (nOfB (bOp ixB (bOfP (pVar 9)) (nC (.int 0))))))))
    (sSeq (sForR (tgN 6) (eVar 1) (sIf (eNot (eCall m_law_truth 2 (aVal (eMeth m_Deeds_is_told 2 0 "is_told" 0 (aRef 6 aNil)) (aVal (eOfN (bOp notInA (bOfP (pVar 6)) (bOfP (pVar 5)))) aNil)))) (sRet (eOfN (nC (.bl false)))) sNil))
    (sSeq (sForE (tgN 6) (eDisp .lst (aVal (eVar 1) (aVal (eOfN (bUn negT (nC (.int 1)))) (aVal (eOfN (bOp powT (nC (.int 10)) (nC (.int 39)))) aNil)))) (sIf (eOpB neT (eCall m_law_told 2 (aRef 0 (aRef 6 aNil))) (nLst (baVal (nC (.str "NoDeed+")) (baVal (nC .non) baNil)))) (sRet (eOfN (nC (.bl false)))) sNil))
    (sSeq (sForR (tgN 7) (eOfN (nC (.int 4))) (sForR (tgN 8) (eVar 3) (sIf (eNot (eCall m_law_truth 2 (aVal (eMeth m_Deeds_holds 3 0 "holds" 0 (aRef 7 (aRef 8 aNil))) (aVal (eCall m_law_held 3 (aRef 2 (aRef 7 (aRef 8 aNil)))) aNil)))) (sRet (eOfN (nC (.bl false)))) sNil)))
    (sRet (eOpB eqT (eUn lenT (eMethP m_Deeds_waiting 1 0 "waiting" (pVar 0) baNil)) (bUn lenT (bOfP (pVar 2))))))))))))
def m_law_stands : MF := mBody 4 10 b_law_stands
theorem sc_law_begun : FnScope ["bag", "deeds", "coming", "pending", "wide", "hands", "hand", "space", "pages", "rooms", "handed", "found", "some", "page", "k"] ["bag", "deeds", "coming", "pending", "wide"] (defScope s_law_begun) := ⟨rfl, rfl, rfl, by decide +kernel, rfl, by decide +kernel, by decide +kernel⟩
def b_law_begun : SF := (sSeq (sSet 5 (eDisp .lst aNil))
    (sSeq (sForR (tgN 6) (eOfN (nC (.int 8))) (sIf (eOpB eqT (eCall m_law_take 2 (aRef 0 (aVal (eOfN (nC (.int 4))) aNil))) (nC (.int 0))) (sExpr (eMutV insM 5 (aVal (eCall m_law_take 2 (aRef 0 (aVal (eOfN (bOp addA (bUn lenT (bOfP (pVar 5))) (nC (.int 1)))) aNil))) (aVal (eVar 6) aNil)))) sNil))
    (sSeq (sSet 7 (eCall m_law_take 2 (aRef 0 (aVal (eOfN (nC (.int 4))) aNil))))
    (sSeq (sSet 8 (eLcE 13 [13] (eCall m_law_pages 2 (aRef 0 (aRef 4 aNil))) (eNot (eCall m_law_held 3 (aRef 3 (aRef 7 (aRef 13 aNil))))) (eVar 13)))
    (sSeq (sSet 9 (eLcR 14 [14] (eCall m_law_take 2 (aRef 0 (aVal (eOfN (nC (.int 9))) aNil))) eYes (eCall m_law_take 2 (aRef 0 (aVal (eOp ixA (eDisp .lst (aVal (eOfN (nC (.int 3))) (aVal (eOfN (nC (.int 60))) aNil))) (eCall m_law_take 2 (aRef 0 (aVal (eOfN (nC (.int 2))) aNil)))) aNil)))))
    (sSeq (sSet 10 (eDisp .lst (aVal (eOfN (bUn listT (bOfP (pVar 8)))) (aVal (eOfN (bUn listT (bOfP (pVar 9)))) (aVal (eOfN (bUn listT (bOfP (pVar 5)))) aNil)))))
    (sSeq (sSet 11 (eLkL 10 (eMeth m_Deeds_begin 5 0 "begin" 1 (aRef 7 (aVal (eOfN (nOfB (bOp ixB (bOfP (pVar 10)) (nC (.int 0))))) (aVal (eOfN (nOfB (bOp ixB (bOfP (pVar 10)) (nC (.int 1))))) (aVal (eOfN (nOfB (bOp ixB (bOfP (pVar 10)) (nC (.int 2))))) aNil)))))))
    (sSeq (sIf (eOr (eOfN (bOp neT (bOfP (pVar 10)) (bLst3 8 9 5))) (eOr (eNot (eCall m_law_whole 1 (aRef 11 aNil))) (eOfN (bOp neT (bOfP (pVar 11)) (bOfP (pVar 2)))))) (sRet (eOfN (nC (.bl false)))) sNil)
    (sSeq (sForL 10 12 (sExpr (eMutV appM 12 (aVal (eOfN (nC (.int 7))) aNil))))
    (sSeq (sIf (eOfN (bOp neT (bOfP (pVar 5)) (nLst baNil))) (sExpr (eMutV appM 3 (aVal (eDisp .lst (aVal (eVar 2) (aVal (eVar 7) (aVal (eVar 8) (aVal (eVar 9) (aVal (eVar 5) aNil)))))) aNil))) sNil)
    (sRet (eOfN (nC (.bl true))))))))))))))
def m_law_begun : MF := mBody 5 15 b_law_begun
theorem sc_law : FnScope ["script", "first", "wide", "deeds", "other", "pending", "coming", "k", "bag"] ["script"] (defScope s_law) := ⟨rfl, rfl, rfl, by decide +kernel, rfl, by decide +kernel, by decide +kernel⟩
def b_law : SF := (sSeq (sSet 1 (eCall m_law_bag 2 (aRef 0 (aVal (eOfN (nC (.int 0))) aNil))))
    (sSeq (sSet 2 (eOp ixA (eDisp .lst (aVal (eOfN (nC (.int 4))) (aVal (eOfN (nC (.int 30))) aNil))) (eCall m_law_take 2 (aRef 1 (aVal (eOfN (nC (.int 2))) aNil)))))
    (sSeq (sSet 3 (eMake m_Deeds___init 1 0 aNil))
    (sSeq (sSet 4 (eMake m_Deeds___init 1 0 aNil))
    (sSeq (sSet 5 (eDisp .lst aNil))
    (sSeq (sSet 6 (eOfN (nC (.int 0))))
    (sSeq (sForR (tgN 7) (eOfN (bOp addA (bOp minT (bUn lenT (bOfP (pVar 0))) (nC (.int 63))) (nC (.int 3)))) (sSeq (sSet 8 (eCall m_law_bag 2 (aRef 0 (aRef 7 aNil))))
    (sSeq (sIf (eOpB eqT (eCall m_law_take 2 (aRef 8 (aVal (eOfN (nC (.int 2))) aNil))) (nC (.int 0))) (sSeq (sIf (eNot (eCall m_law_begun 5 (aRef 8 (aRef 3 (aRef 6 (aRef 5 (aRef 2 aNil))))))) (sRet (eOfN (nC (.bl false)))) sNil)
    (sSet 6 (eOfN (bOp addA (bOfP (pVar 6)) (nC (.int 1)))))) (sIf (eNot (eCall m_law_answered 3 (aRef 3 (aRef 5 (aVal (eCall m_law_take 2 (aRef 8 (aVal (eOfN (nC (.int 8))) aNil))) aNil))))) (sRet (eOfN (nC (.bl false)))) sNil))
    (sIf (eAnd (eOfN (bOp eqT (bOp modT (bOfP (pVar 7)) (nC (.int 6))) (nC (.int 0)))) (eNot (eCall m_law_stands 4 (aRef 3 (aRef 6 (aRef 5 (aRef 2 aNil))))))) (sRet (eOfN (nC (.bl false)))) sNil))))
    (sRet (eAnd (eCall m_law_stands 4 (aRef 3 (aRef 6 (aRef 5 (aRef 2 aNil))))) (eAnd (eOpB eqT (eMethP m_Deeds_waiting 1 0 "waiting" (pVar 4) baNil) (nLst baNil)) (eOpB eqT (eMeth m_Deeds_begin 5 0 "begin" 4 (aVal (eOfN (nC (.int 0))) (aVal (eDisp .lst aNil) (aVal (eDisp .lst aNil) (aVal (eDisp .lst (aVal (eOfN (nC (.int 1))) aNil)) aNil))))) (nC (.int 0)))))))))))))
def m_law : MF := mBody 1 9 b_law
section
variable {P : Program} {w : World} {K : PySem.W.Frag} {cl : Nat → Addr} {okc : ∀ c f, f ∈ ct c → Cls K (cl c) ∧ NoAttr K (cl c) f} {mg : Str → Option Value} {base : Heap}
theorem ok_Deeds___init {f : Addr} {fd : FuncData} (F : Fun K "__init__" "Deeds.__init__" s_Deeds___init f fd) (B : Bi mg) : FnOk P w K mg base (L2N.CX P w) 1 f fd ["self"] (spT (gx K cl okc) 1 m_Deeds___init) := by
  refine fn_okT (Γ := gx K cl okc) (k := 0) F sc_Deeds___init fun cdv A outer s H E ar hr hL0 => ?_
  have tk : L2N.Takes (cxOf (L2N.CX P w) P w (gx K cl okc).K mg base ["self"] "Deeds.__init__" (defScope s_Deeds___init) f cdv A outer s H E) (fun cls d _ H => E cls d H) := L2N.takes_of rfl rfl rfl rfl
  have po : PassesOwn (model P w) (cxOf (L2N.CX P w) P w (gx K cl okc).K mg base ["self"] "Deeds.__init__" (defScope s_Deeds___init) f cdv A outer s H E).A (cxOf (L2N.CX P w) P w (gx K cl okc).K mg base ["self"] "Deeds.__init__" (defScope s_Deeds___init) f cdv A outer s H E).env (cxOf (L2N.CX P w) P w (gx K cl okc).K mg base ["self"] "Deeds.__init__" (defScope s_Deeds___init) f cdv A outer s H E).xe := passes_of rfl
  have hL : Loc' [] ar := fun j hj => hL0 j (by revert j; decide)
  unfold b_Deeds___init
  exact (ss_cons (s_fld (pp_var 0) (pe_en n_int))
      (ss_one (s_fld (pp_var 0) (e_lst a_nil))))
theorem ok_Deeds_begin {f : Addr} {fd : FuncData} (F : Fun K "begin" "Deeds.begin" s_Deeds_begin f fd) (B : Bi mg) : FnOk P w K mg base (L2N.CX P w) 1 f fd ["self", "space", "pages", "rooms", "hands"] (spT (gx K cl okc) 5 m_Deeds_begin) := by
  refine fn_okT (Γ := gx K cl okc) (k := 0) F sc_Deeds_begin fun cdv A outer s H E ar hr hL0 => ?_
  have tk : L2N.Takes (cxOf (L2N.CX P w) P w (gx K cl okc).K mg base ["self", "space", "pages", "rooms", "hands", "number"] "Deeds.begin" (defScope s_Deeds_begin) f cdv A outer s H E) (fun cls d _ H => E cls d H) := L2N.takes_of rfl rfl rfl rfl
  have po : PassesOwn (model P w) (cxOf (L2N.CX P w) P w (gx K cl okc).K mg base ["self", "space", "pages", "rooms", "hands", "number"] "Deeds.begin" (defScope s_Deeds_begin) f cdv A outer s H E).A (cxOf (L2N.CX P w) P w (gx K cl okc).K mg base ["self", "space", "pages", "rooms", "hands", "number"] "Deeds.begin" (defScope s_Deeds_begin) f cdv A outer s H E).env (cxOf (L2N.CX P w) P w (gx K cl okc).K mg base ["self", "space", "pages", "rooms", "hands", "number"] "Deeds.begin" (defScope s_Deeds_begin) f cdv A outer s H E).xe := passes_of rfl
  have hL : Loc' [5] ar := fun j hj => hL0 j (by revert j; decide)
  unfold b_Deeds_begin
  exact (ss_cons (s_set 5 (hL _ (by decide)) sc_Deeds_begin.nd (pe_en (pe_nb (pe_bp (p_fld (pp_var 0))))))
      (ss_cons (s_fld (pp_var 0) (pe_en (nOp op_addA addA_ok (pe_bp (pp_var 5)) (pe_bn n_int))))
      (ss_cons (s_if (t_cmpN op_gt gtT_ok (pe_bn (n_len B.len (pe_bp (pp_var 4)))) (pe_bn n_int) (nomark _)) (ss_one (s_expr (e_lmP appM_ok PySem.F.slot_list_append PySem.F.type_list_append mt_append (p_fld (pp_var 0)) (ba_val (n_tup (ba_ref 5 (ba_ref 1 (ba_val (n_tuple B.tuple (pe_bp (pp_var 2))) (ba_val (n_tuple B.tuple (pe_bp (pp_var 3))) (ba_val (n_tuple B.tuple (pe_bp (pp_var 4))) ba_nil)))))) ba_nil)))) ss_nil)
      (ss_one (s_ret (pe_evar 5))))))
theorem ok_Deeds_holds {f : Addr} {fd : FuncData} (F : Fun K "holds" "Deeds.holds" s_Deeds_holds f fd) (B : Bi mg) : FnOk P w K mg base (L2N.CX P w) 1 f fd ["self", "space", "page"] (spT (gx K cl okc) 3 m_Deeds_holds) := by
  refine fn_okT (Γ := gx K cl okc) (k := 0) F sc_Deeds_holds fun cdv A outer s H E ar hr hL0 => ?_
  have tk : L2N.Takes (cxOf (L2N.CX P w) P w (gx K cl okc).K mg base ["self", "space", "page", "one"] "Deeds.holds" (defScope s_Deeds_holds) f cdv A outer s H E) (fun cls d _ H => E cls d H) := L2N.takes_of rfl rfl rfl rfl
  have po : PassesOwn (model P w) (cxOf (L2N.CX P w) P w (gx K cl okc).K mg base ["self", "space", "page", "one"] "Deeds.holds" (defScope s_Deeds_holds) f cdv A outer s H E).A (cxOf (L2N.CX P w) P w (gx K cl okc).K mg base ["self", "space", "page", "one"] "Deeds.holds" (defScope s_Deeds_holds) f cdv A outer s H E).env (cxOf (L2N.CX P w) P w (gx K cl okc).K mg base ["self", "space", "page", "one"] "Deeds.holds" (defScope s_Deeds_holds) f cdv A outer s H E).xe := passes_of rfl
  have hL : Loc' [3] ar := fun j hj => hL0 j (by revert j; decide)
  unfold b_Deeds_holds
  exact (ss_cons (s_forP 0 [3] po rfl hL (p_fld (pp_var 0)) (fun ar hL => tgN_ok (hL _ (by decide))) (pg_name (i := 3) sc_Deeds_holds.nd rfl (Or.inl rfl)) (fun ar hL => (ss_one (s_if (L2.PW.pt (w_and (t_cmpN (op_eqD hr.units) eqT_ok (b_ix (hu1 hr) (pe_bp (pp_var 3)) (pe_bn n_int) (fun _ _ => rfl)) (pe_bp (pp_var 1)) (nomark _)) (w_one_and (t_cmpN (op_inA (hu65 hr)) inA_ok (pe_bp (pp_var 2)) (b_ix (hu1 hr) (pe_bp (pp_var 3)) (pe_bn n_int) (fun _ _ => rfl)) (by rfl))))) (ss_one (s_ret (pe_en n_bl))) ss_nil))))
      (ss_one (s_ret (pe_en n_bl))))
theorem ok_Deeds_answered {f : Addr} {fd : FuncData} (F : Fun K "answered" "Deeds.answered" s_Deeds_answered f fd) (B : Bi mg) : FnOk P w K mg base (L2N.CX P w) 1 f fd ["self", "hand"] (spT (gx K cl okc) 2 m_Deeds_answered) := by
  refine fn_okT (Γ := gx K cl okc) (k := 0) F sc_Deeds_answered fun cdv A outer s H E ar hr hL0 => ?_
  have tk : L2N.Takes (cxOf (L2N.CX P w) P w (gx K cl okc).K mg base ["self", "hand", "left", "told", "number", "space", "pages", "rooms", "hands", "others", "other"] "Deeds.answered" (defScope s_Deeds_answered) f cdv A outer s H E) (fun cls d _ H => E cls d H) := L2N.takes_of rfl rfl rfl rfl
  have po : PassesOwn (model P w) (cxOf (L2N.CX P w) P w (gx K cl okc).K mg base ["self", "hand", "left", "told", "number", "space", "pages", "rooms", "hands", "others", "other"] "Deeds.answered" (defScope s_Deeds_answered) f cdv A outer s H E).A (cxOf (L2N.CX P w) P w (gx K cl okc).K mg base ["self", "hand", "left", "told", "number", "space", "pages", "rooms", "hands", "others", "other"] "Deeds.answered" (defScope s_Deeds_answered) f cdv A outer s H E).env (cxOf (L2N.CX P w) P w (gx K cl okc).K mg base ["self", "hand", "left", "told", "number", "space", "pages", "rooms", "hands", "others", "other"] "Deeds.answered" (defScope s_Deeds_answered) f cdv A outer s H E).xe := passes_of rfl
  have hL : Loc' [2, 3, 4, 5, 6, 7, 8, 9, 10] ar := fun j hj => hL0 j (by revert j; decide)
  unfold b_Deeds_answered
  exact (ss_cons (s_set 2 (hL _ (by decide)) sc_Deeds_answered.nd (e_lst a_nil))
      (ss_cons (s_set 3 (hL _ (by decide)) sc_Deeds_answered.nd (e_lst a_nil))
      (ss_cons (s_forP 0 [2, 3, 4, 5, 6, 7, 8, 9, 10] po rfl hL (p_fld (pp_var 0)) (fun ar hL => tgT_ok (fun j hj => hL j (by revert j; decide))) (pg_tup rfl (pgs_cons (pg_name (i := 4) sc_Deeds_answered.nd rfl (Or.inl rfl)) (pgs_cons (pg_name (i := 5) sc_Deeds_answered.nd rfl (Or.inl rfl)) (pgs_cons (pg_name (i := 6) sc_Deeds_answered.nd rfl (Or.inl rfl)) (pgs_cons (pg_name (i := 7) sc_Deeds_answered.nd rfl (Or.inl rfl)) (pgs_cons (pg_name (i := 8) sc_Deeds_answered.nd rfl (Or.inl rfl)) pgs_nil)))))) (fun ar hL => (ss_cons (s_set 9 (hL _ (by decide)) sc_Deeds_answered.nd (pe_en (n_tuple B.tuple (pe_bn (n_lc (own := [("other", 10)]) rfl sc_Deeds_answered.nd (fun ar h => tgwN (j := 10) (by decide) (h 10 (by decide))) (pe_bp (pp_var 8)) (blkOk_by (own := [("other", 10)]) (N := ["self", "hand", "left", "told", "number", "space", "pages", "rooms", "hands", "others", "other"]) (sc := defScope s_Deeds_answered) (by decide +kernel)) (fun _ _ _ _ _ => (pg_name (i := 10) sc_Deeds_answered.nd rfl (Or.inl rfl))) (fun _ _ _ _ _ => tb_one (fun ar _ => (tb_cmp (op_neD hr.units) neT_ok (pe_bp (pp_var 10)) (pe_bp (pp_var 1)) (nomark _)))) (fun _ _ _ _ _ => en_all (fun ar _ => (pe_nb (pe_bp (pp_var 10))))))))))
      (ss_one (s_if (t_cmpN (op_eqD hr.units) eqT_ok (pe_bp (pp_var 9)) (pe_bn (n_tup ba_nil)) (nomark _)) (ss_one (s_expr (e_lmV 3 appM_ok PySem.F.slot_list_append PySem.F.type_list_append mt_append (a_val (pe_en (n_tup (ba_ref 4 (ba_ref 7 ba_nil)))) a_nil)))) (ss_one (s_expr (e_lmV 2 appM_ok PySem.F.slot_list_append PySem.F.type_list_append mt_append (a_val (pe_en (n_tup (ba_ref 4 (ba_ref 5 (ba_ref 6 (ba_ref 7 (ba_ref 9 ba_nil))))))) a_nil)))))))))
      (ss_cons (s_fld (pp_var 0) (pe_evar 2))
      (ss_one (s_ret (pe_evar 3)))))))
theorem ok_Deeds_waiting {f : Addr} {fd : FuncData} (F : Fun K "waiting" "Deeds.waiting" s_Deeds_waiting f fd) (B : Bi mg) : FnOk P w K mg base (L2N.CX P w) 1 f fd ["self"] (spT (gx K cl okc) 1 m_Deeds_waiting) := by
  refine fn_okT (Γ := gx K cl okc) (k := 0) F sc_Deeds_waiting fun cdv A outer s H E ar hr hL0 => ?_
  have tk : L2N.Takes (cxOf (L2N.CX P w) P w (gx K cl okc).K mg base ["self", "one"] "Deeds.waiting" (defScope s_Deeds_waiting) f cdv A outer s H E) (fun cls d _ H => E cls d H) := L2N.takes_of rfl rfl rfl rfl
  have po : PassesOwn (model P w) (cxOf (L2N.CX P w) P w (gx K cl okc).K mg base ["self", "one"] "Deeds.waiting" (defScope s_Deeds_waiting) f cdv A outer s H E).A (cxOf (L2N.CX P w) P w (gx K cl okc).K mg base ["self", "one"] "Deeds.waiting" (defScope s_Deeds_waiting) f cdv A outer s H E).env (cxOf (L2N.CX P w) P w (gx K cl okc).K mg base ["self", "one"] "Deeds.waiting" (defScope s_Deeds_waiting) f cdv A outer s H E).xe := passes_of rfl
  have hL : Loc' [1] ar := fun j hj => hL0 j (by revert j; decide)
  unfold b_Deeds_waiting
  exact (ss_one (s_ret (pe_en (n_lc (own := [("one", 1)]) rfl sc_Deeds_waiting.nd (fun ar h => tgwN (j := 1) (by decide) (h 1 (by decide))) (pe_bp (p_fld (pp_var 0))) (blkOk_by (own := [("one", 1)]) (N := ["self", "one"]) (sc := defScope s_Deeds_waiting) (by decide +kernel)) (fun _ _ _ _ _ => (pg_name (i := 1) sc_Deeds_waiting.nd rfl (Or.inl rfl))) (fun _ _ _ _ _ => tb_nil) (fun _ _ _ _ _ => en_all (fun ar _ => (n_tup (ba_val (pe_nb (b_ix (hu1 hr) (pe_bp (pp_var 1)) (pe_bn n_int) (fun _ _ => rfl))) (ba_val (pe_nb (b_ix (hu1 hr) (pe_bp (pp_var 1)) (pe_bn n_int) (fun _ _ => rfl))) ba_nil)))))))))
theorem ok_Deeds_is_told {f : Addr} {fd : FuncData} (F : Fun K "is_told" "Deeds.is_told" s_Deeds_is_told f fd) (B : Bi mg) (X_NoDeed : RaiseOk K mg "NoDeed" (cl 9)) : FnOk P w K mg base (L2N.CX P w) 1 f fd ["self", "number"] (spT (gx K cl okc) 2 m_Deeds_is_told) := by
  refine fn_okT (Γ := gx K cl okc) (k := 0) F sc_Deeds_is_told fun cdv A outer s H E ar hr hL0 => ?_
  have tk : L2N.Takes (cxOf (L2N.CX P w) P w (gx K cl okc).K mg base ["self", "number", "one"] "Deeds.is_told" (defScope s_Deeds_is_told) f cdv A outer s H E) (fun cls d _ H => E cls d H) := L2N.takes_of rfl rfl rfl rfl
  have po : PassesOwn (model P w) (cxOf (L2N.CX P w) P w (gx K cl okc).K mg base ["self", "number", "one"] "Deeds.is_told" (defScope s_Deeds_is_told) f cdv A outer s H E).A (cxOf (L2N.CX P w) P w (gx K cl okc).K mg base ["self", "number", "one"] "Deeds.is_told" (defScope s_Deeds_is_told) f cdv A outer s H E).env (cxOf (L2N.CX P w) P w (gx K cl okc).K mg base ["self", "number", "one"] "Deeds.is_told" (defScope s_Deeds_is_told) f cdv A outer s H E).xe := passes_of rfl
  have hL : Loc' [2] ar := fun j hj => hL0 j (by revert j; decide)
  unfold b_Deeds_is_told
  exact (ss_cons (s_if (L2.PW.pt (w_or (t_cmpN op_lt ltT_ok (pe_bp (pp_var 1)) (pe_bn n_int) (nomark _)) (w_one_or (t_cmpN op_ge geT_ok (pe_bp (pp_var 1)) (pe_bp (p_fld (pp_var 0))) (nomark _))))) (ss_one (s_raiseX X_NoDeed tk)) ss_nil)
      (ss_one (s_ret (pe_en (nCmp (op_notInA (hu65 hr)) notInA_ok (pe_bp (pp_var 1)) (pe_bn (n_lc (own := [("one", 2)]) rfl sc_Deeds_is_told.nd (fun ar h => tgwN (j := 2) (by decide) (h 2 (by decide))) (pe_bp (p_fld (pp_var 0))) (blkOk_by (own := [("one", 2)]) (N := ["self", "number", "one"]) (sc := defScope s_Deeds_is_told) (by decide +kernel)) (fun _ _ _ _ _ => (pg_name (i := 2) sc_Deeds_is_told.nd rfl (Or.inl rfl))) (fun _ _ _ _ _ => tb_nil) (fun _ _ _ _ _ => en_all (fun ar _ => (pe_nb (b_ix (hu1 hr) (pe_bp (pp_var 2)) (pe_bn n_int) (fun _ _ => rfl))))))) (by rfl))))))
theorem ok_law_bag {f : Addr} {fd : FuncData} (F : Fun K "_law_bag" "_law_bag" s_law_bag f fd) (B : Bi mg) : FnOk P w K mg base (L2N.CX P w) 1 f fd ["script", "k"] (spT (gx K cl okc) 2 m_law_bag) := by
  refine fn_okT (Γ := gx K cl okc) (k := 0) F sc_law_bag fun cdv A outer s H E ar hr hL0 => ?_
  have tk : L2N.Takes (cxOf (L2N.CX P w) P w (gx K cl okc).K mg base ["script", "k", "cell", "seed"] "_law_bag" (defScope s_law_bag) f cdv A outer s H E) (fun cls d _ H => E cls d H) := L2N.takes_of rfl rfl rfl rfl
  have po : PassesOwn (model P w) (cxOf (L2N.CX P w) P w (gx K cl okc).K mg base ["script", "k", "cell", "seed"] "_law_bag" (defScope s_law_bag) f cdv A outer s H E).A (cxOf (L2N.CX P w) P w (gx K cl okc).K mg base ["script", "k", "cell", "seed"] "_law_bag" (defScope s_law_bag) f cdv A outer s H E).env (cxOf (L2N.CX P w) P w (gx K cl okc).K mg base ["script", "k", "cell", "seed"] "_law_bag" (defScope s_law_bag) f cdv A outer s H E).xe := passes_of rfl
  have hL : Loc' [2, 3] ar := fun j hj => hL0 j (by revert j; decide)
  unfold b_law_bag
  exact (ss_cons (s_set 2 (hL _ (by decide)) sc_law_bag.nd (pe_en n_int))
      (ss_cons (s_if (t_cmpN op_lt ltT_ok (pe_bp (pp_var 1)) (pe_bn (n_len B.len (pe_bp (pp_var 0)))) (nomark _)) (ss_one (s_set 2 (hL _ (by decide)) sc_law_bag.nd (pe_en (nOp op_mod modT_ok (b_ix (hu1 hr) (pe_bp (pp_var 0)) (pe_bp (pp_var 1)) (fun _ _ => rfl)) (pe_bn (nOp op_pow powT_ok (pe_bn n_int) (pe_bn n_int))))))) ss_nil)
      (ss_cons (s_set 3 (hL _ (by decide)) sc_law_bag.nd (pe_en (nOp op_addA addA_ok (pe_bn n_int) (pe_bn (nOp op_mod modT_ok (pe_bn (nOp op_addA addA_ok (pe_bn (nOp op_addA addA_ok (pe_bn (nOp op_addA addA_ok (pe_bn (nOp op_mulT mulT_ok (pe_bn (nOp op_mod modT_ok (pe_bp (pp_var 2)) (pe_bn n_int))) (pe_bn n_int))) (pe_bn (nOp op_mulT mulT_ok (pe_bn (nOp op_mulT mulT_ok (pe_bn n_int) (pe_bp (pp_var 1)))) (pe_bp (pp_var 1)))))) (pe_bn (nOp op_mulT mulT_ok (pe_bn n_int) (pe_bp (pp_var 1)))))) (pe_bn n_int))) (pe_bn n_int))))))
      (ss_cons (s_if (t_cmpN op_lt ltT_ok (pe_bp (pp_var 2)) (pe_bn (nOp op_pow powT_ok (pe_bn n_int) (pe_bn n_int))) (nomark _)) (ss_one (s_ret (e_lst (a_val (pe_en n_int) (a_val (pe_evar 3) a_nil))))) ss_nil)
      (ss_one (s_ret (e_lst (a_val (pe_evar 2) (a_val (pe_evar 3) a_nil)))))))))
theorem ok_law_take {f : Addr} {fd : FuncData} (F : Fun K "_law_take" "_law_take" s_law_take f fd) (B : Bi mg) : FnOk P w K mg base (L2N.CX P w) 1 f fd ["bag", "many"] (spT (gx K cl okc) 2 m_law_take) := by
  refine fn_okT (Γ := gx K cl okc) (k := 0) F sc_law_take fun cdv A outer s H E ar hr hL0 => ?_
  have tk : L2N.Takes (cxOf (L2N.CX P w) P w (gx K cl okc).K mg base ["bag", "many", "found"] "_law_take" (defScope s_law_take) f cdv A outer s H E) (fun cls d _ H => E cls d H) := L2N.takes_of rfl rfl rfl rfl
  have po : PassesOwn (model P w) (cxOf (L2N.CX P w) P w (gx K cl okc).K mg base ["bag", "many", "found"] "_law_take" (defScope s_law_take) f cdv A outer s H E).A (cxOf (L2N.CX P w) P w (gx K cl okc).K mg base ["bag", "many", "found"] "_law_take" (defScope s_law_take) f cdv A outer s H E).env (cxOf (L2N.CX P w) P w (gx K cl okc).K mg base ["bag", "many", "found"] "_law_take" (defScope s_law_take) f cdv A outer s H E).xe := passes_of rfl
  have hL : Loc' [2] ar := fun j hj => hL0 j (by revert j; decide)
  unfold b_law_take
  exact (ss_cons (s_if (t_cmpN op_gt gtT_ok (b_ix (hu1 hr) (pe_bp (pp_var 0)) (pe_bn n_int) (fun _ _ => rfl)) (pe_bn n_int) (nomark _)) (ss_cons (s_set 2 (hL _ (by decide)) sc_law_take.nd (pe_en (nOp op_mod modT_ok (b_ix (hu1 hr) (pe_bp (pp_var 0)) (pe_bn n_int) (fun _ _ => rfl)) (pe_bp (pp_var 1)))))
      (ss_cons (s_setA (hu1 hr) (pp_var 0) (pe_bn n_int) (pe_en (nOp op_fdiv fdivT_ok (b_ix (hu1 hr) (pe_bp (pp_var 0)) (pe_bn n_int) (fun _ _ => rfl)) (pe_bp (pp_var 1)))))
      (ss_one (s_ret (pe_evar 2))))) ss_nil)
      (ss_cons (s_setA (hu1 hr) (pp_var 0) (pe_bn n_int) (pe_en (nOp op_mod modT_ok (pe_bn (nOp op_mulT mulT_ok (b_ix (hu1 hr) (pe_bp (pp_var 0)) (pe_bn n_int) (fun _ _ => rfl)) (pe_bn n_int))) (pe_bn n_int))))
      (ss_one (s_ret (pe_en (nOp op_mod modT_ok (pe_bn (nOp op_fdiv fdivT_ok (pe_bn (nOp op_mod modT_ok (pe_bn (nOp op_mulT mulT_ok (pe_bn (nOp op_fdiv fdivT_ok (b_ix (hu1 hr) (pe_bp (pp_var 0)) (pe_bn n_int) (fun _ _ => rfl)) (pe_bn n_int))) (pe_bn (nOp op_addA addA_ok (pe_bn (nOp op_mod modT_ok (b_ix (hu1 hr) (pe_bp (pp_var 0)) (pe_bn n_int) (fun _ _ => rfl)) (pe_bn n_int))) (pe_bn n_int))))) (pe_bn n_int))) (pe_bn n_int))) (pe_bp (pp_var 1))))))))
theorem ok_law_pages {f : Addr} {fd : FuncData} (F : Fun K "_law_pages" "_law_pages" s_law_pages f fd) (B : Bi mg) (D_law_take : DefOk P w (gx K cl okc) mg base 1 "_law_take" 2 m_law_take) : FnOk P w K mg base (L2N.CX P w) 2 f fd ["bag", "many"] (spT (gx K cl okc) 2 m_law_pages) := by
  refine fn_okT (Γ := gx K cl okc) (k := 1) F sc_law_pages fun cdv A outer s H E ar hr hL0 => ?_
  have tk : L2N.Takes (cxOf (L2N.CX P w) P w (gx K cl okc).K mg base ["bag", "many", "left", "found", "k"] "_law_pages" (defScope s_law_pages) f cdv A outer s H E) (fun cls d _ H => E cls d H) := L2N.takes_of rfl rfl rfl rfl
  have po : PassesOwn (model P w) (cxOf (L2N.CX P w) P w (gx K cl okc).K mg base ["bag", "many", "left", "found", "k"] "_law_pages" (defScope s_law_pages) f cdv A outer s H E).A (cxOf (L2N.CX P w) P w (gx K cl okc).K mg base ["bag", "many", "left", "found", "k"] "_law_pages" (defScope s_law_pages) f cdv A outer s H E).env (cxOf (L2N.CX P w) P w (gx K cl okc).K mg base ["bag", "many", "left", "found", "k"] "_law_pages" (defScope s_law_pages) f cdv A outer s H E).xe := passes_of rfl
  have hL : Loc' [2, 3, 4] ar := fun j hj => hL0 j (by revert j; decide)
  unfold b_law_pages
  exact (ss_cons (s_set 2 (hL _ (by decide)) sc_law_pages.nd (pe_en (n_listRg rfl B.list B.range (pe_bp (pp_var 1)))))
      (ss_cons (s_set 3 (hL _ (by decide)) sc_law_pages.nd (e_lst a_nil))
      (ss_cons (s_forR po rfl (tgN_ok (hL _ (by decide))) B.range (e_call D_law_take (hr.mono (by decide)) tk (a_ref 0 (a_val (eOpEB op_addA addA_ok (e_min rfl B.min (pe_evar 1) (eIxA (hu1 hr) (e_lst (a_val (pe_en n_int) (a_val (pe_en n_int) a_nil))) (e_call D_law_take (hr.mono (by decide)) tk (a_ref 0 (a_val (pe_en n_int) a_nil))) (fun _ _ => rfl))) (pe_bn n_int)) a_nil))) (pg_name (i := 4) sc_law_pages.nd rfl (Or.inl rfl)) (ss_one (s_expr (e_lmV 3 appM_ok PySem.F.slot_list_append PySem.F.type_list_append mt_append (a_val (e_lmV 2 popM_ok PySem.F.slot_list_pop PySem.F.type_list_pop mt_popAt (a_val (e_call D_law_take (hr.mono (by decide)) tk (a_ref 0 (a_val (pe_en (n_len B.len (pe_bp (pp_var 2)))) a_nil))) a_nil)) a_nil)))))
      (ss_one (s_ret (pe_evar 3))))))
theorem ok_law_whole {f : Addr} {fd : FuncData} (F : Fun K "_law_whole" "_law_whole" s_law_whole f fd) (B : Bi mg) : FnOk P w K mg base (L2N.CX P w) 1 f fd ["thing"] (spT (gx K cl okc) 1 m_law_whole) := by
  refine fn_okT (Γ := gx K cl okc) (k := 0) F sc_law_whole fun cdv A outer s H E ar hr hL0 => ?_
  have tk : L2N.Takes (cxOf (L2N.CX P w) P w (gx K cl okc).K mg base ["thing"] "_law_whole" (defScope s_law_whole) f cdv A outer s H E) (fun cls d _ H => E cls d H) := L2N.takes_of rfl rfl rfl rfl
  have po : PassesOwn (model P w) (cxOf (L2N.CX P w) P w (gx K cl okc).K mg base ["thing"] "_law_whole" (defScope s_law_whole) f cdv A outer s H E).A (cxOf (L2N.CX P w) P w (gx K cl okc).K mg base ["thing"] "_law_whole" (defScope s_law_whole) f cdv A outer s H E).env (cxOf (L2N.CX P w) P w (gx K cl okc).K mg base ["thing"] "_law_whole" (defScope s_law_whole) f cdv A outer s H E).xe := passes_of rfl
  have hL : Loc' [] ar := fun j hj => hL0 j (by revert j; decide)
  unfold b_law_whole
  exact (ss_one (s_ret (pe_en (pe_nb (b_and (pe_bn (n_isi (n := "int") (by decide) B.isinstance B.int (by decide +kernel) (pe_bp (pp_var 0)))) (pe_one (b_not (pe_bn (n_isi (n := "bool") (by decide) B.isinstance B.bool (by decide +kernel) (pe_bp (pp_var 0)))))))))))
theorem ok_law_truth {f : Addr} {fd : FuncData} (F : Fun K "_law_truth" "_law_truth" s_law_truth f fd) (B : Bi mg) : FnOk P w K mg base (L2N.CX P w) 1 f fd ["thing", "due"] (spT (gx K cl okc) 2 m_law_truth) := by
  refine fn_okT (Γ := gx K cl okc) (k := 0) F sc_law_truth fun cdv A outer s H E ar hr hL0 => ?_
  have tk : L2N.Takes (cxOf (L2N.CX P w) P w (gx K cl okc).K mg base ["thing", "due"] "_law_truth" (defScope s_law_truth) f cdv A outer s H E) (fun cls d _ H => E cls d H) := L2N.takes_of rfl rfl rfl rfl
  have po : PassesOwn (model P w) (cxOf (L2N.CX P w) P w (gx K cl okc).K mg base ["thing", "due"] "_law_truth" (defScope s_law_truth) f cdv A outer s H E).A (cxOf (L2N.CX P w) P w (gx K cl okc).K mg base ["thing", "due"] "_law_truth" (defScope s_law_truth) f cdv A outer s H E).env (cxOf (L2N.CX P w) P w (gx K cl okc).K mg base ["thing", "due"] "_law_truth" (defScope s_law_truth) f cdv A outer s H E).xe := passes_of rfl
  have hL : Loc' [] ar := fun j hj => hL0 j (by revert j; decide)
  unfold b_law_truth
  exact (ss_one (s_ret (pe_en (pe_nb (b_and (pe_bn (n_isi (n := "bool") (by decide) B.isinstance B.bool (by decide +kernel) (pe_bp (pp_var 0)))) (pe_one (pe_bn (nCmp (op_eqD hr.units) eqT_ok (pe_bp (pp_var 0)) (pe_bp (pp_var 1)) (nomark _)))))))))
theorem okk {f : Addr} {fd : FuncData} (F : Fun K "_law_kinds" "_law_kinds" s_law_kinds f fd) (B : Bi mg) {Dx A0 A1 A2 A3 A4 A5 A6 A7 A8 A9 A10 A11 A13 : Addr} {b0 b1 b2 b3 b4 b5 b6 b7 b8 b9 b10 b11 b12 b13 : Bool} (g0 : mg "NoCall" = some (.ref A0)) (g1 : mg "Here" = some (.ref A1)) (g2 : mg "BadRow" = some (.ref A2)) (g3 : mg "Asleep" = some (.ref A3)) (g4 : mg "NoPage" = some (.ref A4)) (g5 : mg "NoLeaf" = some (.ref A5)) (g6 : mg "NoHand" = some (.ref A6)) (g7 : mg "NoDeed" = some (.ref A7)) (g8 : mg "Taken" = some (.ref A8)) (g9 : mg "NoSpace" = some (.ref A9)) (g10 : mg "NoRoom" = some (.ref A10)) (g11 : mg "NoRight" = some (.ref A11)) (g13 : mg "Waits" = some (.ref A13)) (Cx : ExcC K Dx) (k0 : PySem.W.kitOne K (.ref Dx) (.ref A0) = some b0) (k1 : PySem.W.kitOne K (.ref Dx) (.ref A1) = some b1) (k2 : PySem.W.kitOne K (.ref Dx) (.ref A2) = some b2) (k3 : PySem.W.kitOne K (.ref Dx) (.ref A3) = some b3) (k4 : PySem.W.kitOne K (.ref Dx) (.ref A4) = some b4) (k5 : PySem.W.kitOne K (.ref Dx) (.ref A5) = some b5) (k6 : PySem.W.kitOne K (.ref Dx) (.ref A6) = some b6) (k7 : PySem.W.kitOne K (.ref Dx) (.ref A7) = some b7) (k8 : PySem.W.kitOne K (.ref Dx) (.ref A8) = some b8) (k9 : PySem.W.kitOne K (.ref Dx) (.ref A9) = some b9) (k10 : PySem.W.kitOne K (.ref Dx) (.ref A10) = some b10) (k11 : PySem.W.kitOne K (.ref Dx) (.ref A11) = some b11) (k12 : PySem.W.kitOne K (.ref Dx) (.type "ValueError") = some b12) (k13 : PySem.W.kitOne K (.ref Dx) (.ref A13) = some b13) {kd : Str} {S1 : TSt} (he : b_law_kinds b0 b1 b2 b3 b4 b5 b6 b7 b8 b9 b10 b11 b12 b13 (List.replicate 4 none) = some (.rt (.str kd), S1)) : FnE P w (gx K cl okc).K mg base (L2N.CX P w) 1 f fd ["e"] (spK Dx kd) := by
  refine fn_okE (Γ := gx K cl okc) (W := fun _ _ _ _ => False) (k := 0) F sc_law_kinds (by decide) (fun cdv A outer s H E pr hot1 hr hz hf => ?_) he
  have hC := call_isP (X := L2H.cxH (L2N.CX P w) P w (gx K cl okc).K mg base ["e", "some", "words", "k"] "_law_kinds" (defScope s_law_kinds) f cdv A outer s H E pr) (a := pr.1) (oe := pr.2) Cx hz hf List.mem_cons_self
  have hot : L2H.HotC (L2H.cxH (L2N.CX P w) P w (gx K cl okc).K mg base ["e", "some", "words", "k"] "_law_kinds" (defScope s_law_kinds) f cdv A outer s H E pr) := ⟨pr, hot1, List.mem_cons_self⟩
  have hL : Loc' [1, 2, 3] (arE pr.1) := fun j hj => by revert j; simp [arE]
  unfold b_law_kinds
  exact (ss_cons (s_set 1 (hL _ (by decide)) sc_law_kinds.nd (e_lst (a_val (pe_en (n_isE (i := 0) (v := .ref A3) (cv := .ref A3) hC rfl (pe_glob (by rfl) g3 rfl) (fun _ h => h) k3 B.isinstance)) (a_val (pe_en (n_isE (i := 0) (v := .ref A2) (cv := .ref A2) hC rfl (pe_glob (by rfl) g2 rfl) (fun _ h => h) k2 B.isinstance)) (a_val (pe_en (n_isE (i := 0) (v := .ref A1) (cv := .ref A1) hC rfl (pe_glob (by rfl) g1 rfl) (fun _ h => h) k1 B.isinstance)) (a_val (pe_en (n_isE (i := 0) (v := .ref A0) (cv := .ref A0) hC rfl (pe_glob (by rfl) g0 rfl) (fun _ h => h) k0 B.isinstance)) a_nil))))))
      (ss_cons (s_set 1 (hL _ (by decide)) sc_law_kinds.nd (pe_en (nOp op_addA addA_ok (pe_bp (pp_var 1)) (pe_bn (n_lst (ba_val (n_isE (i := 0) (v := .ref A7) (cv := .ref A7) hC rfl (pe_glob (by rfl) g7 rfl) (fun _ h => h) k7 B.isinstance) (ba_val (n_isE (i := 0) (v := .ref A6) (cv := .ref A6) hC rfl (pe_glob (by rfl) g6 rfl) (fun _ h => h) k6 B.isinstance) (ba_val (n_isE (i := 0) (v := .ref A5) (cv := .ref A5) hC rfl (pe_glob (by rfl) g5 rfl) (fun _ h => h) k5 B.isinstance) (ba_val (n_isE (i := 0) (v := .ref A4) (cv := .ref A4) hC rfl (pe_glob (by rfl) g4 rfl) (fun _ h => h) k4 B.isinstance) ba_nil)))))))))
      (ss_cons (s_set 1 (hL _ (by decide)) sc_law_kinds.nd (pe_en (nOp op_addA addA_ok (pe_bp (pp_var 1)) (pe_bn (n_lst (ba_val (n_isE (i := 0) (v := .ref A11) (cv := .ref A11) hC rfl (pe_glob (by rfl) g11 rfl) (fun _ h => h) k11 B.isinstance) (ba_val (n_isE (i := 0) (v := .ref A10) (cv := .ref A10) hC rfl (pe_glob (by rfl) g10 rfl) (fun _ h => h) k10 B.isinstance) (ba_val (n_isE (i := 0) (v := .ref A9) (cv := .ref A9) hC rfl (pe_glob (by rfl) g9 rfl) (fun _ h => h) k9 B.isinstance) (ba_val (n_isE (i := 0) (v := .ref A8) (cv := .ref A8) hC rfl (pe_glob (by rfl) g8 rfl) (fun _ h => h) k8 B.isinstance) ba_nil)))))))))
      (ss_cons (s_set 2 (hL _ (by decide)) sc_law_kinds.nd (e_lst (a_val (pe_en n_str) (a_val (pe_en n_str) (a_val (pe_en n_str) (a_val (pe_en n_str) (a_val (pe_en n_str) (a_val (pe_en n_str) (a_val (pe_en n_str) (a_val (pe_en n_str) (a_val (pe_en n_str) (a_val (pe_en n_str) a_nil))))))))))))
      (ss_cons (s_set 2 (hL _ (by decide)) sc_law_kinds.nd (pe_en (nOp op_addA addA_ok (pe_bp (pp_var 2)) (pe_bn (n_lst (ba_val n_str (ba_val n_str (ba_val n_str (ba_val n_str ba_nil)))))))))
      (ss_cons (s_set 1 (hL _ (by decide)) sc_law_kinds.nd (pe_en (nOp op_addA addA_ok (pe_bp (pp_var 1)) (pe_bn (n_lst (ba_val (n_isE (i := 0) (v := .ref A13) (cv := .ref A13) hC rfl (pe_glob (by rfl) g13 rfl) (fun _ h => h) k13 B.isinstance) (ba_val (n_isE (i := 0) (v := .ty "ValueError") (cv := .type "ValueError") hC rfl (pe_bltn (v := .ty "ValueError") (by rfl) B.ValueError rfl rfl) (fun _ h => h) k12 B.isinstance) ba_nil)))))))
      (ss_one (s_ret (e_join (e_lcRH (own := [("k", 3)]) hot sc_law_kinds.nd B.range (pe_en n_int) (blkOk_by (own := [("k", 3)]) (N := ["e", "some", "words", "k"]) (sc := defScope s_law_kinds) (by decide +kernel)) (fun _ _ _ _ _ _ => pg_name (i := 3) sc_law_kinds.nd rfl (Or.inl rfl)) (fun _ _ _ _ _ _ => tt_one (fun ar _ => (t_val (pe_en (nIx (pe_bp (pp_var 1)) (pe_bp (pp_var 3)) (fun _ _ => rfl)))))) (fun _ _ _ _ _ _ => ee_all (fun ar _ => (pe_en (nIx (pe_bp (pp_var 2)) (pe_bp (pp_var 3)) (fun _ _ => rfl)))))))))))))))
theorem ok_law_held {f : Addr} {fd : FuncData} (F : Fun K "_law_held" "_law_held" s_law_held f fd) (B : Bi mg) : FnOk P w K mg base (L2N.CX P w) 1 f fd ["pending", "space", "page"] (spT (gx K cl okc) 3 m_law_held) := by
  refine fn_okT (Γ := gx K cl okc) (k := 0) F sc_law_held fun cdv A outer s H E ar hr hL0 => ?_
  have tk : L2N.Takes (cxOf (L2N.CX P w) P w (gx K cl okc).K mg base ["pending", "space", "page", "one"] "_law_held" (defScope s_law_held) f cdv A outer s H E) (fun cls d _ H => E cls d H) := L2N.takes_of rfl rfl rfl rfl
  have po : PassesOwn (model P w) (cxOf (L2N.CX P w) P w (gx K cl okc).K mg base ["pending", "space", "page", "one"] "_law_held" (defScope s_law_held) f cdv A outer s H E).A (cxOf (L2N.CX P w) P w (gx K cl okc).K mg base ["pending", "space", "page", "one"] "_law_held" (defScope s_law_held) f cdv A outer s H E).env (cxOf (L2N.CX P w) P w (gx K cl okc).K mg base ["pending", "space", "page", "one"] "_law_held" (defScope s_law_held) f cdv A outer s H E).xe := passes_of rfl
  have hL : Loc' [3] ar := fun j hj => hL0 j (by revert j; decide)
  unfold b_law_held
  exact (ss_one (s_ret (pe_en (n_lkD (pVar 0) (nCmp (op_neL (hu0 hr)) neL_ok (pe_bn (n_lc (own := [("one", 3)]) rfl sc_law_held.nd (fun ar h => tgwN (j := 3) (by decide) (h 3 (by decide))) (pe_bp (pp_var 0)) (blkOk_by (own := [("one", 3)]) (N := ["pending", "space", "page", "one"]) (sc := defScope s_law_held) (by decide +kernel)) (fun _ _ _ _ _ => (pg_name (i := 3) sc_law_held.nd rfl (Or.inl rfl))) (fun _ _ _ _ _ => tb_one (fun ar _ => (L2.PW.pt (wb_and (tb_cmp (op_eqD hr.units) eqT_ok (b_ix (hu1 hr) (pe_bp (pp_var 3)) (pe_bn n_int) (fun _ _ => rfl)) (pe_bp (pp_var 1)) (nomark _)) (wb_one_and (tb_cmp (op_inA (hu65 hr)) inA_ok (pe_bp (pp_var 2)) (b_ix (hu1 hr) (pe_bp (pp_var 3)) (pe_bn n_int) (fun _ _ => rfl)) (by rfl))))))) (fun _ _ _ _ _ => en_all (fun ar _ => (pe_nb (pe_bp (pp_var 3))))))) (pe_bn (n_lst ba_nil)) (nomark _))))))
theorem ok_law_answered {f : Addr} {fd : FuncData} (F : Fun K "_law_answered" "_law_answered" s_law_answered f fd) (B : Bi mg) (D_Deeds_answered : MethOk P w (gx K cl okc) mg base 1 0 "answered" 2 m_Deeds_answered) : FnOk P w K mg base (L2N.CX P w) 2 f fd ["deeds", "pending", "hand"] (spT (gx K cl okc) 3 m_law_answered) := by
  refine fn_okT (Γ := gx K cl okc) (k := 1) F sc_law_answered fun cdv A outer s H E ar hr hL0 => ?_
  have tk : L2N.Takes (cxOf (L2N.CX P w) P w (gx K cl okc).K mg base ["deeds", "pending", "hand", "due", "one", "found", "other"] "_law_answered" (defScope s_law_answered) f cdv A outer s H E) (fun cls d _ H => E cls d H) := L2N.takes_of rfl rfl rfl rfl
  have po : PassesOwn (model P w) (cxOf (L2N.CX P w) P w (gx K cl okc).K mg base ["deeds", "pending", "hand", "due", "one", "found", "other"] "_law_answered" (defScope s_law_answered) f cdv A outer s H E).A (cxOf (L2N.CX P w) P w (gx K cl okc).K mg base ["deeds", "pending", "hand", "due", "one", "found", "other"] "_law_answered" (defScope s_law_answered) f cdv A outer s H E).env (cxOf (L2N.CX P w) P w (gx K cl okc).K mg base ["deeds", "pending", "hand", "due", "one", "found", "other"] "_law_answered" (defScope s_law_answered) f cdv A outer s H E).xe := passes_of rfl
  have hL : Loc' [3, 4, 5, 6] ar := fun j hj => hL0 j (by revert j; decide)
  unfold b_law_answered
  exact (ss_cons (s_set 3 (hL _ (by decide)) sc_law_answered.nd (e_lst a_nil))
      (ss_cons (s_forJ 1 4 [3, 5, 6] po rfl hL (hL _ (by decide)) (p_lst B.list) (pg_name (i := 4) sc_law_answered.nd rfl (Or.inl rfl)) (fun ar hL => (s_if (t_cmpN (op_inA (hu65 hr)) inA_ok (pe_bp (pp_var 2)) (b_ix (hu1 hr) (pe_bp (pp_var 4)) (pe_bn n_int) (fun _ _ => rfl)) (by rfl)) (ss_one (s_setA (hu1 hr) (pp_var 4) (pe_bn n_int) (pe_en (n_lc (own := [("other", 6)]) rfl sc_law_answered.nd (fun ar h => tgwN (j := 6) (by decide) (h 6 (by decide))) (b_ix (hu1 hr) (pe_bp (pp_var 4)) (pe_bn n_int) (fun _ _ => rfl)) (blkOk_by (own := [("other", 6)]) (N := ["deeds", "pending", "hand", "due", "one", "found", "other"]) (sc := defScope s_law_answered) (by decide +kernel)) (fun _ _ _ _ _ => (pg_name (i := 6) sc_law_answered.nd rfl (Or.inl rfl))) (fun _ _ _ _ _ => tb_one (fun ar _ => (tb_cmp (op_neD hr.units) neT_ok (pe_bp (pp_var 6)) (pe_bp (pp_var 2)) (nomark _)))) (fun _ _ _ _ _ => en_all (fun ar _ => (pe_nb (pe_bp (pp_var 6))))))))) ss_nil)) (fun ar hL => (t_cmpN (op_eqD hr.units) eqT_ok (b_ix (hu1 hr) (pe_bp (pp_var 4)) (pe_bn n_int) (fun _ _ => rfl)) (pe_bn (n_lst ba_nil)) (nomark _))) (fun ar hL => (s_expr (e_lmV 3 appM_ok PySem.F.slot_list_append PySem.F.type_list_append mt_append (a_val (pe_en (n_tup (ba_val (pe_nb (b_ix (hu1 hr) (pe_bp (pp_var 4)) (pe_bn n_int) (fun _ _ => rfl))) (ba_val (n_tuple B.tuple (b_ix (hu1 hr) (pe_bp (pp_var 4)) (pe_bn n_int) (fun _ _ => rfl))) ba_nil)))) a_nil)))) (p_rem (hu65 hr)))
      (ss_cons (s_set 5 (hL _ (by decide)) sc_law_answered.nd (e_meth 0 D_Deeds_answered (hr.mono (by decide)) tk (a_ref 2 a_nil)))
      (ss_cons (s_if (L2.PW.pt (w_or (t_not (t_val (pe_en (n_isi (n := "list") (by decide) B.isinstance B.list (by decide +kernel) (pe_bp (pp_var 5)))))) (w_one_or (t_cmpN (op_neD hr.units) neT_ok (pe_bp (pp_var 5)) (pe_bp (pp_var 3)) (nomark _))))) (ss_one (s_ret (pe_en n_bl))) ss_nil)
      (ss_cons (s_expr (e_lmV 5 appM_ok PySem.F.slot_list_append PySem.F.type_list_append mt_append (a_val (pe_en (n_tup (ba_val n_int (ba_val (n_tup ba_nil) ba_nil)))) a_nil)))
      (ss_one (s_ret (pe_en n_bl))))))))
theorem ok_law_told {f : Addr} {fd : FuncData} (F : Fun K "_law_told" "_law_told" s_law_told f fd) (B : Bi mg) (KD : KindsOk P w (gx K cl okc) mg base 1 "_law_kinds" "CallError" kn) (D_Deeds_is_told : MethOk P w (gx K cl okc) mg base 1 0 "is_told" 2 m_Deeds_is_told) : FnOk P w K mg base (L2N.CX P w) 2 f fd ["deeds", "number"] (spT (gx K cl okc) 2 m_law_told) := by
  refine fn_okT (Γ := gx K cl okc) (k := 1) F sc_law_told fun cdv A outer s H E ar hr hL0 => ?_
  have tk : L2N.Takes (cxOf (L2N.CX P w) P w (gx K cl okc).K mg base ["deeds", "number", "kind", "told", "e"] "_law_told" (defScope s_law_told) f cdv A outer s H E) (fun cls d _ H => E cls d H) := L2N.takes_of rfl rfl rfl rfl
  have po : PassesOwn (model P w) (cxOf (L2N.CX P w) P w (gx K cl okc).K mg base ["deeds", "number", "kind", "told", "e"] "_law_told" (defScope s_law_told) f cdv A outer s H E).A (cxOf (L2N.CX P w) P w (gx K cl okc).K mg base ["deeds", "number", "kind", "told", "e"] "_law_told" (defScope s_law_told) f cdv A outer s H E).env (cxOf (L2N.CX P w) P w (gx K cl okc).K mg base ["deeds", "number", "kind", "told", "e"] "_law_told" (defScope s_law_told) f cdv A outer s H E).xe := passes_of rfl
  have hL : Loc' [2, 3, 4] ar := fun j hj => hL0 j (by revert j; decide)
  unfold b_law_told
  exact (ss_cons (s_set 2 (hL _ (by decide)) sc_law_told.nd (pe_en n_str))
      (ss_cons (s_set 3 (hL _ (by decide)) sc_law_told.nd (pe_en n_non))
      (ss_cons (s_tryK KD (hr.mono (by decide)) tk (hL 4 (by decide)) (hL 2 (by decide)) sc_law_told.nd (fun W pn xe tk po => (ss_one (s_set 3 (hL _ (by decide)) sc_law_told.nd (e_meth 0 D_Deeds_is_told (hr.mono (by decide)) tk (a_ref 1 a_nil))))))
      (ss_one (s_ret (e_lst (a_val (pe_evar 2) (a_val (pe_evar 3) a_nil))))))))
theorem ok_law_stands {f : Addr} {fd : FuncData} (F : Fun K "_law_stands" "_law_stands" s_law_stands f fd) (B : Bi mg) (D_Deeds_waiting : MethOk P w (gx K cl okc) mg base 1 0 "waiting" 1 m_Deeds_waiting) (D_law_truth : DefOk P w (gx K cl okc) mg base 1 "_law_truth" 2 m_law_truth) (D_Deeds_is_told : MethOk P w (gx K cl okc) mg base 1 0 "is_told" 2 m_Deeds_is_told) (D_law_told : DefOk P w (gx K cl okc) mg base 2 "_law_told" 2 m_law_told) (D_law_held : DefOk P w (gx K cl okc) mg base 1 "_law_held" 3 m_law_held) (D_Deeds_holds : MethOk P w (gx K cl okc) mg base 1 0 "holds" 3 m_Deeds_holds) : FnOk P w K mg base (L2N.CX P w) 3 f fd ["deeds", "coming", "pending", "wide"] (spT (gx K cl okc) 4 m_law_stands) := by
  refine fn_okT (Γ := gx K cl okc) (k := 2) F sc_law_stands fun cdv A outer s H E ar hr hL0 => ?_
  have tk : L2N.Takes (cxOf (L2N.CX P w) P w (gx K cl okc).K mg base ["deeds", "coming", "pending", "wide", "told", "waiting", "number", "space", "page", "one"] "_law_stands" (defScope s_law_stands) f cdv A outer s H E) (fun cls d _ H => E cls d H) := L2N.takes_of rfl rfl rfl rfl
  have po : PassesOwn (model P w) (cxOf (L2N.CX P w) P w (gx K cl okc).K mg base ["deeds", "coming", "pending", "wide", "told", "waiting", "number", "space", "page", "one"] "_law_stands" (defScope s_law_stands) f cdv A outer s H E).A (cxOf (L2N.CX P w) P w (gx K cl okc).K mg base ["deeds", "coming", "pending", "wide", "told", "waiting", "number", "space", "page", "one"] "_law_stands" (defScope s_law_stands) f cdv A outer s H E).env (cxOf (L2N.CX P w) P w (gx K cl okc).K mg base ["deeds", "coming", "pending", "wide", "told", "waiting", "number", "space", "page", "one"] "_law_stands" (defScope s_law_stands) f cdv A outer s H E).xe := passes_of rfl
  have hL : Loc' [4, 5, 6, 7, 8, 9] ar := fun j hj => hL0 j (by revert j; decide)
  unfold b_law_stands
  exact (ss_cons (s_set 4 (hL _ (by decide)) sc_law_stands.nd (e_methP0 D_Deeds_waiting (hr.mono (by decide)) tk (pp_var 0)))
      (ss_cons (s_if (L2.PW.pt (w_or (t_not (t_val (pe_en (n_isi (n := "list") (by decide) B.isinstance B.list (by decide +kernel) (pe_bp (pp_var 4)))))) (w_one_or (t_cmpN (op_neD hr.units) neT_ok (pe_bp (pp_var 4)) (pe_bn (n_lkD (pVar 2) (n_lc (own := [("one", 9)]) rfl sc_law_stands.nd (fun ar h => tgwN (j := 9) (by decide) (h 9 (by decide))) (pe_bp (pp_var 2)) (blkOk_by (own := [("one", 9)]) (N := ["deeds", "coming", "pending", "wide", "told", "waiting", "number", "space", "page", "one"]) (sc := defScope s_law_stands) (by decide +kernel)) (fun _ _ _ _ _ => (pg_name (i := 9) sc_law_stands.nd rfl (Or.inl rfl))) (fun _ _ _ _ _ => tb_nil) (fun _ _ _ _ _ => en_all (fun ar _ => (n_tup (ba_val (pe_nb (b_ix (hu1 hr) (pe_bp (pp_var 9)) (pe_bn n_int) (fun _ _ => rfl))) (ba_val (n_tuple B.tuple (b_ix (hu1 hr) (pe_bp (pp_var 9)) (pe_bn n_int) (fun _ _ => rfl))) ba_nil)))))))) (nomark _))))) (ss_one (s_ret (pe_en n_bl))) ss_nil)
      (ss_cons (s_expr (e_lmV 4 appM_ok PySem.F.slot_list_append PySem.F.type_list_append mt_append (a_val (pe_en (n_tup (ba_val n_int (ba_val (n_tup (ba_val n_int ba_nil)) ba_nil)))) a_nil)))
      (ss_cons (s_lkA (pVar 2) (hL _ (by decide)) (b1_lc (own := [("one", 9)]) 5 rfl sc_law_stands.nd (sw_true rfl rfl rfl (by decide +kernel)) (fun ar h => tgwN (j := 9) (by decide) (h 9 (by decide))) (pe_bp (pp_var 2)) (blkOk_by (own := [("one", 9)]) (N := ["deeds", "coming", "pending", "wide", "told", "waiting", "number", "space", "page", "one"]) (sc := defScope s_law_stands) (by decide +kernel)) (fun _ _ _ _ _ => (pg_name (i := 9) sc_law_stands.nd rfl (Or.inl rfl))) (fun _ _ _ _ _ => tb_nil) (fun _ _ _ _ _ => en_all (fun ar _ => (pe_nb (b_ix (hu1 hr) (pe_bp (pp_var 9)) (pe_bn n_int) (fun _ _ => rfl)))))))
      (ss_cons (s_forR po rfl (tgN_ok (hL _ (by decide))) B.range (pe_evar 1) (pg_name (i := 6) sc_law_stands.nd rfl (Or.inl rfl)) (ss_one (s_if (t_not (t_val (e_call D_law_truth (hr.mono (by decide)) tk (a_val (e_meth 0 D_Deeds_is_told (hr.mono (by decide)) tk (a_ref 6 a_nil)) (a_val (pe_en (nCmp (op_notInA (hu65 hr)) notInA_ok (pe_bp (pp_var 6)) (pe_bp (pp_var 5)) (by rfl))) a_nil))))) (ss_one (s_ret (pe_en n_bl))) ss_nil)))
      (ss_cons (s_forE po rfl (tgN_ok (hL _ (by decide))) (e_lst (a_val (pe_evar 1) (a_val (pe_en (n_neg (pe_bn n_int))) (a_val (pe_en (nOp op_pow powT_ok (pe_bn n_int) (pe_bn n_int))) a_nil)))) (pg_name (i := 6) sc_law_stands.nd rfl (Or.inl rfl)) (ss_one (s_if (t_cmpEB (op_neD hr.units) neT_ok (e_call D_law_told (hr.mono (by decide)) tk (a_ref 0 (a_ref 6 a_nil))) (pe_bn (n_lst (ba_val n_str (ba_val n_non ba_nil)))) (nomark _)) (ss_one (s_ret (pe_en n_bl))) ss_nil)))
      (ss_cons (s_forR po rfl (tgN_ok (hL _ (by decide))) B.range (pe_en n_int) (pg_name (i := 7) sc_law_stands.nd rfl (Or.inl rfl)) (ss_one (s_forR po rfl (tgN_ok (hL _ (by decide))) B.range (pe_evar 3) (pg_name (i := 8) sc_law_stands.nd rfl (Or.inl rfl)) (ss_one (s_if (t_not (t_val (e_call D_law_truth (hr.mono (by decide)) tk (a_val (e_meth 0 D_Deeds_holds (hr.mono (by decide)) tk (a_ref 7 (a_ref 8 a_nil))) (a_val (e_call D_law_held (hr.mono (by decide)) tk (a_ref 2 (a_ref 7 (a_ref 8 a_nil)))) a_nil))))) (ss_one (s_ret (pe_en n_bl))) ss_nil)))))
      (ss_one (s_ret (eCmpEB (op_eqD hr.units) eqT_ok (e_len B.len (e_methP0 D_Deeds_waiting (hr.mono (by decide)) tk (pp_var 0))) (pe_bn (n_len B.len (pe_bp (pp_var 2)))) (nomark _)))))))))))
theorem ok_law_begun {f : Addr} {fd : FuncData} (F : Fun K "_law_begun" "_law_begun" s_law_begun f fd) (B : Bi mg) (D_law_take : DefOk P w (gx K cl okc) mg base 1 "_law_take" 2 m_law_take) (D_law_held : DefOk P w (gx K cl okc) mg base 1 "_law_held" 3 m_law_held) (D_law_pages : DefOk P w (gx K cl okc) mg base 2 "_law_pages" 2 m_law_pages) (D_Deeds_begin : MethOk P w (gx K cl okc) mg base 1 0 "begin" 5 m_Deeds_begin) (D_law_whole : DefOk P w (gx K cl okc) mg base 1 "_law_whole" 1 m_law_whole) : FnOk P w K mg base (L2N.CX P w) 3 f fd ["bag", "deeds", "coming", "pending", "wide"] (spT (gx K cl okc) 5 m_law_begun) := by
  refine fn_okT (Γ := gx K cl okc) (k := 2) F sc_law_begun fun cdv A outer s H E ar hr hL0 => ?_
  have tk : L2N.Takes (cxOf (L2N.CX P w) P w (gx K cl okc).K mg base ["bag", "deeds", "coming", "pending", "wide", "hands", "hand", "space", "pages", "rooms", "handed", "found", "some", "page", "k"] "_law_begun" (defScope s_law_begun) f cdv A outer s H E) (fun cls d _ H => E cls d H) := L2N.takes_of rfl rfl rfl rfl
  have po : PassesOwn (model P w) (cxOf (L2N.CX P w) P w (gx K cl okc).K mg base ["bag", "deeds", "coming", "pending", "wide", "hands", "hand", "space", "pages", "rooms", "handed", "found", "some", "page", "k"] "_law_begun" (defScope s_law_begun) f cdv A outer s H E).A (cxOf (L2N.CX P w) P w (gx K cl okc).K mg base ["bag", "deeds", "coming", "pending", "wide", "hands", "hand", "space", "pages", "rooms", "handed", "found", "some", "page", "k"] "_law_begun" (defScope s_law_begun) f cdv A outer s H E).env (cxOf (L2N.CX P w) P w (gx K cl okc).K mg base ["bag", "deeds", "coming", "pending", "wide", "hands", "hand", "space", "pages", "rooms", "handed", "found", "some", "page", "k"] "_law_begun" (defScope s_law_begun) f cdv A outer s H E).xe := passes_of rfl
  have hL : Loc' [5, 6, 7, 8, 9, 10, 11, 12, 13, 14] ar := fun j hj => hL0 j (by revert j; decide)
  unfold b_law_begun
  exact (ss_cons (s_set 5 (hL _ (by decide)) sc_law_begun.nd (e_lst a_nil))
      (ss_cons (s_forR po rfl (tgN_ok (hL _ (by decide))) B.range (pe_en n_int) (pg_name (i := 6) sc_law_begun.nd rfl (Or.inl rfl)) (ss_one (s_if (t_cmpEB (op_eqD hr.units) eqT_ok (e_call D_law_take (hr.mono (by decide)) tk (a_ref 0 (a_val (pe_en n_int) a_nil))) (pe_bn n_int) (nomark _)) (ss_one (s_expr (e_lmV 5 insM_ok PySem.F.slot_list_insert PySem.F.type_list_insert mt_ins (a_val (e_call D_law_take (hr.mono (by decide)) tk (a_ref 0 (a_val (pe_en (nOp op_addA addA_ok (pe_bn (n_len B.len (pe_bp (pp_var 5)))) (pe_bn n_int))) a_nil))) (a_val (pe_evar 6) a_nil))))) ss_nil)))
      (ss_cons (s_set 7 (hL _ (by decide)) sc_law_begun.nd (e_call D_law_take (hr.mono (by decide)) tk (a_ref 0 (a_val (pe_en n_int) a_nil))))
      (ss_cons (s_lcE (own := [("page", 13)]) 8 (hL _ (by decide)) rfl sc_law_begun.nd (sw_true rfl rfl rfl (by decide +kernel)) (e_call D_law_pages (hr.mono (by decide)) tk (a_ref 0 (a_ref 4 a_nil))) (blkOk_by (own := [("page", 13)]) (N := ["bag", "deeds", "coming", "pending", "wide", "hands", "hand", "space", "pages", "rooms", "handed", "found", "some", "page", "k"]) (sc := defScope s_law_begun) (by decide +kernel)) (fun _ _ _ _ _ => pg_name (i := 13) sc_law_begun.nd rfl (Or.inl rfl)) (fun _ _ _ _ _ => tt_one (fun ar _ => (t_not (t_val (e_call D_law_held (hr.mono (by decide)) takesN0 (a_ref 3 (a_ref 7 (a_ref 13 a_nil)))))))) (fun _ _ _ _ _ => ee_all (fun ar _ => (pe_evar 13))))
      (ss_cons (s_lcR (own := [("k", 14)]) 9 (hL _ (by decide)) rfl sc_law_begun.nd B.range (sw_true rfl rfl rfl (by decide +kernel)) (e_call D_law_take (hr.mono (by decide)) tk (a_ref 0 (a_val (pe_en n_int) a_nil))) (blkOk_by (own := [("k", 14)]) (N := ["bag", "deeds", "coming", "pending", "wide", "hands", "hand", "space", "pages", "rooms", "handed", "found", "some", "page", "k"]) (sc := defScope s_law_begun) (by decide +kernel)) (fun _ _ _ _ _ => pg_name (i := 14) sc_law_begun.nd rfl (Or.inl rfl)) (fun _ _ _ _ _ => tt_nil) (fun _ _ _ _ _ => ee_all (fun ar _ => (e_call D_law_take (hr.mono (by decide)) takesN0 (a_ref 0 (a_val (eIxA (hu1 hr) (e_lst (a_val (pe_en n_int) (a_val (pe_en n_int) a_nil))) (e_call D_law_take (hr.mono (by decide)) takesN0 (a_ref 0 (a_val (pe_en n_int) a_nil))) (fun _ _ => rfl)) a_nil))))))
      (ss_cons (s_set 10 (hL _ (by decide)) sc_law_begun.nd (e_lst (a_val (pe_en (n_list B.list (pe_bp (pp_var 8)))) (a_val (pe_en (n_list B.list (pe_bp (pp_var 9)))) (a_val (pe_en (n_list B.list (pe_bp (pp_var 5)))) a_nil)))))
      (ss_cons (s_set 11 (hL _ (by decide)) sc_law_begun.nd (e_lkL 10 (e_meth 1 D_Deeds_begin (hr.mono (by decide)) tk (a_ref 7 (a_val (pe_en (pe_nb (b_ix (hu1 hr) (pe_bp (pp_var 10)) (pe_bn n_int) (fun _ _ => rfl)))) (a_val (pe_en (pe_nb (b_ix (hu1 hr) (pe_bp (pp_var 10)) (pe_bn n_int) (fun _ _ => rfl)))) (a_val (pe_en (pe_nb (b_ix (hu1 hr) (pe_bp (pp_var 10)) (pe_bn n_int) (fun _ _ => rfl)))) a_nil)))))))
      (ss_cons (s_if (L2.PW.pt (w_or (t_cmpN (op_neD hr.units) neT_ok (pe_bp (pp_var 10)) (b_lst3 8 9 5) (nomark _)) (w_or (t_not (t_val (e_call D_law_whole (hr.mono (by decide)) tk (a_ref 11 a_nil)))) (w_one_or (t_cmpN (op_neD hr.units) neT_ok (pe_bp (pp_var 11)) (pe_bp (pp_var 2)) (nomark _)))))) (ss_one (s_ret (pe_en n_bl))) ss_nil)
      (ss_cons (s_forL 10 12 [5, 6, 7, 8, 9, 11, 13, 14] po rfl hL (hL _ (by decide)) (pe_var rfl (by first | exact Or.inl rfl | exact Or.inr (Or.inl rfl))) (pg_name (i := 12) sc_law_begun.nd rfl (Or.inl rfl)) (fun ar hL => (ss_one (s_expr (e_lmV 12 appM_ok PySem.F.slot_list_append PySem.F.type_list_append mt_append (a_val (pe_en n_int) a_nil))))))
      (ss_cons (s_if (t_cmpN (op_neD hr.units) neT_ok (pe_bp (pp_var 5)) (pe_bn (n_lst ba_nil)) (nomark _)) (ss_one (s_expr (e_lmV 3 appM_ok PySem.F.slot_list_append PySem.F.type_list_append mt_append (a_val (e_lst (a_val (pe_evar 2) (a_val (pe_evar 7) (a_val (pe_evar 8) (a_val (pe_evar 9) (a_val (pe_evar 5) a_nil)))))) a_nil)))) ss_nil)
      (ss_one (s_ret (pe_en n_bl)))))))))))))
theorem ok_law {f : Addr} {fd : FuncData} (F : Fun K "law" "law" s_law f fd) (B : Bi mg) (D_law_bag : DefOk P w (gx K cl okc) mg base 1 "_law_bag" 2 m_law_bag) (D_law_take : DefOk P w (gx K cl okc) mg base 1 "_law_take" 2 m_law_take) (K_Deeds : MakeOk P w (gx K cl okc) mg base 1 0 "Deeds" 1 m_Deeds___init) (D_law_begun : DefOk P w (gx K cl okc) mg base 3 "_law_begun" 5 m_law_begun) (D_law_answered : DefOk P w (gx K cl okc) mg base 2 "_law_answered" 3 m_law_answered) (D_law_stands : DefOk P w (gx K cl okc) mg base 3 "_law_stands" 4 m_law_stands) (D_Deeds_waiting : MethOk P w (gx K cl okc) mg base 1 0 "waiting" 1 m_Deeds_waiting) (D_Deeds_begin : MethOk P w (gx K cl okc) mg base 1 0 "begin" 5 m_Deeds_begin) : FnOk P w K mg base (L2N.CX P w) 4 f fd ["script"] (spT (gx K cl okc) 1 m_law) := by
  refine fn_okT (Γ := gx K cl okc) (k := 3) F sc_law fun cdv A outer s H E ar hr hL0 => ?_
  have tk : L2N.Takes (cxOf (L2N.CX P w) P w (gx K cl okc).K mg base ["script", "first", "wide", "deeds", "other", "pending", "coming", "k", "bag"] "law" (defScope s_law) f cdv A outer s H E) (fun cls d _ H => E cls d H) := L2N.takes_of rfl rfl rfl rfl
  have po : PassesOwn (model P w) (cxOf (L2N.CX P w) P w (gx K cl okc).K mg base ["script", "first", "wide", "deeds", "other", "pending", "coming", "k", "bag"] "law" (defScope s_law) f cdv A outer s H E).A (cxOf (L2N.CX P w) P w (gx K cl okc).K mg base ["script", "first", "wide", "deeds", "other", "pending", "coming", "k", "bag"] "law" (defScope s_law) f cdv A outer s H E).env (cxOf (L2N.CX P w) P w (gx K cl okc).K mg base ["script", "first", "wide", "deeds", "other", "pending", "coming", "k", "bag"] "law" (defScope s_law) f cdv A outer s H E).xe := passes_of rfl
  have hL : Loc' [1, 2, 3, 4, 5, 6, 7, 8] ar := fun j hj => hL0 j (by revert j; decide)
  unfold b_law
  exact (ss_cons (s_set 1 (hL _ (by decide)) sc_law.nd (e_call D_law_bag (hr.mono (by decide)) tk (a_ref 0 (a_val (pe_en n_int) a_nil))))
      (ss_cons (s_set 2 (hL _ (by decide)) sc_law.nd (eIxA (hu1 hr) (e_lst (a_val (pe_en n_int) (a_val (pe_en n_int) a_nil))) (e_call D_law_take (hr.mono (by decide)) tk (a_ref 1 (a_val (pe_en n_int) a_nil))) (fun _ _ => rfl)))
      (ss_cons (s_set 3 (hL _ (by decide)) sc_law.nd (e_make0 K_Deeds (hr.mono (by decide))))
      (ss_cons (s_set 4 (hL _ (by decide)) sc_law.nd (e_make0 K_Deeds (hr.mono (by decide))))
      (ss_cons (s_set 5 (hL _ (by decide)) sc_law.nd (e_lst a_nil))
      (ss_cons (s_set 6 (hL _ (by decide)) sc_law.nd (pe_en n_int))
      (ss_cons (s_forR po rfl (tgN_ok (hL _ (by decide))) B.range (pe_en (nOp op_addA addA_ok (pe_bn (n_min rfl B.min (pe_bn (n_len B.len (pe_bp (pp_var 0)))) (pe_bn n_int))) (pe_bn n_int))) (pg_name (i := 7) sc_law.nd rfl (Or.inl rfl)) (ss_cons (s_set 8 (hL _ (by decide)) sc_law.nd (e_call D_law_bag (hr.mono (by decide)) tk (a_ref 0 (a_ref 7 a_nil))))
      (ss_cons (s_if (t_cmpEB (op_eqD hr.units) eqT_ok (e_call D_law_take (hr.mono (by decide)) tk (a_ref 8 (a_val (pe_en n_int) a_nil))) (pe_bn n_int) (nomark _)) (ss_cons (s_if (t_not (t_val (e_call D_law_begun (hr.mono (by decide)) tk (a_ref 8 (a_ref 3 (a_ref 6 (a_ref 5 (a_ref 2 a_nil)))))))) (ss_one (s_ret (pe_en n_bl))) ss_nil)
      (ss_one (s_set 6 (hL _ (by decide)) sc_law.nd (pe_en (nOp op_addA addA_ok (pe_bp (pp_var 6)) (pe_bn n_int)))))) (ss_one (s_if (t_not (t_val (e_call D_law_answered (hr.mono (by decide)) tk (a_ref 3 (a_ref 5 (a_val (e_call D_law_take (hr.mono (by decide)) tk (a_ref 8 (a_val (pe_en n_int) a_nil))) a_nil)))))) (ss_one (s_ret (pe_en n_bl))) ss_nil)))
      (ss_one (s_if (L2.PW.pt (w_and (t_cmpN (op_eqD hr.units) eqT_ok (pe_bn (nOp op_mod modT_ok (pe_bp (pp_var 7)) (pe_bn n_int))) (pe_bn n_int) (nomark _)) (w_one_and (t_not (t_val (e_call D_law_stands (hr.mono (by decide)) tk (a_ref 3 (a_ref 6 (a_ref 5 (a_ref 2 a_nil)))))))))) (ss_one (s_ret (pe_en n_bl))) ss_nil)))))
      (ss_one (s_ret (e_and (e_call D_law_stands (hr.mono (by decide)) tk (a_ref 3 (a_ref 6 (a_ref 5 (a_ref 2 a_nil))))) (e_and (eCmpEB (op_eqD hr.units) eqT_ok (e_methP0 D_Deeds_waiting (hr.mono (by decide)) tk (pp_var 4)) (pe_bn (n_lst ba_nil)) (nomark _)) (pe_one (eCmpEB (op_eqD hr.units) eqT_ok (e_meth 4 D_Deeds_begin (hr.mono (by decide)) tk (a_val (pe_en n_int) (a_val (e_lst a_nil) (a_val (e_lst a_nil) (a_val (e_lst (a_val (pe_en n_int) a_nil)) a_nil))))) (pe_bn n_int) (nomark _))))))))))))))
end
end K05
namespace K05
open PySem L2 VT
theorem kAnd_ex {fb : EF} {c : Nat} {S : TSt} : kAnd fb (.ex c, S) = some (.ex c, S) := rfl
theorem kOr_ex {fb : EF} {c : Nat} {S : TSt} : kOr fb (.ex c, S) = some (.ex c, S) := rfl
theorem kNot_ex {c : Nat} {S : TSt} : kNot (.ex c, S) = some (.ex c, S) := rfl
theorem kIf_ex {s u : SF} {c : Nat} {S : TSt} : kIf s u (.ex c, S) = some (.ex c, S) := rfl
theorem kOpB_ex {f : T → T → Option T} {gb : BF} {c : Nat} {S : TSt} : kOpB f gb (.ex c, S) = some (.ex c, S) := rfl
theorem kA1_ex {fs : AF} {c : Nat} {S : TSt} : kA1 fs (.ex c, S) = some (.ex c, S) := rfl
theorem kD1_ex {k : Kd} {c : Nat} {S : TSt} : kD1 k (.ex c, S) = some (.ex c, S) := rfl
def tkA (a n : Int) : Int := if a > 0 then a / n else a
def tkS (a s : Int) : Int := if a > 0 then s else s * 48271 % 2147483647
def tkR (a s n : Int) : Int := if a > 0 then a % n else (tkS a s / 13 * (tkS a s % 32749 + 17) % 2147483629 / 32) % n
abbrev bagT (a s : Int) : T := .nd .lst [.int a, .int s]
abbrev liT (l : List Int) : T := .nd .lst (l.map .int)
theorem tkR_lt (a s n : Int) (h0 : 0 < n) : 0 ≤ tkR a s n ∧ tkR a s n < n := by
  unfold tkR
  split
  · exact ⟨Int.emod_nonneg _ (by omega), Int.emod_lt_of_pos _ h0⟩
  · exact ⟨Int.emod_nonneg _ (by omega), Int.emod_lt_of_pos _ h0⟩
theorem rg_len {n : Int} : (rgT n).length = n.toNat := by rw [rgT_ints, List.length_map, rgI_length]
def two (x y r : Int) : Int := if r = 0 then x else y
theorem ix2 {x y a s : Int} : ixA (.nd .lst [.int x, .int y]) (.int (tkR a s 2)) = some (.int (two x y (tkR a s 2))) := by
  have := tkR_lt a s 2 (by decide)
  have h : tkR a s 2 = 0 ∨ tkR a s 2 = 1 := by omega
  rcases h with h | h
  · rw [h]; rfl
  · rw [h]; rfl
theorem two_le (x y r lo hi : Int) (h1 : lo ≤ x) (h2 : x ≤ hi) (h3 : lo ≤ y) (h4 : y ≤ hi) : lo ≤ two x y r ∧ two x y r ≤ hi := by
  unfold two
  split <;> omega
theorem eqT_bb {a b : Bool} : eqT (.bl a) (.bl b) = some (.bl (a == b)) := by cases a <;> cases b <;> rfl
theorem neT_bb {a b : Bool} : neT (.bl a) (.bl b) = some (.bl (!(a == b))) := by cases a <;> cases b <;> rfl
theorem nc2 : ((2 : Nat) : Int) = 2 := rfl
local macro_rules | `(tactic| walk_at "vtd") => `(tactic| first | omega | assumption | (simp only [List.length_set]; omega) | (simp only [plT, plAll, plI, Bool.and_true, Bool.and_self, ofS_ok, dg_ok]; done))
local macro_rules | `(tactic| walk_at "vt") => `(tactic| simp (disch := walk_at "vtd") only [↓eOp_q, kOp1_ok, kOp2_ok, kEn_q, ↓eOpB_q, kOpB_ok, kB1_q, ↓eUn_q, kUn_ok, ↓eOfN_q, ↓bOp_q, kBop_q, ↓bUn_q, ↓bOfP_q, kPl_q, kAt_q, tAt_nil, tAt_nd, nC_q, ↓nOfB_q, pVar_q, kPV_q, eVar_q, kVar_q, ↓sSeq_q, kSeq_nx, kSeq_rt, kSeq_ex, kSeq_bk, kSeq_ct, ↓sSet_q, kSet_ok, ↓sRet_q, kRet_ok, ↓sExpr_q, kExpr_ok, sNil_q, ↓sIf_q, kIf_q, ↓eNot_q, kNot_q, ↓eAnd_q, kAnd_q, ↓eOr_q, kOr_q, aNil_q, ↓aVal_q, kA1_ok, kA2_ok, ↓aRef_q, kAr_q, kAr2_ok, argOf_q, kArg_q, ↓eDisp_q, kD1_ok, kD2_q, valsOf_nil, valsOf_val, kVl_q, ↓eCall_q, kCall_ok, callR_q, kC1_q, kC2_q, argT_nil, argT_val, argT_pth, kAT1_q, kAT2_q, putB_nil, putB_val, tPut_nil, tPut_nd, ↓nTup_q, kNT_q, kNT2_q, baNil_q, ↓baVal_q, kBV_q, kBV2_q, ↓baRef_q, kBR_q, kBR2_q, ↓mBody_q, kBody_q, kBody2_nx, kBody2_rt, kBody2_ex, allS_nil, allS_some, imO_int, imO_str, imO_bl, imO_non, imO_tup, im_int, im_str, im_bl, im_non, im_tup, im_fz, im_lst, im_obj, imAll_nil, imAll_cons, mu_lst, mu_obj, gd_pos, gd_tr, mulT_i, modT_i, fdivT_i, powT_i, ltT_i, gtT_i, geT_i, minT_i, ixT_lst, ixT_fz, ixT_tup, lenT_lst, lenT_fz, lenT_tup, isN_non, isN_int, isN_nd, isN_str, ↓sMut_q, kMu_ok, kM0_q, kM1_q, kM2_q, kM3_q, setM_q, kSM_q, ob_some, sl, atI, ixN, ↓pFld_q, kF1_q, kF2_q, kF3_q, kF4_q, ↓eMeth_q, kMe_q, kMe2_q, ↓eMethP_q, kMP_q, kMP1_q, kMP2_q, kMP3_q, putB_q, kPB_q, ↓eMake_q, kMk_q, kMk2_q, kMk3_q, ↓eMutV_q, kLV0_q, kLV_q, kLV1_q, kLV2_q, kLV3_q, isLst_q, ↓eMutP_q, kLP_q, kLP0_q, kLP1_q, kLP2_q, kLP3_q, kLP4_q, appM_q, popM_q, kPop_q, putFM_q, kPF_s, kPF_n, ↓sForR_q, kFR_q, ↓sForE_q, kFE_q, kFE2_q, seqO_lst, seqO_fz, seqO_tup, ↓sForP_q, kFP_q, kFP1_q, kFP2_q, kFP3_q, kFP4_q, eqT_ii, neT_ii, inT_ints, notInT_ints, kL1_q, kL2_nx, kL2_ct, kL2_bk, kL2_rt, runL_nil, runL_cons, tgN_q, lcFrom_q, kLc_q, lcEnd_q, kLcE_q, wipeS_nil, wipeS_cons, restS_nil, restS_cons, kRs_n, kRs_s, listT_lst, listT_fz, listT_tup, isi_ii, isi_ib, isi_ll, eqT_pl, neT_pl, kSet_ex, kRet_ex, kExpr_ex, sRaise_q, ↓sTryK_q, kTry_ex, kTry_nx, kTry_rt, kTry2_q, setAll_n, setAll_c, augM_ints, ↓nLst_q, kNL_q, kNL2_q, ↓eLcR_q, kLR_q, mulT_l, lrgT_q, eqT_ln, neT_ln, rep_ints, get_int, set_int, app_int, teq_int, teq_str, teq_non, teq_tnil, teq_tcons, teq_li, ixA_lst, ixA_fz, ixA_tup, ixA_str, ixB_lst, ixB_fz, ixB_tup, ixB_dK, ixB_dT, kDo_s, dix_Ki, dix_Ks, dix_T, kDt_q, keysT_n, keysT_i, keysT_s, kKc_q, isDi_K, isDi_T, isDi_l, ixB_fK, dix_Fi, dix_Fs, mu_fK, im_fK, im_any, ↓sSetA_q, kSA_ok, kSA_ex, kSA0_q, kSA1_q, kSA2_q, kSA3_q, kSA4_q, setA_l, setA_Ki, setA_Ks, setA_T, kSt_q, mu_dK, mu_dT, im_dK, im_dT, inA_l, inA_t, inA_f, notInA_l, notInA_t, notInA_f, negT_i, ↓bNot_q, kBNot_q, ↓bAnd_q, kBAnd_q, bYes_q, lcN_q, kNlc_q, ↓bLc_q, kBL_q, kBLc_q, addA_i, addA_s, addA_ll, addA_fl, addA_tt, isB_bl, isB_non, isB_int, isB_str, isB_nd, isN_bl, addA_lf, beq_tt, beq_tf, beq_ft, beq_ff, Option.getD_none, eYes_q, tgT_tup, tupleT_lst, tupleT_tup, ↓ixB_fl, ↓setA_fl, ↓atI_fl, fl_get, fl_set, fl_getD, kAnd_ex, kOr_ex, kNot_ex, kIf_ex, kOpB_ex, kA1_ex, kD1_ex, up_id, ↓bLkD_q, kLD0_q, kLD1_q, kLD2_q, kLD3_q, kLD4_q, neL_l, neL_f, ↓sForL_q, ↓sForJ_q, ↓eLkL_q, kLL0_q, kLL1_q, kLL3_q, ↓bLst3_q, kL3a_q, kL3b_q, kL3c_q, List.length_set, beq_self_eq_true, getD_set, and_true, true_and, or_true, true_or, and_self, List.map_cons, List.map_nil, List.eraseIdx_cons_zero, List.length_cons, List.length_nil, List.length_map, List.replicate, List.append_nil, List.cons_append, List.nil_append, List.getElem?_cons_zero, List.getElem?_cons_succ, List.set_cons_zero, List.set_cons_succ, List.getD_cons_zero, List.getD_cons_succ, Option.getD_some, List.take, Nat.reduceSub, Nat.reduceAdd, Nat.reduceEqDiff, if_true, if_false, reduceIte, if_pos, if_neg, Int.toNat_zero, Int.toNat_one, Int.reduceLT, Int.reduceLE, Int.reduceToNat, List.tail_cons, Nat.zero_add, Nat.reduceLeDiff, Nat.reduceLT, Bool.and_true, Bool.true_and, Bool.and_self, Bool.not_true, Bool.not_false, decide_eq_true_eq, decide_true, decide_false, Bool.false_eq_true, im_ints, eqT_bb, neT_bb, rg_len])
theorem take_eq (a s n : Int) (h0 : 0 < n) (h1 : n < 1073741824) : m_law_take [bagT a s, .int n] = some (.ok (.int (tkR a s n)), [bagT (tkA a n) (tkS a s), .int n]) := by
  unfold m_law_take b_law_take bagT
  by_cases h : a > 0
  · walk_at "vt"
    simp [h, h0, h1, tkR, tkA, tkS]
  · walk_at "vt"
    simp [h, h0, h1, tkR, tkA, tkS]
theorem bag_ex (ns : List Int) (k : Int) (h0 : 0 ≤ k) (h1 : k < 1000) : ∃ r : Int × Int, m_law_bag [.nd .fz (ns.map .int), .int k] = some (.ok (bagT r.1 r.2), [.nd .fz (ns.map .int), .int k]) := by
  unfold m_law_bag b_law_bag
  by_cases h : k < (ns.length : Int)
  · by_cases h2 : ns.getD k.toNat 0 % 10 ^ 60 < 10 ^ 18
    · walk_at "vt"
      exact ⟨(_, _), rfl⟩
    · walk_at "vt"
      exact ⟨(_, _), rfl⟩
  · walk_at "vt"
    exact ⟨(_, _), rfl⟩
theorem c0_coming : (ct 0).contains "coming" = true := by decide +kernel
theorem i0_coming : ixOf "coming" ["coming", "pending"] = some 0 := by decide +kernel
theorem c0_pending : (ct 0).contains "pending" = true := by decide +kernel
theorem i0_pending : ixOf "pending" ["coming", "pending"] = some 1 := by decide +kernel
theorem j0_coming : ixOf "coming" [] = none := by decide +kernel
theorem j0_pending : ixOf "pending" ["coming"] = none := by decide +kernel
theorem io0_begin {ts : List T} : VT.isObj 0 "begin" (.nd (.obj 0 ["coming", "pending"]) ts) = true := by show (0 == 0 && !(List.contains (["coming", "pending"] : List Str) "begin")) = true; decide +kernel
theorem io0_holds {ts : List T} : VT.isObj 0 "holds" (.nd (.obj 0 ["coming", "pending"]) ts) = true := by show (0 == 0 && !(List.contains (["coming", "pending"] : List Str) "holds")) = true; decide +kernel
theorem io0_answered {ts : List T} : VT.isObj 0 "answered" (.nd (.obj 0 ["coming", "pending"]) ts) = true := by show (0 == 0 && !(List.contains (["coming", "pending"] : List Str) "answered")) = true; decide +kernel
theorem io0_waiting {ts : List T} : VT.isObj 0 "waiting" (.nd (.obj 0 ["coming", "pending"]) ts) = true := by show (0 == 0 && !(List.contains (["coming", "pending"] : List Str) "waiting")) = true; decide +kernel
theorem io0_is_told {ts : List T} : VT.isObj 0 "is_told" (.nd (.obj 0 ["coming", "pending"]) ts) = true := by show (0 == 0 && !(List.contains (["coming", "pending"] : List Str) "is_told")) = true; decide +kernel
theorem kn9 : kn 9 = some (Str.ofString "NoDeed+") := rfl
def rtS (b : Bool) : Str := if b then Str.ofString "w" else Str.ofString "r"
def tuT (l : List Int) : T := .nd .tup (l.map .int)
def fzT (l : List Int) : T := .nd .fz (l.map .int)
structure De where
  n : Int
  s : Int
  ps : List Int
  rs : List Int
  hs : List Int
def deT (d : De) : T := .nd .tup [.int d.n, .int d.s, tuT d.ps, tuT d.rs, tuT d.hs]
structure Dd where
  coming : Int
  pend : List De
abbrev ddX (c : Int) (l : List De) : T := .nd (.obj 0 ["coming", "pending"]) [.int c, .nd .lst (l.map deT)]
def ddT (d : Dd) : T := ddX d.coming d.pend
theorem rt_ok (b : Bool) : PyData.strOk (rtS b) = true := by cases b <;> decide +kernel
theorem tu_im (l : List Int) : (tuT l).im = true := im_ints l
theorem tu_imO (l : List Int) : imO (tuT l) = some (tuT l) := if_pos (tu_im l)
theorem fz_im (l : List Int) : (fzT l).im = true := im_ints l
theorem de_im (d : De) : (deT d).im = true := by unfold deT; simp only [im_tup, imAll_cons, im_int, tu_im, imAll_nil, Bool.and_true, Bool.and_self]
theorem im_map {α : Type} {g : α → T} (h : ∀ a, (g a).im = true) (l : List α) : T.imAll (l.map g) = true := imAll_mem.mpr fun t ht => by
  obtain ⟨a, _, rfl⟩ := List.mem_map.mp ht
  exact h a
theorem des_im (l : List De) : T.imAll (l.map deT) = true := im_map de_im l
theorem dd_im (x : Dd) : (ddT x).im = false := rfl
theorem inO_tup {i : Int} {l : List Int} : inO (.int i) (.nd .tup (l.map .int)) = inO (.int i) (.nd .lst (l.map .int)) := by
  have e : inO (.int i) (.nd .lst (l.map .int)) = some (inB (.int i) (l.map .int)) := by
    have h : inT (.int i) (.nd .lst (l.map .int)) = some (.bl (l.contains i)) := inT_ints
    unfold inT at h
    unfold inO at h ⊢
    simp only at h ⊢
    split
    · rfl
    · rename_i c; rw [if_neg c] at h; cases h
  rw [e]
  unfold inO
  simp only
  rw [if_pos]
  refine ⟨rfl, ?_⟩
  rw [List.all_map, List.all_eq_true]
  exact fun _ _ => rfl
theorem inA_sq {k : Kd} (hk : k = .lst ∨ k = .tup ∨ k = .fz) {i : Int} {l : List Int} : inA (.int i) (.nd k (l.map .int)) = some (.bl (decide (i ∈ l))) := by
  have e : inA (.int i) (.nd .lst (l.map .int)) = some (.bl (decide (i ∈ l))) := by rw [inA_l, inT_ints, List.contains_eq_mem]
  rcases hk with rfl | rfl | rfl
  · exact e
  · rw [inA_t]
    rw [inA_l] at e
    unfold inT at e ⊢
    rw [inO_tup, e]
  · exact e
theorem notInA_sq {k : Kd} (hk : k = .lst ∨ k = .tup ∨ k = .fz) {i : Int} {l : List Int} : notInA (.int i) (.nd k (l.map .int)) = some (.bl (decide (¬ i ∈ l))) := by
  have e : notInA (.int i) (.nd .lst (l.map .int)) = some (.bl (decide (¬ i ∈ l))) := by rw [notInA_l, notInT_ints, List.contains_eq_mem, decide_not]
  rcases hk with rfl | rfl | rfl
  · exact e
  · rw [notInA_t]
    rw [notInA_l] at e
    unfold notInT at e ⊢
    rw [inO_tup, e]
  · exact e
theorem inA_t1 {i : Int} {l : List Int} : inA (.int i) (tuT l) = some (.bl (decide (i ∈ l))) := inA_sq (.inr (.inl rfl))
theorem notInA_l1 {i : Int} {l : List Int} : notInA (.int i) (.nd .lst (l.map .int)) = some (.bl (decide (¬ i ∈ l))) := notInA_sq (.inl rfl)
theorem ne_ii {i j : Int} : neT (.int i) (.int j) = some (.bl (decide (¬ i = j))) := by rw [neT_ii, decide_not]
end K05
namespace K05
open PySem L2 VT
def Dd.begin (d : Dd) (s : Int) (ps rs hs : List Int) : Dd := { coming := d.coming + 1, pend := if hs = [] then d.pend else d.pend ++ [⟨d.coming, s, ps, rs, hs⟩] }
def heldL (s p : Int) (l : List De) : Bool := l.any fun d => decide (d.s = s ∧ p ∈ d.ps)
def Dd.held (d : Dd) (s p : Int) : Bool := heldL s p d.pend
def De.off (d : De) (h : Int) : De := { d with hs := d.hs.filter fun o => decide (¬ o = h) }
def ansLeft (h : Int) (l : List De) : List De := (l.map fun d => d.off h).filter fun d => decide (¬ d.hs = [])
def ansTold (h : Int) (l : List De) : List De := (l.map fun d => d.off h).filter fun d => decide (d.hs = [])
def toT (d : De) : T := .nd .tup [.int d.n, tuT d.rs]
theorem to_im (d : De) : (toT d).im = true := by unfold toT; simp only [im_tup, imAll_cons, im_int, tu_im, imAll_nil, Bool.and_true, Bool.and_self]
theorem tos_im (l : List De) : T.imAll (l.map toT) = true := im_map to_im l
theorem io0b (y : Dd) : VT.isObj 0 "begin" (ddT y) = true := io0_begin
theorem io0h (y : Dd) : VT.isObj 0 "holds" (ddT y) = true := io0_holds
theorem io0a (y : Dd) : VT.isObj 0 "answered" (ddT y) = true := io0_answered
theorem io0w (y : Dd) : VT.isObj 0 "waiting" (ddT y) = true := io0_waiting
theorem io0t (y : Dd) : VT.isObj 0 "is_told" (ddT y) = true := io0_is_told
theorem ixB_de0 {d : De} : ixB (deT d) (.int 0) = some (.int d.n) := rfl
theorem ixB_de1 {d : De} : ixB (deT d) (.int 1) = some (.int d.s) := rfl
theorem ixB_de2 {d : De} : ixB (deT d) (.int 2) = some (tuT d.ps) := rfl
theorem ixB_de4 {d : De} : ixB (deT d) (.int 4) = some (tuT d.hs) := rfl
theorem tup_l {l : List Int} : tupleT (.nd .lst (l.map .int)) = some (tuT l) := by rw [tupleT_lst, if_pos (im_ints l)]; rfl
theorem tup_t {l : List Int} : tupleT (tuT l) = some (tuT l) := by unfold tuT; rw [tupleT_tup, if_pos (im_ints l)]
theorem tup_f {l : List Int} : tupleT (fzT l) = some (tuT l) := by
  exact if_pos ⟨rfl, im_ints l⟩
theorem seq_tu {l : List Int} : seqO (tuT l) = some (.tup, l.map .int) := by unfold tuT; rw [seqO_tup, if_pos (im_ints l)]
theorem tu_len {l : List Int} : lenT (tuT l) = some (.int (l.length : Int)) := by unfold tuT; rw [lenT_tup, List.length_map]
theorem tu_pl (d : Nat) (l : List Int) : plT (d + 1) (tuT l) = true := pl_ints l
theorem eq_tu0 {l : List Int} : eqT (tuT l) (.nd .tup []) = some (.bl (decide (l = []))) := by
  show eqT (tuT l) (tuT []) = _
  rw [eqT_pl (tu_pl 7 l) (tu_pl 7 [])]
  cases l with
  | nil => rfl
  | cons a l => rfl
theorem tgT5 {d : De} {o0 o1 o2 o3 o4 o5 o6 o7 o8 o9 o10 : Option T} : tgT [4, 5, 6, 7, 8] (deT d) [o0, o1, o2, o3, o4, o5, o6, o7, o8, o9, o10] = some [o0, o1, o2, o3, some (.int d.n), some (.int d.s), some (tuT d.ps), some (tuT d.rs), some (tuT d.hs), o9, o10] := by
  unfold deT
  rw [tgT_tup, if_pos]
  · rfl
  · simp only [imAll_cons, im_int, tu_im, imAll_nil, Bool.and_true, Bool.and_self]
local macro_rules | `(tactic| walk_at "vtd") => `(tactic| first | omega | assumption | (simp only [List.length_set]; omega) | (simp only [plT, plAll, plI, Bool.and_true, Bool.and_self, ofS_ok, dg_ok, rt_ok]; done))
local macro_rules | `(tactic| walk_at "vt") => `(tactic| simp (disch := walk_at "vtd") only [↓eOp_q, kOp1_ok, kOp2_ok, kEn_q, ↓eOpB_q, kOpB_ok, kB1_q, ↓eUn_q, kUn_ok, ↓eOfN_q, ↓bOp_q, kBop_q, ↓bUn_q, ↓bOfP_q, kPl_q, kAt_q, tAt_nil, tAt_nd, nC_q, ↓nOfB_q, pVar_q, kPV_q, eVar_q, kVar_q, ↓sSeq_q, kSeq_nx, kSeq_rt, kSeq_ex, kSeq_bk, kSeq_ct, ↓sSet_q, kSet_ok, ↓sRet_q, kRet_ok, ↓sExpr_q, kExpr_ok, sNil_q, ↓sIf_q, kIf_q, ↓eNot_q, kNot_q, ↓eAnd_q, kAnd_q, ↓eOr_q, kOr_q, aNil_q, ↓aVal_q, kA1_ok, kA2_ok, ↓aRef_q, kAr_q, kAr2_ok, argOf_q, kArg_q, ↓eDisp_q, kD1_ok, kD2_q, valsOf_nil, valsOf_val, kVl_q, ↓eCall_q, kCall_ok, callR_q, kC1_q, kC2_q, argT_nil, argT_val, argT_pth, kAT1_q, kAT2_q, putB_nil, putB_val, tPut_nil, tPut_nd, ↓nTup_q, kNT_q, kNT2_q, baNil_q, ↓baVal_q, kBV_q, kBV2_q, ↓baRef_q, kBR_q, kBR2_q, ↓mBody_q, kBody_q, kBody2_nx, kBody2_rt, kBody2_ex, allS_nil, allS_some, imO_int, imO_str, imO_bl, imO_non, imO_tup, im_int, im_str, im_bl, im_non, im_tup, im_fz, im_lst, im_obj, imAll_nil, imAll_cons, mu_lst, mu_obj, gd_pos, gd_tr, mulT_i, modT_i, fdivT_i, powT_i, ltT_i, gtT_i, geT_i, minT_i, ixT_lst, ixT_fz, ixT_tup, lenT_lst, lenT_fz, lenT_tup, isN_non, isN_int, isN_nd, isN_str, ↓sMut_q, kMu_ok, kM0_q, kM1_q, kM2_q, kM3_q, setM_q, kSM_q, ob_some, sl, atI, ixN, ↓pFld_q, kF1_q, kF2_q, kF3_q, kF4_q, ↓eMeth_q, kMe_q, kMe2_q, ↓eMethP_q, kMP_q, kMP1_q, kMP2_q, kMP3_q, putB_q, kPB_q, ↓eMake_q, kMk_q, kMk2_q, kMk3_q, ↓eMutV_q, kLV0_q, kLV_q, kLV1_q, kLV2_q, kLV3_q, isLst_q, ↓eMutP_q, kLP_q, kLP0_q, kLP1_q, kLP2_q, kLP3_q, kLP4_q, appM_q, popM_q, kPop_q, putFM_q, kPF_s, kPF_n, ↓sForR_q, kFR_q, ↓sForE_q, kFE_q, kFE2_q, seqO_lst, seqO_fz, seqO_tup, ↓sForP_q, kFP_q, kFP1_q, kFP2_q, kFP3_q, kFP4_q, eqT_ii, neT_ii, inT_ints, notInT_ints, kL1_q, kL2_nx, kL2_ct, kL2_bk, kL2_rt, runL_nil, runL_cons, tgN_q, lcFrom_q, kLc_q, lcEnd_q, kLcE_q, wipeS_nil, wipeS_cons, restS_nil, restS_cons, kRs_n, kRs_s, listT_lst, listT_fz, listT_tup, isi_ii, isi_ib, isi_ll, eqT_pl, neT_pl, kSet_ex, kRet_ex, kExpr_ex, sRaise_q, ↓sTryK_q, kTry_ex, kTry_nx, kTry_rt, kTry2_q, setAll_n, setAll_c, augM_ints, ↓nLst_q, kNL_q, kNL2_q, ↓eLcR_q, kLR_q, mulT_l, lrgT_q, eqT_ln, neT_ln, rep_ints, get_int, set_int, app_int, teq_int, teq_str, teq_non, teq_tnil, teq_tcons, teq_li, ixA_lst, ixA_fz, ixA_tup, ixA_str, ixB_lst, ixB_fz, ixB_tup, ixB_dK, ixB_dT, kDo_s, dix_Ki, dix_Ks, dix_T, kDt_q, keysT_n, keysT_i, keysT_s, kKc_q, isDi_K, isDi_T, isDi_l, ixB_fK, dix_Fi, dix_Fs, mu_fK, im_fK, im_any, ↓sSetA_q, kSA_ok, kSA_ex, kSA0_q, kSA1_q, kSA2_q, kSA3_q, kSA4_q, setA_l, setA_Ki, setA_Ks, setA_T, kSt_q, mu_dK, mu_dT, im_dK, im_dT, inA_l, inA_t, inA_f, notInA_l, notInA_t, notInA_f, negT_i, ↓bNot_q, kBNot_q, ↓bAnd_q, kBAnd_q, bYes_q, lcN_q, kNlc_q, ↓bLc_q, kBL_q, kBLc_q, addA_i, addA_s, addA_ll, addA_fl, addA_tt, isB_bl, isB_non, isB_int, isB_str, isB_nd, isN_bl, addA_lf, beq_tt, beq_tf, beq_ft, beq_ff, Option.getD_none, eYes_q, tgT_tup, tupleT_lst, tupleT_tup, ↓ixB_fl, ↓setA_fl, ↓atI_fl, fl_get, fl_set, fl_getD, kAnd_ex, kOr_ex, kNot_ex, kIf_ex, kOpB_ex, kA1_ex, kD1_ex, up_id, ↓bLkD_q, kLD0_q, kLD1_q, kLD2_q, kLD3_q, kLD4_q, neL_l, neL_f, ↓sForL_q, ↓sForJ_q, ↓eLkL_q, kLL0_q, kLL1_q, kLL3_q, ↓bLst3_q, kL3a_q, kL3b_q, kL3c_q, List.length_set, beq_self_eq_true, getD_set, and_true, true_and, or_true, true_or, and_self, List.map_cons, List.map_nil, List.eraseIdx_cons_zero, List.length_cons, List.length_nil, List.length_map, List.replicate, List.append_nil, List.cons_append, List.nil_append, List.getElem?_cons_zero, List.getElem?_cons_succ, List.set_cons_zero, List.set_cons_succ, List.getD_cons_zero, List.getD_cons_succ, Option.getD_some, List.take, Nat.reduceSub, Nat.reduceAdd, Nat.reduceEqDiff, if_true, if_false, reduceIte, if_pos, if_neg, Int.toNat_zero, Int.toNat_one, Int.reduceLT, Int.reduceLE, Int.reduceToNat, List.tail_cons, Nat.zero_add, Nat.reduceLeDiff, Nat.reduceLT, Bool.and_true, Bool.true_and, Bool.and_self, Bool.not_true, Bool.not_false, decide_eq_true_eq, decide_true, decide_false, Bool.false_eq_true, c0_coming, i0_coming, c0_pending, i0_pending, j0_coming, j0_pending, io0_begin, io0_holds, io0_answered, io0_waiting, io0_is_told, kn9, im_ints, eqT_bb, neT_bb, rg_len, ne_ii, de_im, des_im, ↓ixB_de0, ↓ixB_de1, ↓ixB_de2, ↓ixB_de4, tu_im, tu_imO, ↓inA_t1, ↓tup_l, ↓tup_t, ↓tup_f, ↓seq_tu, tu_len, ↓eq_tu0, to_im, tos_im, fz_im, ↓notInA_l1, ↓tgT5])
theorem dd_init : m_Deeds___init [.nd (.obj 0 []) []] = some (.ok .non, [ddT ⟨0, []⟩]) := by
  unfold m_Deeds___init b_Deeds___init ddT
  walk_at "vt"
  try rfl
theorem dd_begin (d : Dd) (s : Int) (k1 k2 k3 : Kd) (t1 t2 t3 : T) (ps rs hs : List Int) (h1 : t1 = liT ps ∨ t1 = fzT ps) (h2 : t2 = liT rs ∨ t2 = fzT rs) (hl : d.pend.length < 100000) : m_Deeds_begin [ddT d, .int s, t1, t2, liT hs] = some (.ok (.int d.coming), [ddT (d.begin s ps rs hs), .int s, t1, t2, liT hs]) := by
  obtain ⟨c, l⟩ := d
  unfold m_Deeds_begin b_Deeds_begin ddT Dd.begin
  simp only at hl ⊢
  by_cases e : hs = []
  · subst e
    rcases h1 with rfl | rfl <;> rcases h2 with rfl | rfl
    all_goals
      walk_at "vt"
  · have e2 : (0 : Int) < (hs.length : Int) := by
      cases hs with
      | nil => exact absurd rfl e
      | cons a b => rw [List.length_cons]; omega
    rw [if_neg e]
    rcases h1 with rfl | rfl <;> rcases h2 with rfl | rfl
    all_goals
      walk_at "vt"
      unfold ddX
      rw [List.map_append]
      try rfl
abbrev B_holds : SF := (sIf (eAnd (eOfN (bOp eqT (bOp ixB (bOfP (pVar 3)) (nC (.int 1))) (bOfP (pVar 1)))) (eOfN (bOp inA (bOfP (pVar 2)) (bOp ixB (bOfP (pVar 3)) (nC (.int 2)))))) (sRet (eOfN (nC (.bl true)))) sNil)
theorem holds_loop (s p : Int) : ∀ (l : List De) (o : Option T), ∃ o', runL (tgN 3) B_holds (l.map deT) [none, some (.int s), some (.int p), o] = some (if heldL s p l = true then .rt (.bl true) else .nx, [none, some (.int s), some (.int p), o'])
  | [], o => ⟨o, rfl⟩
  | d :: l, o => by
    rw [List.map_cons]
    unfold heldL
    rw [List.any_cons]
    by_cases h1 : d.s = s
    · by_cases h2 : p ∈ d.ps
      · refine ⟨some (deT d), ?_⟩
        rw [decide_eq_true (And.intro h1 h2), Bool.true_or, if_pos rfl]
        walk_at "vt"
      · obtain ⟨o', e⟩ := holds_loop s p l (some (deT d))
        refine ⟨o', ?_⟩
        rw [decide_eq_false (fun z => h2 z.2), Bool.false_or]
        walk_at "vt"
        rw [e]
        try rfl
    · obtain ⟨o', e⟩ := holds_loop s p l (some (deT d))
      refine ⟨o', ?_⟩
      rw [decide_eq_false (fun z => h1 z.1), Bool.false_or]
      walk_at "vt"
      rw [e]
      try rfl
theorem dd_holds (d : Dd) (s p : Int) : m_Deeds_holds [ddT d, .int s, .int p] = some (.ok (.bl (d.held s p)), [ddT d, .int s, .int p]) := by
  obtain ⟨o', e⟩ := holds_loop s p d.pend none
  unfold m_Deeds_holds b_Deeds_holds ddT Dd.held
  walk_at "vt"
  rw [e]
  cases heldL s p d.pend
  · walk_at "vt"
  · walk_at "vt"
abbrev B_ans : SF := (sSeq (sSet 9 (eOfN (bUn tupleT (bLc [10] (tgN 10) (bOfP (pVar 8)) (bOp neT (bOfP (pVar 10)) (bOfP (pVar 1))) (nOfB (bOfP (pVar 10)))))))
    (sIf (eOfN (bOp eqT (bOfP (pVar 9)) (nTup baNil))) (sExpr (eMutV appM 3 (aVal (eOfN (nTup (baRef 4 (baRef 7 baNil)))) aNil))) (sExpr (eMutV appM 2 (aVal (eOfN (nTup (baRef 4 (baRef 5 (baRef 6 (baRef 7 (baRef 9 baNil))))))) aNil)))))
theorem run_off (h : Int) (l : List Int) (S : TSt) (hS : S.length = 11) (h1 : sl S 1 = some (.int h)) : runN (tgN 10) (bOp neT (bOfP (pVar 10)) (bOfP (pVar 1))) (nOfB (bOfP (pVar 10))) (l.map .int) S = some ((l.filter fun o => decide (¬ o = h)).map .int) := by
  match S, hS with
  | [o0, o1, o2, o3, o4, o5, o6, o7, o8, o9, o10], _ =>
    have h1 : o1 = some (.int h) := h1
    subst h1
    refine runN_pure (gx := T.int) (q := fun o => decide (¬ o = h)) (h := T.int) (fun o => [o0, some (.int h), o2, o3, o4, o5, o6, o7, o8, o9, some (.int o)]) l (fun c _ => rfl) (fun c _ => ?_) fun c _ _ => ?_
    · walk_at "vt"
      rw [decide_not]
    · walk_at "vt"
theorem ans_loop (h : Int) : ∀ (l : List De) (a b : List De) (o4 o5 o6 o7 o8 o9 : Option T), a.length + b.length + l.length < 100000 → (∀ d ∈ l, d.hs.length < 100000) → ∃ o4' o5' o6' o7' o8' o9', runL (tgT [4, 5, 6, 7, 8]) B_ans (l.map deT) [none, some (.int h), some (.nd .lst (a.map deT)), some (.nd .lst (b.map toT)), o4, o5, o6, o7, o8, o9, none] = some (.nx, [none, some (.int h), some (.nd .lst ((a ++ ansLeft h l).map deT)), some (.nd .lst ((b ++ ansTold h l).map toT)), o4', o5', o6', o7', o8', o9', none])
  | [], a, b, o4, o5, o6, o7, o8, o9, _, _ => ⟨o4, o5, o6, o7, o8, o9, by unfold ansLeft ansTold; simp only [List.map_nil, List.filter_nil, List.append_nil]; rfl⟩
  | d :: l, a, b, o4, o5, o6, o7, o8, o9, hl, hh => by
    have hd : d.hs.length < 100000 := hh d List.mem_cons_self
    have hh2 : ∀ d ∈ l, d.hs.length < 100000 := fun e he => hh e (List.mem_cons_of_mem _ he)
    rw [List.length_cons] at hl
    have ha : a.length < 100000 := by omega
    have hb : b.length < 100000 := by omega
    have er : ∀ (o2 o3 o4 o5 o6 o7 o8 o9 o10 : Option T), runN (tgN 10) (bOp neT (bOfP (pVar 10)) (bOfP (pVar 1))) (nOfB (bOfP (pVar 10))) (d.hs.map .int) [none, some (.int h), o2, o3, o4, o5, o6, o7, o8, o9, o10] = some ((d.off h).hs.map .int) := fun _ _ _ _ _ _ _ _ _ => run_off h d.hs _ rfl rfl
    by_cases c : (d.off h).hs = []
    · obtain ⟨o4', o5', o6', o7', o8', o9', ih⟩ := ans_loop h l a (b ++ [d.off h]) (some (.int d.n)) (some (.int d.s)) (some (tuT d.ps)) (some (tuT d.rs)) (some (tuT d.hs)) (some (tuT (d.off h).hs)) (by rw [List.length_append, List.length_singleton]; omega) hh2
      refine ⟨o4', o5', o6', o7', o8', o9', ?_⟩
      have e1 : ansLeft h (d :: l) = ansLeft h l := by unfold ansLeft; rw [List.map_cons, List.filter_cons, if_neg (by simp [c])]
      have e2 : b ++ ansTold h (d :: l) = (b ++ [d.off h]) ++ ansTold h l := by unfold ansTold; rw [List.map_cons, List.filter_cons, if_pos (by simp [c]), List.append_assoc]; rfl
      rw [e1, e2, ← ih, List.map_cons, runL_cons]
      walk_at "vt"
      rw [er]
      walk_at "vt"
      rw [List.map_append]
      try rfl
    · obtain ⟨o4', o5', o6', o7', o8', o9', ih⟩ := ans_loop h l (a ++ [d.off h]) b (some (.int d.n)) (some (.int d.s)) (some (tuT d.ps)) (some (tuT d.rs)) (some (tuT d.hs)) (some (tuT (d.off h).hs)) (by rw [List.length_append, List.length_singleton]; omega) hh2
      refine ⟨o4', o5', o6', o7', o8', o9', ?_⟩
      have e1 : ansTold h (d :: l) = ansTold h l := by unfold ansTold; rw [List.map_cons, List.filter_cons, if_neg (by simp [c])]
      have e2 : a ++ ansLeft h (d :: l) = (a ++ [d.off h]) ++ ansLeft h l := by unfold ansLeft; rw [List.map_cons, List.filter_cons, if_pos (by simp [c]), List.append_assoc]; rfl
      rw [e1, e2, ← ih, List.map_cons, runL_cons]
      walk_at "vt"
      rw [er]
      walk_at "vt"
      rw [List.map_append]
      try rfl
def Dd.answer (d : Dd) (h : Int) : Dd := { d with pend := ansLeft h d.pend }
theorem dd_answered (d : Dd) (h : Int) (hl : d.pend.length < 100000) (hh : ∀ e ∈ d.pend, e.hs.length < 100000) : m_Deeds_answered [ddT d, .int h] = some (.ok (.nd .lst ((ansTold h d.pend).map toT)), [ddT (d.answer h), .int h]) := by
  obtain ⟨o4', o5', o6', o7', o8', o9', e⟩ := ans_loop h d.pend [] [] none none none none none none (by simpa using hl) hh
  rw [List.nil_append, List.nil_append, List.map_nil, List.map_nil] at e
  unfold m_Deeds_answered b_Deeds_answered ddT
  walk_at "vt"
  rw [e]
  walk_at "vt"
  try rfl
def waT (l : List De) : T := .nd .lst (l.map fun d => .nd .tup [.int d.n, tuT d.hs])
theorem dd_waiting (d : Dd) (hl : d.pend.length < 100000) : m_Deeds_waiting [ddT d] = some (.ok (waT d.pend), [ddT d]) := by
  unfold m_Deeds_waiting b_Deeds_waiting ddT
  walk_at "vt"
  rw [runN_pure (gx := deT) (q := fun _ => true) (h := fun d => .nd .tup [.int d.n, tuT d.hs]) (fun c => [some (ddX d.coming d.pend), some (deT c)]) d.pend (fun c _ => by walk_at "vt") (fun c _ => rfl) fun c _ _ => ?_]
  · walk_at "vt"
    have e : d.pend.filter (fun _ => true) = d.pend := List.filter_eq_self.mpr fun _ _ => rfl
    rw [e]
    try rfl
  · walk_at "vt"
def Dd.waits (d : Dd) (n : Int) : Bool := decide (n ∈ d.pend.map (·.n))
theorem dd_told (d : Dd) (n : Int) (h0 : 0 ≤ n) (h1 : n < d.coming) (hl : d.pend.length < 100000) : m_Deeds_is_told [ddT d, .int n] = some (.ok (.bl (!d.waits n)), [ddT d, .int n]) := by
  unfold m_Deeds_is_told b_Deeds_is_told ddT Dd.waits
  have h2 : ¬ n < 0 := by omega
  have h3 : ¬ d.coming ≤ n := by omega
  walk_at "vt"
  rw [runN_pure (gx := deT) (q := fun _ => true) (h := fun d => .int d.n) (fun c => [some (ddX d.coming d.pend), some (.int n), some (deT c)]) d.pend (fun c _ => by walk_at "vt") (fun c _ => rfl) fun c _ _ => ?_]
  · have e : d.pend.filter (fun _ => true) = d.pend := List.filter_eq_self.mpr fun _ _ => rfl
    have e2 : (d.pend.map fun d => T.int d.n) = (d.pend.map (·.n)).map .int := by rw [List.map_map]; rfl
    rw [e, e2]
    walk_at "vt"
    rw [decide_not]
  · walk_at "vt"
theorem dd_told_ex (d : Dd) (n : Int) (h : n < 0 ∨ d.coming ≤ n) : m_Deeds_is_told [ddT d, .int n] = some (.ex 9, [ddT d, .int n]) := by
  unfold m_Deeds_is_told b_Deeds_is_told ddT
  by_cases h0 : n < 0
  · walk_at "vt"
  · have h1 : d.coming ≤ n := by omega
    walk_at "vt"
end K05
namespace K05
open PySem L2 VT
theorem lockDs_map {α : Type} {g g' : α → T} (h : ∀ a, lockD (g a) = some (g' a)) : ∀ l : List α, lockDs (l.map g) = some (l.map g')
  | [] => rfl
  | a :: l => by
    rw [List.map_cons, List.map_cons]
    show (lockD (g a)).bind (fun u => (lockDs (l.map g)).bind fun us => some (u :: us)) = _
    rw [h a, lockDs_map h l]
    try rfl
theorem lockD_lst {ts us : List T} (h : lockDs ts = some us) : lockD (.nd .lst ts) = some (.nd .fz us) := by
  show (lockDs ts).bind (fun us => some (T.nd Kd.fz us)) = _
  rw [h]; rfl
theorem lockDs_ints (l : List Int) : lockDs (l.map T.int) = some (l.map T.int) := lockDs_map (g := T.int) (g' := T.int) (fun _ => rfl) l
theorem era_int {l : List Int} {k : Nat} : (l.map T.int).eraseIdx k = (l.eraseIdx k).map .int := by
  induction l generalizing k with
  | nil => cases k <;> rfl
  | cons x l ih =>
    cases k with
    | zero => rfl
    | succ k => simp [List.eraseIdx, ih]
local macro_rules | `(tactic| walk_at "vtd") => `(tactic| first | omega | assumption | (simp only [List.length_set]; omega) | (simp only [plT, plAll, plI, Bool.and_true, Bool.and_self, ofS_ok, dg_ok]; done))
local macro_rules | `(tactic| walk_at "vt") => `(tactic| simp (disch := walk_at "vtd") only [↓eOp_q, kOp1_ok, kOp2_ok, kEn_q, ↓eOpB_q, kOpB_ok, kB1_q, ↓eUn_q, kUn_ok, ↓eOfN_q, ↓bOp_q, kBop_q, ↓bUn_q, ↓bOfP_q, kPl_q, kAt_q, tAt_nil, tAt_nd, nC_q, ↓nOfB_q, pVar_q, kPV_q, eVar_q, kVar_q, ↓sSeq_q, kSeq_nx, kSeq_rt, kSeq_ex, kSeq_bk, kSeq_ct, ↓sSet_q, kSet_ok, ↓sRet_q, kRet_ok, ↓sExpr_q, kExpr_ok, sNil_q, ↓sIf_q, kIf_q, ↓eNot_q, kNot_q, ↓eAnd_q, kAnd_q, ↓eOr_q, kOr_q, aNil_q, ↓aVal_q, kA1_ok, kA2_ok, ↓aRef_q, kAr_q, kAr2_ok, argOf_q, kArg_q, ↓eDisp_q, kD1_ok, kD2_q, valsOf_nil, valsOf_val, kVl_q, ↓eCall_q, kCall_ok, callR_q, kC1_q, kC2_q, argT_nil, argT_val, argT_pth, kAT1_q, kAT2_q, putB_nil, putB_val, tPut_nil, tPut_nd, ↓nTup_q, kNT_q, kNT2_q, baNil_q, ↓baVal_q, kBV_q, kBV2_q, ↓baRef_q, kBR_q, kBR2_q, ↓mBody_q, kBody_q, kBody2_nx, kBody2_rt, kBody2_ex, allS_nil, allS_some, imO_int, imO_str, imO_bl, imO_non, imO_tup, im_int, im_str, im_bl, im_non, im_tup, im_fz, im_lst, im_obj, imAll_nil, imAll_cons, mu_lst, mu_obj, gd_pos, gd_tr, mulT_i, modT_i, fdivT_i, powT_i, ltT_i, gtT_i, geT_i, minT_i, ixT_lst, ixT_fz, ixT_tup, lenT_lst, lenT_fz, lenT_tup, isN_non, isN_int, isN_nd, isN_str, ↓sMut_q, kMu_ok, kM0_q, kM1_q, kM2_q, kM3_q, setM_q, kSM_q, ob_some, sl, atI, ixN, ↓pFld_q, kF1_q, kF2_q, kF3_q, kF4_q, ↓eMeth_q, kMe_q, kMe2_q, ↓eMethP_q, kMP_q, kMP1_q, kMP2_q, kMP3_q, putB_q, kPB_q, ↓eMake_q, kMk_q, kMk2_q, kMk3_q, ↓eMutV_q, kLV0_q, kLV_q, kLV1_q, kLV2_q, kLV3_q, isLst_q, ↓eMutP_q, kLP_q, kLP0_q, kLP1_q, kLP2_q, kLP3_q, kLP4_q, appM_q, popM_q, kPop_q, putFM_q, kPF_s, kPF_n, ↓sForR_q, kFR_q, ↓sForE_q, kFE_q, kFE2_q, seqO_lst, seqO_fz, seqO_tup, ↓sForP_q, kFP_q, kFP1_q, kFP2_q, kFP3_q, kFP4_q, eqT_ii, neT_ii, inT_ints, notInT_ints, kL1_q, kL2_nx, kL2_ct, kL2_bk, kL2_rt, runL_nil, runL_cons, tgN_q, lcFrom_q, kLc_q, lcEnd_q, kLcE_q, wipeS_nil, wipeS_cons, restS_nil, restS_cons, kRs_n, kRs_s, listT_lst, listT_fz, listT_tup, isi_ii, isi_ib, isi_ll, eqT_pl, neT_pl, kSet_ex, kRet_ex, kExpr_ex, sRaise_q, ↓sTryK_q, kTry_ex, kTry_nx, kTry_rt, kTry2_q, setAll_n, setAll_c, augM_ints, ↓nLst_q, kNL_q, kNL2_q, ↓eLcR_q, kLR_q, mulT_l, lrgT_q, eqT_ln, neT_ln, rep_ints, get_int, set_int, app_int, teq_int, teq_str, teq_non, teq_tnil, teq_tcons, teq_li, ixA_lst, ixA_fz, ixA_tup, ixA_str, ixB_lst, ixB_fz, ixB_tup, ixB_dK, ixB_dT, kDo_s, dix_Ki, dix_Ks, dix_T, kDt_q, keysT_n, keysT_i, keysT_s, kKc_q, isDi_K, isDi_T, isDi_l, ixB_fK, dix_Fi, dix_Fs, mu_fK, im_fK, im_any, ↓sSetA_q, kSA_ok, kSA_ex, kSA0_q, kSA1_q, kSA2_q, kSA3_q, kSA4_q, setA_l, setA_Ki, setA_Ks, setA_T, kSt_q, mu_dK, mu_dT, im_dK, im_dT, inA_l, inA_t, inA_f, notInA_l, notInA_t, notInA_f, negT_i, ↓bNot_q, kBNot_q, ↓bAnd_q, kBAnd_q, bYes_q, lcN_q, kNlc_q, ↓bLc_q, kBL_q, kBLc_q, addA_i, addA_s, addA_ll, addA_fl, addA_tt, isB_bl, isB_non, isB_int, isB_str, isB_nd, isN_bl, addA_lf, beq_tt, beq_tf, beq_ft, beq_ff, Option.getD_none, eYes_q, tgT_tup, tupleT_lst, tupleT_tup, ↓ixB_fl, ↓setA_fl, ↓atI_fl, fl_get, fl_set, fl_getD, kAnd_ex, kOr_ex, kNot_ex, kIf_ex, kOpB_ex, kA1_ex, kD1_ex, up_id, ↓bLkD_q, kLD0_q, kLD1_q, kLD2_q, kLD3_q, kLD4_q, neL_l, neL_f, ↓sForL_q, ↓sForJ_q, ↓eLkL_q, kLL0_q, kLL1_q, kLL3_q, ↓bLst3_q, kL3a_q, kL3b_q, kL3c_q, List.length_set, beq_self_eq_true, getD_set, and_true, true_and, or_true, true_or, and_self, List.map_cons, List.map_nil, List.eraseIdx_cons_zero, List.length_cons, List.length_nil, List.length_map, List.replicate, List.append_nil, List.cons_append, List.nil_append, List.getElem?_cons_zero, List.getElem?_cons_succ, List.set_cons_zero, List.set_cons_succ, List.getD_cons_zero, List.getD_cons_succ, Option.getD_some, List.take, Nat.reduceSub, Nat.reduceAdd, Nat.reduceEqDiff, if_true, if_false, reduceIte, if_pos, if_neg, Int.toNat_zero, Int.toNat_one, Int.reduceLT, Int.reduceLE, Int.reduceToNat, List.tail_cons, Nat.zero_add, Nat.reduceLeDiff, Nat.reduceLT, Bool.and_true, Bool.true_and, Bool.and_self, Bool.not_true, Bool.not_false, decide_eq_true_eq, decide_true, decide_false, Bool.false_eq_true, c0_coming, i0_coming, c0_pending, i0_pending, j0_coming, j0_pending, io0_begin, io0_holds, io0_answered, io0_waiting, io0_is_told, kn9, im_ints, nc2, eqT_bb, neT_bb, rg_len, take_eq, ↓ix2, ne_ii, era_int])
abbrev B_pg : SF := (sExpr (eMutV appM 3 (aVal (eMutV popM 2 (aVal (eCall m_law_take 2 (aRef 0 (aVal (eOfN (bUn lenT (bOfP (pVar 2)))) aNil))) aNil)) aNil)))
theorem pg_turn (a s many : Int) (left found : List Int) (j : T) (hl : 0 < left.length) (h30 : left.length + found.length ≤ 30) :
    B_pg [some (bagT a s), some (.int many), some (liT left), some (liT found), some j] = some (.nx, [some (bagT (tkA a left.length) (tkS a s)), some (.int many), some (liT (left.eraseIdx (tkR a s left.length).toNat)), some (liT (found ++ [left.getD (tkR a s left.length).toNat 0])), some j]) := by
  have t := tkR_lt a s left.length (by omega)
  walk_at "vt"
theorem erase_facts {l : List Int} {k : Nat} (hk : k < l.length) (nd : l.Nodup) : l.getD k 0 ∉ l.eraseIdx k ∧ (l.eraseIdx k).Nodup ∧ (∀ x ∈ l.eraseIdx k, x ∈ l) ∧ l.getD k 0 ∈ l ∧ (l.eraseIdx k).length + 1 = l.length := by
  induction l generalizing k with
  | nil => simp at hk
  | cons y l ih =>
    rw [List.nodup_cons] at nd
    cases k with
    | zero => exact ⟨nd.1, nd.2, fun x hx => List.mem_cons_of_mem _ hx, List.mem_cons_self, rfl⟩
    | succ k =>
      simp at hk
      obtain ⟨h1, h2, h3, h4, h5⟩ := ih hk nd.2
      simp only [List.eraseIdx_cons_succ, List.getD_cons_succ]
      refine ⟨fun z => ?_, ?_, fun x hx => ?_, List.mem_cons_of_mem _ h4, by simp; omega⟩
      · rcases List.mem_cons.mp z with z | z
        · rw [z] at h4; exact nd.1 h4
        · exact h1 z
      · rw [List.nodup_cons]
        exact ⟨fun z => nd.1 (h3 _ z), h2⟩
      · rcases List.mem_cons.mp hx with z | z
        · rw [z]; exact List.mem_cons_self
        · exact List.mem_cons_of_mem _ (h3 x z)
theorem nodup_app1 {l : List Int} {x : Int} (h : l.Nodup) (hx : x ∉ l) : (l ++ [x]).Nodup := by
  rw [List.nodup_append]
  refine ⟨h, List.nodup_cons.mpr ⟨List.not_mem_nil, List.nodup_nil⟩, fun a ha b hb => ?_⟩
  rw [List.mem_singleton.mp hb]
  exact fun z => hx (z ▸ ha)
theorem rg_nodup (n : Int) : (rgI n).Nodup := by
  unfold rgI
  exact List.Pairwise.map _ (fun a b h z => h (by omega)) List.nodup_range
theorem pages_ex (a s many : Int) (h0 : 0 < many) (h1 : many ≤ 30) : ∃ (a' s' : Int) (ps : List Int), m_law_pages [bagT a s, .int many] = some (.ok (liT ps), [bagT a' s', .int many]) ∧ ps.Nodup ∧ ps.length ≤ 30 ∧ ∀ p ∈ ps, 0 ≤ p ∧ p < many := by
  have t2 := two_le 3 30 (tkR a s 2) 3 30 (by decide) (by decide) (by decide) (by decide)
  have hm : ∃ m : Int, (if two 3 30 (tkR a s 2) < many then two 3 30 (tkR a s 2) else many) = m ∧ 0 < m ∧ m ≤ many := by
    refine ⟨_, rfl, ?_, ?_⟩ <;> split <;> omega
  obtain ⟨m, em, m0, m1⟩ := hm
  have t3 := tkR_lt (tkA a 2) (tkS a s) (m + 1) (by omega)
  obtain ⟨S', e, ⟨a', s', left, found, o, hS, n1, n2, n3, n4, n5, n6⟩⟩ := runL_inv (tf := tgN 4) (body := B_pg) (I := fun k S => ∃ (a s : Int) (left found : List Int) (o : Option T), S = [some (bagT a s), some (.int many), some (liT left), some (liT found), o] ∧ found.Nodup ∧ left.Nodup ∧ (∀ x ∈ found, x ∉ left) ∧ k ≤ left.length ∧ left.length + found.length ≤ 30 ∧ ∀ x, x ∈ left ∨ x ∈ found → 0 ≤ x ∧ x < many) (rgT (tkR (tkA a 2) (tkS a s) (m + 1))) [some (bagT (tkA (tkA a 2) (m + 1)) (tkS (tkA a 2) (tkS a s))), some (.int many), some (liT (rgI many)), some (liT []), none]
    ⟨_, _, rgI many, [], none, rfl, List.nodup_nil, rg_nodup many, fun _ h => (nomatch h), by rw [rg_len, rgI_length]; omega, (by rw [rgI_length]; simp; omega), fun x hx => hx.elim (fun z => mem_rgI.mp z) fun z => (nomatch z)⟩ (by
      rintro k t S ht ⟨a, s, left, found, o, rfl, q1, q2, q3, q4, q5, q6⟩
      have tt := tkR_lt a s left.length (by omega)
      obtain ⟨f1, f2, f3, f4, f5⟩ := erase_facts (k := (tkR a s left.length).toNat) (by omega) q2
      have im : t.im = true := by
        rw [rgT_ints] at ht
        obtain ⟨j, _, rfl⟩ := List.mem_map.mp ht
        rfl
      refine ⟨_, _, if_pos im, pg_turn a s many left found t (by omega) q5, _, _, _, _, _, rfl, nodup_app1 q1 fun z => q3 _ z f4, f2, fun x hx => ?_, by omega, (by simp; omega), fun x hx => ?_⟩
      · rcases List.mem_append.mp hx with z | z
        · exact fun y => q3 x z (f3 x y)
        · rw [List.mem_singleton.mp z]; exact f1
      · rcases hx with z | z
        · exact q6 x (.inl (f3 x z))
        · rcases List.mem_append.mp z with z | z
          · exact q6 x (.inr z)
          · rw [List.mem_singleton.mp z]; exact q6 _ (.inl f4))
  refine ⟨a', s', found, ?_, n1, by omega, fun p hp => n6 p (.inr hp)⟩
  unfold m_law_pages b_law_pages
  walk_at "vt"
  rw [em]
  walk_at "vt"
  rw [rgT_ints many, show T.nd .lst [] = liT [] from rfl, e, hS]
  walk_at "vt"
def lqT (d : De) : T := .nd .lst [.int d.n, .int d.s, liT d.ps, liT d.rs, liT d.hs]
def fqT (d : De) : T := .nd .fz [.int d.n, .int d.s, fzT d.ps, fzT d.rs, fzT d.hs]
def pqT (l : List De) : T := .nd .lst (l.map lqT)
theorem fq_im (d : De) : (fqT d).im = true := by
  have h : ∀ l : List Int, (fzT l).im = true := fz_im
  unfold fqT
  simp only [im_fz, imAll_cons, im_int, h, imAll_nil, Bool.and_true, Bool.and_self]
theorem fq_imO (d : De) : imO (fqT d) = some (fqT d) := if_pos (fq_im d)
theorem fqs_im (l : List De) : T.imAll (l.map fqT) = true := im_map fq_im l
theorem li_lk (l : List Int) : lockD (liT l) = some (fzT l) := lockD_lst (lockDs_ints l)
theorem lq_lk (d : De) : lockD (lqT d) = some (fqT d) := by
  refine lockD_lst ?_
  have hi : ∀ i, lockD (.int i) = some (.int i) := fun _ => rfl
  simp only [lockDs, hi, li_lk, Option.bind_some]
theorem pq_lk (l : List De) : lockD (pqT l) = some (.nd .fz (l.map fqT)) := lockD_lst (lockDs_map lq_lk l)
theorem ixB_fq0 {d : De} : ixB (fqT d) (.int 0) = some (.int d.n) := rfl
theorem ixB_fq1 {d : De} : ixB (fqT d) (.int 1) = some (.int d.s) := rfl
theorem ixB_fq2 {d : De} : ixB (fqT d) (.int 2) = some (fzT d.ps) := rfl
theorem ixB_fq4 {d : De} : ixB (fqT d) (.int 4) = some (fzT d.hs) := rfl
theorem inA_fz1 {p : Int} {l : List Int} : inA (.int p) (fzT l) = some (.bl (decide (p ∈ l))) := by
  unfold fzT
  exact inA_sq (.inr (.inr rfl))
theorem isE_map {α β : Type} {f : α → β} (q : α → Bool) : ∀ l : List α, (!((l.filter q).map f).isEmpty) = l.any q
  | [] => rfl
  | a :: l => by
    rw [List.filter_cons, List.any_cons]
    cases q a with
    | true => rfl
    | false => rw [Bool.false_or, ← isE_map q l]; rfl
local macro_rules | `(tactic| walk_at "vtd") => `(tactic| first | omega | assumption | (simp only [List.length_set]; omega) | (simp only [plT, plAll, plI, Bool.and_true, Bool.and_self, ofS_ok, dg_ok]; done))
local macro_rules | `(tactic| walk_at "vt") => `(tactic| simp (disch := walk_at "vtd") only [↓eOp_q, kOp1_ok, kOp2_ok, kEn_q, ↓eOpB_q, kOpB_ok, kB1_q, ↓eUn_q, kUn_ok, ↓eOfN_q, ↓bOp_q, kBop_q, ↓bUn_q, ↓bOfP_q, kPl_q, kAt_q, tAt_nil, tAt_nd, nC_q, ↓nOfB_q, pVar_q, kPV_q, eVar_q, kVar_q, ↓sSeq_q, kSeq_nx, kSeq_rt, kSeq_ex, kSeq_bk, kSeq_ct, ↓sSet_q, kSet_ok, ↓sRet_q, kRet_ok, ↓sExpr_q, kExpr_ok, sNil_q, ↓sIf_q, kIf_q, ↓eNot_q, kNot_q, ↓eAnd_q, kAnd_q, ↓eOr_q, kOr_q, aNil_q, ↓aVal_q, kA1_ok, kA2_ok, ↓aRef_q, kAr_q, kAr2_ok, argOf_q, kArg_q, ↓eDisp_q, kD1_ok, kD2_q, valsOf_nil, valsOf_val, kVl_q, ↓eCall_q, kCall_ok, callR_q, kC1_q, kC2_q, argT_nil, argT_val, argT_pth, kAT1_q, kAT2_q, putB_nil, putB_val, tPut_nil, tPut_nd, ↓nTup_q, kNT_q, kNT2_q, baNil_q, ↓baVal_q, kBV_q, kBV2_q, ↓baRef_q, kBR_q, kBR2_q, ↓mBody_q, kBody_q, kBody2_nx, kBody2_rt, kBody2_ex, allS_nil, allS_some, imO_int, imO_str, imO_bl, imO_non, imO_tup, im_int, im_str, im_bl, im_non, im_tup, im_fz, im_lst, im_obj, imAll_nil, imAll_cons, mu_lst, mu_obj, gd_pos, gd_tr, mulT_i, modT_i, fdivT_i, powT_i, ltT_i, gtT_i, geT_i, minT_i, ixT_lst, ixT_fz, ixT_tup, lenT_lst, lenT_fz, lenT_tup, isN_non, isN_int, isN_nd, isN_str, ↓sMut_q, kMu_ok, kM0_q, kM1_q, kM2_q, kM3_q, setM_q, kSM_q, ob_some, sl, atI, ixN, ↓pFld_q, kF1_q, kF2_q, kF3_q, kF4_q, ↓eMeth_q, kMe_q, kMe2_q, ↓eMethP_q, kMP_q, kMP1_q, kMP2_q, kMP3_q, putB_q, kPB_q, ↓eMake_q, kMk_q, kMk2_q, kMk3_q, ↓eMutV_q, kLV0_q, kLV_q, kLV1_q, kLV2_q, kLV3_q, isLst_q, ↓eMutP_q, kLP_q, kLP0_q, kLP1_q, kLP2_q, kLP3_q, kLP4_q, appM_q, popM_q, kPop_q, putFM_q, kPF_s, kPF_n, ↓sForR_q, kFR_q, ↓sForE_q, kFE_q, kFE2_q, seqO_lst, seqO_fz, seqO_tup, ↓sForP_q, kFP_q, kFP1_q, kFP2_q, kFP3_q, kFP4_q, eqT_ii, neT_ii, inT_ints, notInT_ints, kL1_q, kL2_nx, kL2_ct, kL2_bk, kL2_rt, runL_nil, runL_cons, tgN_q, lcFrom_q, kLc_q, lcEnd_q, kLcE_q, wipeS_nil, wipeS_cons, restS_nil, restS_cons, kRs_n, kRs_s, listT_lst, listT_fz, listT_tup, isi_ii, isi_ib, isi_ll, eqT_pl, neT_pl, kSet_ex, kRet_ex, kExpr_ex, sRaise_q, ↓sTryK_q, kTry_ex, kTry_nx, kTry_rt, kTry2_q, setAll_n, setAll_c, augM_ints, ↓nLst_q, kNL_q, kNL2_q, ↓eLcR_q, kLR_q, mulT_l, lrgT_q, eqT_ln, neT_ln, rep_ints, get_int, set_int, app_int, teq_int, teq_str, teq_non, teq_tnil, teq_tcons, teq_li, ixA_lst, ixA_fz, ixA_tup, ixA_str, ixB_lst, ixB_fz, ixB_tup, ixB_dK, ixB_dT, kDo_s, dix_Ki, dix_Ks, dix_T, kDt_q, keysT_n, keysT_i, keysT_s, kKc_q, isDi_K, isDi_T, isDi_l, ixB_fK, dix_Fi, dix_Fs, mu_fK, im_fK, im_any, ↓sSetA_q, kSA_ok, kSA_ex, kSA0_q, kSA1_q, kSA2_q, kSA3_q, kSA4_q, setA_l, setA_Ki, setA_Ks, setA_T, kSt_q, mu_dK, mu_dT, im_dK, im_dT, inA_l, inA_t, inA_f, notInA_l, notInA_t, notInA_f, negT_i, ↓bNot_q, kBNot_q, ↓bAnd_q, kBAnd_q, bYes_q, lcN_q, kNlc_q, ↓bLc_q, kBL_q, kBLc_q, addA_i, addA_s, addA_ll, addA_fl, addA_tt, isB_bl, isB_non, isB_int, isB_str, isB_nd, isN_bl, addA_lf, beq_tt, beq_tf, beq_ft, beq_ff, Option.getD_none, eYes_q, tgT_tup, tupleT_lst, tupleT_tup, ↓ixB_fl, ↓setA_fl, ↓atI_fl, fl_get, fl_set, fl_getD, kAnd_ex, kOr_ex, kNot_ex, kIf_ex, kOpB_ex, kA1_ex, kD1_ex, up_id, ↓bLkD_q, kLD0_q, kLD1_q, kLD2_q, kLD3_q, kLD4_q, neL_l, neL_f, ↓sForL_q, ↓sForJ_q, ↓eLkL_q, kLL0_q, kLL1_q, kLL3_q, ↓bLst3_q, kL3a_q, kL3b_q, kL3c_q, List.length_set, beq_self_eq_true, getD_set, and_true, true_and, or_true, true_or, and_self, List.map_cons, List.map_nil, List.eraseIdx_cons_zero, List.length_cons, List.length_nil, List.length_map, List.replicate, List.append_nil, List.cons_append, List.nil_append, List.getElem?_cons_zero, List.getElem?_cons_succ, List.set_cons_zero, List.set_cons_succ, List.getD_cons_zero, List.getD_cons_succ, Option.getD_some, List.take, Nat.reduceSub, Nat.reduceAdd, Nat.reduceEqDiff, if_true, if_false, reduceIte, if_pos, if_neg, Int.toNat_zero, Int.toNat_one, Int.reduceLT, Int.reduceLE, Int.reduceToNat, List.tail_cons, Nat.zero_add, Nat.reduceLeDiff, Nat.reduceLT, Bool.and_true, Bool.true_and, Bool.and_self, Bool.not_true, Bool.not_false, decide_eq_true_eq, decide_true, decide_false, Bool.false_eq_true, c0_coming, i0_coming, c0_pending, i0_pending, j0_coming, j0_pending, io0_begin, io0_holds, io0_answered, io0_waiting, io0_is_told, kn9, im_ints, nc2, eqT_bb, neT_bb, rg_len, ne_ii, ↓pq_lk, ↓fq_im, ↓fqs_im, ↓fq_imO, ↓ixB_fq0, ↓ixB_fq1, ↓ixB_fq2, ↓ixB_fq4, ↓inA_fz1, neL_l, T.nk, tu_im, tu_imO, ↓tup_f])
theorem held_q (s p : Int) (l : List De) : (l.any fun d => decide (d.s = s) && decide (p ∈ d.ps)) = heldL s p l := by
  unfold heldL
  congr 1
  funext d
  by_cases h1 : d.s = s <;> by_cases h2 : p ∈ d.ps <;> simp [h1, h2]
theorem held_eq (s p : Int) (l : List De) (hl : l.length < 100000) : m_law_held [pqT l, .int s, .int p] = some (.ok (.bl (heldL s p l)), [pqT l, .int s, .int p]) := by
  unfold m_law_held b_law_held
  walk_at "vt"
  rw [runN_pure (gx := fqT) (q := fun d => decide (d.s = s) && decide (p ∈ d.ps)) (h := fqT) (fun d => [some (.nd .fz (l.map fqT)), some (.int s), some (.int p), some (fqT d)]) l (fun c _ => by walk_at "vt") (fun c _ => ?_) fun c _ _ => by walk_at "vt"]
  · walk_at "vt"
    rw [isE_map, held_q]
  · by_cases h1 : c.s = s
    · rw [decide_eq_true h1, Bool.true_and]
      walk_at "vt"
    · rw [decide_eq_false h1, Bool.false_and]
      walk_at "vt"
end K05
namespace K05
open PySem L2 VT
theorem fz_len {l : List Int} : lenT (fzT l) = some (.int (l.length : Int)) := by unfold fzT; rw [lenT_fz, List.length_map]
theorem isi_bb {b : Bool} : isiT "bool" (.bl b) = some (.bl true) := rfl
theorem ints_ins {l : List Int} {n : Nat} {h : Int} : (l.map T.int).take n ++ [T.int h] ++ (l.map T.int).drop n = (l.take n ++ [h] ++ l.drop n).map T.int := by simp
local macro_rules | `(tactic| walk_at "vtd") => `(tactic| first | omega | assumption | (simp only [List.length_set]; omega) | (simp only [plT, plAll, plI, Bool.and_true, Bool.and_self, ofS_ok, dg_ok]; done))
local macro_rules | `(tactic| walk_at "vt") => `(tactic| simp (disch := walk_at "vtd") only [↓eOp_q, kOp1_ok, kOp2_ok, kEn_q, ↓eOpB_q, kOpB_ok, kB1_q, ↓eUn_q, kUn_ok, ↓eOfN_q, ↓bOp_q, kBop_q, ↓bUn_q, ↓bOfP_q, kPl_q, kAt_q, tAt_nil, tAt_nd, nC_q, ↓nOfB_q, pVar_q, kPV_q, eVar_q, kVar_q, ↓sSeq_q, kSeq_nx, kSeq_rt, kSeq_ex, kSeq_bk, kSeq_ct, ↓sSet_q, kSet_ok, ↓sRet_q, kRet_ok, ↓sExpr_q, kExpr_ok, sNil_q, ↓sIf_q, kIf_q, ↓eNot_q, kNot_q, ↓eAnd_q, kAnd_q, ↓eOr_q, kOr_q, aNil_q, ↓aVal_q, kA1_ok, kA2_ok, ↓aRef_q, kAr_q, kAr2_ok, argOf_q, kArg_q, ↓eDisp_q, kD1_ok, kD2_q, valsOf_nil, valsOf_val, kVl_q, ↓eCall_q, kCall_ok, callR_q, kC1_q, kC2_q, argT_nil, argT_val, argT_pth, kAT1_q, kAT2_q, putB_nil, putB_val, tPut_nil, tPut_nd, ↓nTup_q, kNT_q, kNT2_q, baNil_q, ↓baVal_q, kBV_q, kBV2_q, ↓baRef_q, kBR_q, kBR2_q, ↓mBody_q, kBody_q, kBody2_nx, kBody2_rt, kBody2_ex, allS_nil, allS_some, imO_int, imO_str, imO_bl, imO_non, imO_tup, im_int, im_str, im_bl, im_non, im_tup, im_fz, im_lst, im_obj, imAll_nil, imAll_cons, mu_lst, mu_obj, gd_pos, gd_tr, mulT_i, modT_i, fdivT_i, powT_i, ltT_i, gtT_i, geT_i, minT_i, ixT_lst, ixT_fz, ixT_tup, lenT_lst, lenT_fz, lenT_tup, isN_non, isN_int, isN_nd, isN_str, ↓sMut_q, kMu_ok, kM0_q, kM1_q, kM2_q, kM3_q, setM_q, kSM_q, ob_some, sl, atI, ixN, ↓pFld_q, kF1_q, kF2_q, kF3_q, kF4_q, ↓eMeth_q, kMe_q, kMe2_q, ↓eMethP_q, kMP_q, kMP1_q, kMP2_q, kMP3_q, putB_q, kPB_q, ↓eMake_q, kMk_q, kMk2_q, kMk3_q, ↓eMutV_q, kLV0_q, kLV_q, kLV1_q, kLV2_q, kLV3_q, isLst_q, ↓eMutP_q, kLP_q, kLP0_q, kLP1_q, kLP2_q, kLP3_q, kLP4_q, appM_q, popM_q, kPop_q, putFM_q, kPF_s, kPF_n, ↓sForR_q, kFR_q, ↓sForE_q, kFE_q, kFE2_q, seqO_lst, seqO_fz, seqO_tup, ↓sForP_q, kFP_q, kFP1_q, kFP2_q, kFP3_q, kFP4_q, eqT_ii, neT_ii, inT_ints, notInT_ints, kL1_q, kL2_nx, kL2_ct, kL2_bk, kL2_rt, runL_nil, runL_cons, tgN_q, lcFrom_q, kLc_q, lcEnd_q, kLcE_q, wipeS_nil, wipeS_cons, restS_nil, restS_cons, kRs_n, kRs_s, listT_lst, listT_fz, listT_tup, isi_ii, isi_ib, isi_ll, eqT_pl, neT_pl, kSet_ex, kRet_ex, kExpr_ex, sRaise_q, ↓sTryK_q, kTry_ex, kTry_nx, kTry_rt, kTry2_q, setAll_n, setAll_c, augM_ints, ↓nLst_q, kNL_q, kNL2_q, ↓eLcR_q, kLR_q, mulT_l, lrgT_q, eqT_ln, neT_ln, rep_ints, get_int, set_int, app_int, teq_int, teq_str, teq_non, teq_tnil, teq_tcons, teq_li, ixA_lst, ixA_fz, ixA_tup, ixA_str, ixB_lst, ixB_fz, ixB_tup, ixB_dK, ixB_dT, kDo_s, dix_Ki, dix_Ks, dix_T, kDt_q, keysT_n, keysT_i, keysT_s, kKc_q, isDi_K, isDi_T, isDi_l, ixB_fK, dix_Fi, dix_Fs, mu_fK, im_fK, im_any, ↓sSetA_q, kSA_ok, kSA_ex, kSA0_q, kSA1_q, kSA2_q, kSA3_q, kSA4_q, setA_l, setA_Ki, setA_Ks, setA_T, kSt_q, mu_dK, mu_dT, im_dK, im_dT, inA_l, inA_t, inA_f, notInA_l, notInA_t, notInA_f, negT_i, ↓bNot_q, kBNot_q, ↓bAnd_q, kBAnd_q, bYes_q, lcN_q, kNlc_q, ↓bLc_q, kBL_q, kBLc_q, addA_i, addA_s, addA_ll, addA_fl, addA_tt, isB_bl, isB_non, isB_int, isB_str, isB_nd, isN_bl, addA_lf, beq_tt, beq_tf, beq_ft, beq_ff, Option.getD_none, eYes_q, tgT_tup, tupleT_lst, tupleT_tup, ↓ixB_fl, ↓setA_fl, ↓atI_fl, fl_get, fl_set, fl_getD, kAnd_ex, kOr_ex, kNot_ex, kIf_ex, kOpB_ex, kA1_ex, kD1_ex, up_id, ↓bLkD_q, kLD0_q, kLD1_q, kLD2_q, kLD3_q, kLD4_q, neL_l, neL_f, ↓sForL_q, ↓sForJ_q, ↓eLkL_q, kLL0_q, kLL1_q, kLL3_q, ↓bLst3_q, kL3a_q, kL3b_q, kL3c_q, List.length_set, beq_self_eq_true, getD_set, and_true, true_and, or_true, true_or, and_self, List.map_cons, List.map_nil, List.eraseIdx_cons_zero, List.length_cons, List.length_nil, List.length_map, List.replicate, List.append_nil, List.cons_append, List.nil_append, List.getElem?_cons_zero, List.getElem?_cons_succ, List.set_cons_zero, List.set_cons_succ, List.getD_cons_zero, List.getD_cons_succ, Option.getD_some, List.take, Nat.reduceSub, Nat.reduceAdd, Nat.reduceEqDiff, if_true, if_false, reduceIte, if_pos, if_neg, Int.toNat_zero, Int.toNat_one, Int.reduceLT, Int.reduceLE, Int.reduceToNat, List.tail_cons, Nat.zero_add, Nat.reduceLeDiff, Nat.reduceLT, Bool.and_true, Bool.true_and, Bool.and_self, Bool.not_true, Bool.not_false, decide_eq_true_eq, decide_true, decide_false, Bool.false_eq_true, c0_coming, i0_coming, c0_pending, i0_pending, j0_coming, j0_pending, io0_begin, io0_holds, io0_answered, io0_waiting, io0_is_told, kn9, im_ints, nc2, eqT_bb, neT_bb, rg_len, take_eq, ↓ix2, ne_ii, insM_q, ↓fz_len, isi_bb, fz_im, ints_ins, ↓tup_f, ↓tup_t, ↓tup_l, tu_im, tu_imO, de_im, des_im])
theorem whole_eq (n : Int) : m_law_whole [.int n] = some (.ok (.bl true), [.int n]) := by
  unfold m_law_whole b_law_whole
  walk_at "vt"
theorem truth_eq (b c : Bool) : m_law_truth [.bl b, .bl c] = some (.ok (.bl (b == c)), [.bl b, .bl c]) := by
  unfold m_law_truth b_law_truth
  walk_at "vt"
theorem begin_f (d : Dd) (s : Int) (ps rs hs : List Int) (hl : d.pend.length < 100000) : m_Deeds_begin [ddT d, .int s, fzT ps, fzT rs, fzT hs] = some (.ok (.int d.coming), [ddT (d.begin s ps rs hs), .int s, fzT ps, fzT rs, fzT hs]) := by
  obtain ⟨c, l⟩ := d
  unfold m_Deeds_begin b_Deeds_begin ddT Dd.begin
  simp only at hl ⊢
  by_cases e : hs = []
  · subst e
    walk_at "vt"
  · have e2 : (0 : Int) < (hs.length : Int) := by
      cases hs with
      | nil => exact absurd rfl e
      | cons a b => rw [List.length_cons]; omega
    rw [if_neg e]
    walk_at "vt"
    unfold ddX
    rw [List.map_append]
    try rfl
abbrev B_hn : SF := (sIf (eOpB eqT (eCall m_law_take 2 (aRef 0 (aVal (eOfN (nC (.int 4))) aNil))) (nC (.int 0))) (sExpr (eMutV insM 5 (aVal (eCall m_law_take 2 (aRef 0 (aVal (eOfN (bOp addA (bUn lenT (bOfP (pVar 5))) (nC (.int 1)))) aNil))) (aVal (eVar 6) aNil)))) sNil)
/-- the hands: unlike, below 8 -/
theorem hn_turn (a s : Int) (l : List Int) (h : Int) (hl : l.length ≤ 8) (o1 o2 o3 o4 o7 o8 o9 o10 o11 o12 o13 o14 : Option T) (o6 : Option T) :
    ∃ (a' s' : Int) (l' : List Int), B_hn [some (bagT a s), o1, o2, o3, o4, some (liT l), some (.int h), o7, o8, o9, o10, o11, o12, o13, o14] = some (.nx, [some (bagT a' s'), o1, o2, o3, o4, some (liT l'), some (.int h), o7, o8, o9, o10, o11, o12, o13, o14]) ∧ l'.length ≤ l.length + 1 ∧ ∀ x ∈ l', x ∈ l ∨ x = h := by
  have t1 := tkR_lt a s 4 (by decide)
  by_cases c : tkR a s 4 = 0
  · have t2 := tkR_lt (tkA a 4) (tkS a s) ((l.length : Int) + 1) (by omega)
    refine ⟨tkA (tkA a 4) ((l.length : Int) + 1), tkS (tkA a 4) (tkS a s), l.take (tkR (tkA a 4) (tkS a s) ((l.length : Int) + 1)).toNat ++ [h] ++ l.drop (tkR (tkA a 4) (tkS a s) ((l.length : Int) + 1)).toNat, ?_, ?_, ?_⟩
    rotate_left
    · simp only [List.length_append, List.length_take, List.length_drop, List.length_singleton]; omega
    · intro x hx
      rcases List.mem_append.mp hx with hx | hx
      · rcases List.mem_append.mp hx with hx | hx
        · exact .inl (List.mem_of_mem_take hx)
        · exact .inr (List.mem_singleton.mp hx)
      · exact .inl (List.mem_of_mem_drop hx)
    rotate_right
    walk_at "vt"
  · refine ⟨tkA a 4, tkS a s, l, ?_, by omega, fun x hx => .inl hx⟩
    walk_at "vt"
end K05
namespace K05
open PySem L2 VT
abbrev C_pg : EF := (eNot (eCall m_law_held 3 (aRef 3 (aRef 7 (aRef 13 aNil)))))
abbrev E_rm : EF := (eCall m_law_take 2 (aRef 0 (aVal (eOp ixA (eDisp .lst (aVal (eOfN (nC (.int 3))) (aVal (eOfN (nC (.int 60))) aNil))) (eCall m_law_take 2 (aRef 0 (aVal (eOfN (nC (.int 2))) aNil)))) aNil)))
theorem pq_im (l : List De) : (pqT l).im = false := rfl
local macro_rules | `(tactic| walk_at "vtd") => `(tactic| first | omega | assumption | (simp only [List.length_set]; omega) | (simp only [plT, plAll, plI, Bool.and_true, Bool.and_self, ofS_ok, dg_ok]; done))
local macro_rules | `(tactic| walk_at "vt") => `(tactic| simp (disch := walk_at "vtd") only [↓eOp_q, kOp1_ok, kOp2_ok, kEn_q, ↓eOpB_q, kOpB_ok, kB1_q, ↓eUn_q, kUn_ok, ↓eOfN_q, ↓bOp_q, kBop_q, ↓bUn_q, ↓bOfP_q, kPl_q, kAt_q, tAt_nil, tAt_nd, nC_q, ↓nOfB_q, pVar_q, kPV_q, eVar_q, kVar_q, ↓sSeq_q, kSeq_nx, kSeq_rt, kSeq_ex, kSeq_bk, kSeq_ct, ↓sSet_q, kSet_ok, ↓sRet_q, kRet_ok, ↓sExpr_q, kExpr_ok, sNil_q, ↓sIf_q, kIf_q, ↓eNot_q, kNot_q, ↓eAnd_q, kAnd_q, ↓eOr_q, kOr_q, aNil_q, ↓aVal_q, kA1_ok, kA2_ok, ↓aRef_q, kAr_q, kAr2_ok, argOf_q, kArg_q, ↓eDisp_q, kD1_ok, kD2_q, valsOf_nil, valsOf_val, kVl_q, ↓eCall_q, kCall_ok, callR_q, kC1_q, kC2_q, argT_nil, argT_val, argT_pth, kAT1_q, kAT2_q, putB_nil, putB_val, tPut_nil, tPut_nd, ↓nTup_q, kNT_q, kNT2_q, baNil_q, ↓baVal_q, kBV_q, kBV2_q, ↓baRef_q, kBR_q, kBR2_q, ↓mBody_q, kBody_q, kBody2_nx, kBody2_rt, kBody2_ex, allS_nil, allS_some, imO_int, imO_str, imO_bl, imO_non, imO_tup, im_int, im_str, im_bl, im_non, im_tup, im_fz, im_lst, im_obj, imAll_nil, imAll_cons, mu_lst, mu_obj, gd_pos, gd_tr, mulT_i, modT_i, fdivT_i, powT_i, ltT_i, gtT_i, geT_i, minT_i, ixT_lst, ixT_fz, ixT_tup, lenT_lst, lenT_fz, lenT_tup, isN_non, isN_int, isN_nd, isN_str, ↓sMut_q, kMu_ok, kM0_q, kM1_q, kM2_q, kM3_q, setM_q, kSM_q, ob_some, sl, atI, ixN, ↓pFld_q, kF1_q, kF2_q, kF3_q, kF4_q, ↓eMeth_q, kMe_q, kMe2_q, ↓eMethP_q, kMP_q, kMP1_q, kMP2_q, kMP3_q, putB_q, kPB_q, ↓eMake_q, kMk_q, kMk2_q, kMk3_q, ↓eMutV_q, kLV0_q, kLV_q, kLV1_q, kLV2_q, kLV3_q, isLst_q, ↓eMutP_q, kLP_q, kLP0_q, kLP1_q, kLP2_q, kLP3_q, kLP4_q, appM_q, popM_q, kPop_q, putFM_q, kPF_s, kPF_n, ↓sForR_q, kFR_q, ↓sForE_q, kFE_q, kFE2_q, seqO_lst, seqO_fz, seqO_tup, ↓sForP_q, kFP_q, kFP1_q, kFP2_q, kFP3_q, kFP4_q, eqT_ii, neT_ii, inT_ints, notInT_ints, kL1_q, kL2_nx, kL2_ct, kL2_bk, kL2_rt, runL_nil, runL_cons, tgN_q, lcFrom_q, kLc_q, lcEnd_q, kLcE_q, wipeS_nil, wipeS_cons, restS_nil, restS_cons, kRs_n, kRs_s, listT_lst, listT_fz, listT_tup, isi_ii, isi_ib, isi_ll, eqT_pl, neT_pl, kSet_ex, kRet_ex, kExpr_ex, sRaise_q, ↓sTryK_q, kTry_ex, kTry_nx, kTry_rt, kTry2_q, setAll_n, setAll_c, augM_ints, ↓nLst_q, kNL_q, kNL2_q, ↓eLcR_q, kLR_q, mulT_l, lrgT_q, eqT_ln, neT_ln, rep_ints, get_int, set_int, app_int, teq_int, teq_str, teq_non, teq_tnil, teq_tcons, teq_li, ixA_lst, ixA_fz, ixA_tup, ixA_str, ixB_lst, ixB_fz, ixB_tup, ixB_dK, ixB_dT, kDo_s, dix_Ki, dix_Ks, dix_T, kDt_q, keysT_n, keysT_i, keysT_s, kKc_q, isDi_K, isDi_T, isDi_l, ixB_fK, dix_Fi, dix_Fs, mu_fK, im_fK, im_any, ↓sSetA_q, kSA_ok, kSA_ex, kSA0_q, kSA1_q, kSA2_q, kSA3_q, kSA4_q, setA_l, setA_Ki, setA_Ks, setA_T, kSt_q, mu_dK, mu_dT, im_dK, im_dT, inA_l, inA_t, inA_f, notInA_l, notInA_t, notInA_f, negT_i, ↓bNot_q, kBNot_q, ↓bAnd_q, kBAnd_q, bYes_q, lcN_q, kNlc_q, ↓bLc_q, kBL_q, kBLc_q, addA_i, addA_s, addA_ll, addA_fl, addA_tt, isB_bl, isB_non, isB_int, isB_str, isB_nd, isN_bl, addA_lf, beq_tt, beq_tf, beq_ft, beq_ff, Option.getD_none, eYes_q, tgT_tup, tupleT_lst, tupleT_tup, ↓ixB_fl, ↓setA_fl, ↓atI_fl, fl_get, fl_set, fl_getD, kAnd_ex, kOr_ex, kNot_ex, kIf_ex, kOpB_ex, kA1_ex, kD1_ex, up_id, ↓bLkD_q, kLD0_q, kLD1_q, kLD2_q, kLD3_q, kLD4_q, neL_l, neL_f, ↓sForL_q, ↓sForJ_q, ↓eLkL_q, kLL0_q, kLL1_q, kLL3_q, ↓bLst3_q, kL3a_q, kL3b_q, kL3c_q, List.length_set, beq_self_eq_true, getD_set, and_true, true_and, or_true, true_or, and_self, List.map_cons, List.map_nil, List.eraseIdx_cons_zero, List.length_cons, List.length_nil, List.length_map, List.replicate, List.append_nil, List.cons_append, List.nil_append, List.getElem?_cons_zero, List.getElem?_cons_succ, List.set_cons_zero, List.set_cons_succ, List.getD_cons_zero, List.getD_cons_succ, Option.getD_some, List.take, Nat.reduceSub, Nat.reduceAdd, Nat.reduceEqDiff, if_true, if_false, reduceIte, if_pos, if_neg, Int.toNat_zero, Int.toNat_one, Int.reduceLT, Int.reduceLE, Int.reduceToNat, List.tail_cons, Nat.zero_add, Nat.reduceLeDiff, Nat.reduceLT, Bool.and_true, Bool.true_and, Bool.and_self, Bool.not_true, Bool.not_false, decide_eq_true_eq, decide_true, decide_false, Bool.false_eq_true, c0_coming, i0_coming, c0_pending, i0_pending, j0_coming, j0_pending, io0_begin, io0_holds, io0_answered, io0_waiting, io0_is_told, kn9, im_ints, nc2, eqT_bb, neT_bb, rg_len, take_eq, ↓ix2, ne_ii, held_eq, ↓pq_im])
theorem pgc_go (B D C Wd : T) (l : List De) (hl : l.length < 100000) (o5 : Option T) (o6 : Option T) (sp : Int) (o8 o9 o10 o11 o12 o14 : Option T) : ∀ (ps acc : List Int),
    runC 13 [13] C_pg (eVar 13) (ps.map .int) [some B, some D, some C, some (pqT l), some Wd, o5, o6, some (.int sp), o8, o9, o10, o11, o12, none, o14] (acc.map .int) = some (((acc ++ ps.filter fun p => !heldL sp p l).map .int), [some B, some D, some C, some (pqT l), some Wd, o5, o6, some (.int sp), o8, o9, o10, o11, o12, none, o14])
  | [], acc => by rw [List.filter_nil, List.append_nil]; rfl
  | p :: ps, acc => by
    rw [List.map_cons, runC, List.filter_cons]
    by_cases c : heldL sp p l = true
    · have ih := pgc_go B D C Wd l hl o5 o6 sp o8 o9 o10 o11 o12 o14 ps acc
      have e1 : C_pg [some B, some D, some C, some (pqT l), some Wd, o5, o6, some (.int sp), o8, o9, o10, o11, o12, some (.int p), o14] = some (.ok (.bl false), [some B, some D, some C, some (pqT l), some Wd, o5, o6, some (.int sp), o8, o9, o10, o11, o12, some (.int p), o14]) := by
        walk_at "vt"
        rw [c]; rfl
      rw [c]
      show (C_pg [some B, some D, some C, some (pqT l), some Wd, o5, o6, some (.int sp), o8, o9, o10, o11, o12, some (.int p), o14]).bind _ = _
      rw [e1]
      exact ih
    · have c := (Bool.not_eq_true _).mp c
      have ih := pgc_go B D C Wd l hl o5 o6 sp o8 o9 o10 o11 o12 o14 ps (acc ++ [p])
      have e1 : C_pg [some B, some D, some C, some (pqT l), some Wd, o5, o6, some (.int sp), o8, o9, o10, o11, o12, some (.int p), o14] = some (.ok (.bl true), [some B, some D, some C, some (pqT l), some Wd, o5, o6, some (.int sp), o8, o9, o10, o11, o12, some (.int p), o14]) := by
        walk_at "vt"
        rw [c]; rfl
      rw [c]
      show (C_pg [some B, some D, some C, some (pqT l), some Wd, o5, o6, some (.int sp), o8, o9, o10, o11, o12, some (.int p), o14]).bind _ = _
      rw [e1]
      rw [List.map_append, List.append_assoc] at ih
      exact ih
theorem rm_el (a s : Int) (o1 o2 o3 o4 o5 o6 o7 o8 o9 o10 o11 o12 o13 : Option T) (t : T) : ∃ (a' s' r : Int), E_rm [some (bagT a s), o1, o2, o3, o4, o5, o6, o7, o8, o9, o10, o11, o12, o13, some t] = some (.ok (.int r), [some (bagT a' s'), o1, o2, o3, o4, o5, o6, o7, o8, o9, o10, o11, o12, o13, some t]) := by
  have t1 := two_le 3 60 (tkR a s 2) 3 60 (by decide) (by decide) (by decide) (by decide)
  refine ⟨tkA (tkA a 2) (two 3 60 (tkR a s 2)), tkS (tkA a 2) (tkS a s), tkR (tkA a 2) (tkS a s) (two 3 60 (tkR a s 2)), ?_⟩
  walk_at "vt"
theorem rmc_go (o1 o2 o3 o4 o5 o6 o7 o8 o9 o10 o11 o12 o13 : Option T) : ∀ (ts : List T) (h : T.imAll ts = true) (a s : Int) (acc : List Int), ∃ (a' s' : Int) (rs : List Int),
    runC 14 [14] eYes E_rm ts [some (bagT a s), o1, o2, o3, o4, o5, o6, o7, o8, o9, o10, o11, o12, o13, none] (acc.map .int) = some ((acc ++ rs).map .int, [some (bagT a' s'), o1, o2, o3, o4, o5, o6, o7, o8, o9, o10, o11, o12, o13, none]) ∧ rs.length = ts.length
  | [], _, a, s, acc => ⟨a, s, [], by rw [List.append_nil]; rfl, rfl⟩
  | t :: ts, h, a, s, acc => by
    rw [imAll_cons, Bool.and_eq_true] at h
    obtain ⟨a1, s1, r, e1⟩ := rm_el a s o1 o2 o3 o4 o5 o6 o7 o8 o9 o10 o11 o12 o13 t
    obtain ⟨a', s', rs, e2, hl⟩ := rmc_go o1 o2 o3 o4 o5 o6 o7 o8 o9 o10 o11 o12 o13 ts h.2 a1 s1 (acc ++ [r])
    refine ⟨a', s', r :: rs, ?_, by rw [List.length_cons, hl, List.length_cons]⟩
    have e0 : tgN 14 t [some (bagT a s), o1, o2, o3, o4, o5, o6, o7, o8, o9, o10, o11, o12, o13, none] = some [some (bagT a s), o1, o2, o3, o4, o5, o6, o7, o8, o9, o10, o11, o12, o13, some t] := if_pos h.1
    rw [runC, e0, Option.bind_some]
    show (E_rm [some (bagT a s), o1, o2, o3, o4, o5, o6, o7, o8, o9, o10, o11, o12, o13, some t]).bind _ = _
    rw [e1]
    rw [List.map_append, List.append_assoc] at e2
    exact e2
theorem hn_loop (D C P Wd : T) (o7 o8 o9 o10 o11 o12 o13 o14 : Option T) (a s : Int) : ∃ (a' s' : Int) (hs : List Int) (j : Option T), runL (tgN 6) B_hn (rgT 8) [some (bagT a s), some D, some C, some P, some Wd, some (liT []), none, o7, o8, o9, o10, o11, o12, o13, o14] = some (.nx, [some (bagT a' s'), some D, some C, some P, some Wd, some (liT hs), j, o7, o8, o9, o10, o11, o12, o13, o14]) ∧ hs.length ≤ 8 ∧ (j = none ∨ ∃ i : Int, j = some (.int i)) := by
  obtain ⟨S', e, ⟨a', s', hs, j, hS, n1, n2⟩⟩ := runL_inv (tf := tgN 6) (body := B_hn) (I := fun k S => ∃ (a s : Int) (hs : List Int) (j : Option T), S = [some (bagT a s), some D, some C, some P, some Wd, some (liT hs), j, o7, o8, o9, o10, o11, o12, o13, o14] ∧ k + hs.length ≤ 8 ∧ (j = none ∨ ∃ i : Int, j = some (.int i))) (rgT 8) [some (bagT a s), some D, some C, some P, some Wd, some (liT []), none, o7, o8, o9, o10, o11, o12, o13, o14]
    ⟨a, s, [], none, rfl, by decide, .inl rfl⟩ (by
      rintro k t S ht ⟨a, s, hs, j, rfl, q1, q2⟩
      rw [rgT_ints] at ht
      obtain ⟨i, _, rfl⟩ := List.mem_map.mp ht
      obtain ⟨a', s', l', e1, h1, _⟩ := hn_turn a s hs i (by omega) (some D) (some C) (some P) (some Wd) o7 o8 o9 o10 o11 o12 o13 o14 j
      exact ⟨_, _, rfl, e1, a', s', l', _, rfl, by omega, .inr ⟨i, rfl⟩⟩)
  exact ⟨a', s', hs, j, by rw [e, hS], by omega, n2⟩
end K05
namespace K05
open PySem L2 VT
theorem nk_ints : ∀ l : List Int, T.nkAll (l.map .int) = true
  | [] => rfl
  | _ :: l => nk_ints l
theorem li_nk (l : List Int) : (liT l).nk = true := nk_ints l
theorem tu_nk (l : List Int) : (tuT l).nk = true := nk_ints l
theorem nkm {α : Type} {g : α → T} (h : ∀ a, (g a).nk = true) : ∀ l : List α, T.nkAll (l.map g) = true
  | [] => rfl
  | a :: l => by
    show ((g a).nk && T.nkAll (l.map g)) = true
    rw [h a, nkm h l]; rfl
theorem de_nk (d : De) : (deT d).nk = true := by
  show ((T.int d.n).nk && ((T.int d.s).nk && ((tuT d.ps).nk && ((tuT d.rs).nk && ((tuT d.hs).nk && true))))) = true
  rw [tu_nk, tu_nk, tu_nk]; rfl
theorem lq_nk (d : De) : (lqT d).nk = true := by
  show ((T.int d.n).nk && ((T.int d.s).nk && ((liT d.ps).nk && ((liT d.rs).nk && ((liT d.hs).nk && true))))) = true
  rw [li_nk, li_nk, li_nk]; rfl
theorem dd_nk (d : Dd) : (ddT d).nk = true := by
  show ((T.int d.coming).nk && (T.nkAll (d.pend.map deT) && true)) = true
  rw [nkm de_nk]; rfl
theorem pq_nk (l : List De) : (pqT l).nk = true := nkm lq_nk l
abbrev okO (o : Option T) : Prop := o = none ∨ ∃ i : Int, o = some (.int i)
theorem nk_o {o : Option T} {S : TSt} (h : okO o) : nkL (o :: S) = nkL S := by
  rcases h with rfl | ⟨i, rfl⟩
  · rfl
  · show ((T.int i).nk && nkL S) = nkL S
    rfl
theorem nk_n {S : TSt} : nkL (none :: S) = nkL S := rfl
theorem nk_s {t : T} {S : TSt} : nkL (some t :: S) = (t.nk && nkL S) := rfl
theorem nk_0 : nkL [] = true := rfl
abbrev hdT (ps rs hs : List Int) : T := .nd .lst [liT ps, liT rs, liT hs]
theorem hd_lk {ps rs hs : List Int} : lockD (.nd .lst [liT ps, liT rs, liT hs]) = some (.nd .fz [fzT ps, fzT rs, fzT hs]) := by
  refine lockD_lst ?_
  simp only [lockDs, li_lk, Option.bind_some]
theorem hd_ne {ps rs hs : List Int} : neT (.nd .lst [liT ps, liT rs, liT hs]) (.nd .lst [liT ps, liT rs, liT hs]) = some (.bl false) := by
  refine neT_self ?_
  show (plT 7 (liT ps) && (plT 7 (liT rs) && (plT 7 (liT hs) && true))) = true
  rw [plI, plI, plI]; rfl
theorem ixB_hd0 {a b c : T} : ixB (.nd .fz [a, b, c]) (.int 0) = some a := rfl
theorem ixB_hd1 {a b c : T} : ixB (.nd .fz [a, b, c]) (.int 1) = some b := rfl
theorem ixB_hd2 {a b c : T} : ixB (.nd .fz [a, b, c]) (.int 2) = some c := rfl
theorem nk_bag {a s : Int} : T.nkAll [.int a, .int s] = true := rfl
theorem fzT_imO (l : List Int) : imO (fzT l) = some (fzT l) := if_pos (fz_im l)
def kLE0 (j : Nat) (vs : List Nat) (cond elt : EF) (S1 : TSt) (kt : Kd × List T) : Option (Rs T × TSt) := lcEnd vs S1 (eLcFrom j vs cond elt kt.2 S1)
def kLE (j : Nat) (vs : List Nat) (cond elt : EF) : Rs T × TSt → Option (Rs T × TSt)
  | (.ex c, S1) => some (.ex c, S1)
  | (.ok t, S1) => (seqO t).bind (kLE0 j vs cond elt S1)
theorem eLcE_q0 {j : Nat} {vs : List Nat} {f cond elt : EF} {S : TSt} : eLcE j vs f cond elt S = (f S).bind (kLE j vs cond elt) := by
  unfold eLcE
  cases f S with
  | none => rfl
  | some r => obtain ⟨r, S1⟩ := r; cases r <;> rfl
theorem kLE_q {j : Nat} {vs : List Nat} {cond elt : EF} {S : TSt} {t : T} : kLE j vs cond elt (.ok t, S) = (seqO t).bind (kLE0 j vs cond elt S) := rfl
theorem kLE0_q {j : Nat} {vs : List Nat} {cond elt : EF} {S : TSt} {k : Kd} {ts : List T} : kLE0 j vs cond elt S (k, ts) = lcEnd vs S (eLcFrom j vs cond elt ts S) := rfl
local macro_rules | `(tactic| walk_at "vtd") => `(tactic| first | omega | assumption | (simp only [List.length_set]; omega) | (simp only [plT, plAll, plI, Bool.and_true, Bool.and_self, ofS_ok, dg_ok]; done))
local macro_rules | `(tactic| walk_at "vt") => `(tactic| simp (disch := walk_at "vtd") only [↓eOp_q, kOp1_ok, kOp2_ok, kEn_q, ↓eOpB_q, kOpB_ok, kB1_q, ↓eUn_q, kUn_ok, ↓eOfN_q, ↓bOp_q, kBop_q, ↓bUn_q, ↓bOfP_q, kPl_q, kAt_q, tAt_nil, tAt_nd, nC_q, ↓nOfB_q, pVar_q, kPV_q, eVar_q, kVar_q, ↓sSeq_q, kSeq_nx, kSeq_rt, kSeq_ex, kSeq_bk, kSeq_ct, ↓sSet_q, kSet_ok, ↓sRet_q, kRet_ok, ↓sExpr_q, kExpr_ok, sNil_q, ↓sIf_q, kIf_q, ↓eNot_q, kNot_q, ↓eAnd_q, kAnd_q, ↓eOr_q, kOr_q, aNil_q, ↓aVal_q, kA1_ok, kA2_ok, ↓aRef_q, kAr_q, kAr2_ok, argOf_q, kArg_q, ↓eDisp_q, kD1_ok, kD2_q, valsOf_nil, valsOf_val, kVl_q, ↓eCall_q, kCall_ok, callR_q, kC1_q, kC2_q, argT_nil, argT_val, argT_pth, kAT1_q, kAT2_q, putB_nil, putB_val, tPut_nil, tPut_nd, ↓nTup_q, kNT_q, kNT2_q, baNil_q, ↓baVal_q, kBV_q, kBV2_q, ↓baRef_q, kBR_q, kBR2_q, ↓mBody_q, kBody_q, kBody2_nx, kBody2_rt, kBody2_ex, allS_nil, allS_some, imO_int, imO_str, imO_bl, imO_non, imO_tup, im_int, im_str, im_bl, im_non, im_tup, im_fz, im_lst, im_obj, imAll_nil, imAll_cons, mu_lst, mu_obj, gd_pos, gd_tr, mulT_i, modT_i, fdivT_i, powT_i, ltT_i, gtT_i, geT_i, minT_i, ixT_lst, ixT_fz, ixT_tup, lenT_lst, lenT_fz, lenT_tup, isN_non, isN_int, isN_nd, isN_str, ↓sMut_q, kMu_ok, kM0_q, kM1_q, kM2_q, kM3_q, setM_q, kSM_q, ob_some, sl, atI, ixN, ↓pFld_q, kF1_q, kF2_q, kF3_q, kF4_q, ↓eMeth_q, kMe_q, kMe2_q, ↓eMethP_q, kMP_q, kMP1_q, kMP2_q, kMP3_q, putB_q, kPB_q, ↓eMake_q, kMk_q, kMk2_q, kMk3_q, ↓eMutV_q, kLV0_q, kLV_q, kLV1_q, kLV2_q, kLV3_q, isLst_q, ↓eMutP_q, kLP_q, kLP0_q, kLP1_q, kLP2_q, kLP3_q, kLP4_q, appM_q, popM_q, kPop_q, putFM_q, kPF_s, kPF_n, ↓sForR_q, kFR_q, ↓sForE_q, kFE_q, kFE2_q, seqO_lst, seqO_fz, seqO_tup, ↓sForP_q, kFP_q, kFP1_q, kFP2_q, kFP3_q, kFP4_q, eqT_ii, neT_ii, inT_ints, notInT_ints, kL1_q, kL2_nx, kL2_ct, kL2_bk, kL2_rt, runL_nil, runL_cons, tgN_q, lcFrom_q, kLc_q, lcEnd_q, kLcE_q, wipeS_nil, wipeS_cons, restS_nil, restS_cons, kRs_n, kRs_s, listT_lst, listT_fz, listT_tup, isi_ii, isi_ib, isi_ll, eqT_pl, neT_pl, kSet_ex, kRet_ex, kExpr_ex, sRaise_q, ↓sTryK_q, kTry_ex, kTry_nx, kTry_rt, kTry2_q, setAll_n, setAll_c, augM_ints, ↓nLst_q, kNL_q, kNL2_q, ↓eLcR_q, kLR_q, mulT_l, lrgT_q, eqT_ln, neT_ln, rep_ints, get_int, set_int, app_int, teq_int, teq_str, teq_non, teq_tnil, teq_tcons, teq_li, ixA_lst, ixA_fz, ixA_tup, ixA_str, ixB_lst, ixB_fz, ixB_tup, ixB_dK, ixB_dT, kDo_s, dix_Ki, dix_Ks, dix_T, kDt_q, keysT_n, keysT_i, keysT_s, kKc_q, isDi_K, isDi_T, isDi_l, ixB_fK, dix_Fi, dix_Fs, mu_fK, im_fK, im_any, ↓sSetA_q, kSA_ok, kSA_ex, kSA0_q, kSA1_q, kSA2_q, kSA3_q, kSA4_q, setA_l, setA_Ki, setA_Ks, setA_T, kSt_q, mu_dK, mu_dT, im_dK, im_dT, inA_l, inA_t, inA_f, notInA_l, notInA_t, notInA_f, negT_i, ↓bNot_q, kBNot_q, ↓bAnd_q, kBAnd_q, bYes_q, lcN_q, kNlc_q, ↓bLc_q, kBL_q, kBLc_q, addA_i, addA_s, addA_ll, addA_fl, addA_tt, isB_bl, isB_non, isB_int, isB_str, isB_nd, isN_bl, addA_lf, beq_tt, beq_tf, beq_ft, beq_ff, Option.getD_none, eYes_q, tgT_tup, tupleT_lst, tupleT_tup, ↓ixB_fl, ↓setA_fl, ↓atI_fl, fl_get, fl_set, fl_getD, kAnd_ex, kOr_ex, kNot_ex, kIf_ex, kOpB_ex, kA1_ex, kD1_ex, up_id, ↓bLkD_q, kLD0_q, kLD1_q, kLD2_q, kLD3_q, kLD4_q, neL_l, neL_f, ↓sForL_q, ↓sForJ_q, ↓eLkL_q, kLL0_q, kLL1_q, kLL3_q, ↓bLst3_q, kL3a_q, kL3b_q, kL3c_q, List.length_set, beq_self_eq_true, getD_set, and_true, true_and, or_true, true_or, and_self, List.map_cons, List.map_nil, List.eraseIdx_cons_zero, List.length_cons, List.length_nil, List.length_map, List.replicate, List.append_nil, List.cons_append, List.nil_append, List.getElem?_cons_zero, List.getElem?_cons_succ, List.set_cons_zero, List.set_cons_succ, List.getD_cons_zero, List.getD_cons_succ, Option.getD_some, List.take, Nat.reduceSub, Nat.reduceAdd, Nat.reduceEqDiff, if_true, if_false, reduceIte, if_pos, if_neg, Int.toNat_zero, Int.toNat_one, Int.reduceLT, Int.reduceLE, Int.reduceToNat, List.tail_cons, Nat.zero_add, Nat.reduceLeDiff, Nat.reduceLT, Bool.and_true, Bool.true_and, Bool.and_self, Bool.not_true, Bool.not_false, decide_eq_true_eq, decide_true, decide_false, Bool.false_eq_true, c0_coming, i0_coming, c0_pending, i0_pending, j0_coming, j0_pending, io0_begin, io0_holds, io0_answered, io0_waiting, io0_is_told, kn9, im_ints, nc2, eqT_bb, neT_bb, rg_len, take_eq, ↓ix2, ne_ii, held_eq, ↓pq_im, ↓nk_bag, nk_o, nk_n, nk_s, nk_0, li_nk, dd_nk, pq_nk, T.nk, nk_ints, ↓hd_lk, ↓hd_ne, ↓ixB_hd0, ↓ixB_hd1, ↓ixB_hd2, ↓fzT_imO, fz_im, dd_im, io0b, begin_f, whole_eq, wipeS_cons, wipeS_nil, ↓eLcE_q0, kLE_q, kLE0_q])
theorem bg_1 (D C P Wd : T) (a s : Int) : ∃ (a' s' : Int) (hs : List Int) (j : Option T), (sForR (tgN 6) (eOfN (nC (.int 8))) (sIf (eOpB eqT (eCall m_law_take 2 (aRef 0 (aVal (eOfN (nC (.int 4))) aNil))) (nC (.int 0))) (sExpr (eMutV insM 5 (aVal (eCall m_law_take 2 (aRef 0 (aVal (eOfN (bOp addA (bUn lenT (bOfP (pVar 5))) (nC (.int 1)))) aNil))) (aVal (eVar 6) aNil)))) sNil)) [some (bagT a s), some D, some C, some P, some Wd, some (.nd .lst []), none, none, none, none, none, none, none, none, none] = some (.nx, [some (bagT a' s'), some D, some C, some P, some Wd, some (liT hs), j, none, none, none, none, none, none, none, none]) ∧ hs.length ≤ 8 ∧ okO j := by
  obtain ⟨a', s', hs, j, e, h1, h2⟩ := hn_loop D C P Wd none none none none none none none none a s
  refine ⟨a', s', hs, j, ?_, h1, h2⟩
  walk_at "vt"
  exact e
theorem bg_3 (D C : T) (l : List De) (hl : l.length < 100000) (wide a s : Int) (h0 : 0 < wide) (h1 : wide ≤ 30) (o5 o6 : Option T) (sp : Int) : ∃ (a' s' : Int) (ps : List Int), (sSet 8 (eLcE 13 [13] (eCall m_law_pages 2 (aRef 0 (aRef 4 aNil))) (eNot (eCall m_law_held 3 (aRef 3 (aRef 7 (aRef 13 aNil))))) (eVar 13))) [some (bagT a s), some D, some C, some (pqT l), some (.int wide), o5, o6, some (.int sp), none, none, none, none, none, none, none] = some (.nx, [some (bagT a' s'), some D, some C, some (pqT l), some (.int wide), o5, o6, some (.int sp), some (liT ps), none, none, none, none, none, none]) ∧ ps.length ≤ 30 := by
  obtain ⟨a', s', ps, ep, _, hz, _⟩ := pages_ex a s wide h0 h1
  have e := pgc_go (bagT a' s') D C (.int wide) l hl o5 o6 sp none none none none none none ps []
  rw [List.map_nil, List.nil_append] at e
  refine ⟨a', s', ps.filter fun p => !heldL sp p l, ?_, Nat.le_trans (List.length_filter_le _ _) hz⟩
  have hz2 : ps.length < 100000 := by omega
  walk_at "vt"
  rw [ep]
  walk_at "vt"
  rw [e]
  walk_at "vt"
theorem bg_4 (D C P Wd o8 : T) (a s : Int) (o5 o6 : Option T) (o7 : Option T) : ∃ (a' s' : Int) (rs : List Int), (sSet 9 (eLcR 14 [14] (eCall m_law_take 2 (aRef 0 (aVal (eOfN (nC (.int 9))) aNil))) eYes (eCall m_law_take 2 (aRef 0 (aVal (eOp ixA (eDisp .lst (aVal (eOfN (nC (.int 3))) (aVal (eOfN (nC (.int 60))) aNil))) (eCall m_law_take 2 (aRef 0 (aVal (eOfN (nC (.int 2))) aNil)))) aNil))))) [some (bagT a s), some D, some C, some P, some Wd, o5, o6, o7, some o8, none, none, none, none, none, none] = some (.nx, [some (bagT a' s'), some D, some C, some P, some Wd, o5, o6, o7, some o8, some (liT rs), none, none, none, none, none]) ∧ rs.length ≤ 8 := by
  have t1 := tkR_lt a s 9 (by decide)
  obtain ⟨a', s', rs, e, h⟩ := rmc_go (some D) (some C) (some P) (some Wd) o5 o6 o7 (some o8) none none none none none (rgT (tkR a s 9)) (by rw [rgT_ints]; exact im_ints _) (tkA a 9) (tkS a s) []
  rw [List.map_nil, List.nil_append] at e
  refine ⟨a', s', rs, ?_, by rw [h, rg_len]; omega⟩
  walk_at "vt"
  rw [e]
  walk_at "vt"
theorem bg_6 (a s : Int) (d : Dd) (c wide sp : Int) (l : List De) (hd : d.pend.length < 100000) (ps rs hs : List Int) (j : Option T) (hj : okO j) : (sSet 11 (eLkL 10 (eMeth m_Deeds_begin 5 0 "begin" 1 (aRef 7 (aVal (eOfN (nOfB (bOp ixB (bOfP (pVar 10)) (nC (.int 0))))) (aVal (eOfN (nOfB (bOp ixB (bOfP (pVar 10)) (nC (.int 1))))) (aVal (eOfN (nOfB (bOp ixB (bOfP (pVar 10)) (nC (.int 2))))) aNil))))))) [some (bagT a s), some (ddT d), some (.int c), some (pqT l), some (.int wide), some (liT hs), j, some (.int sp), some (liT ps), some (liT rs), some (hdT ps rs hs), none, none, none, none] = some (.nx, [some (bagT a s), some (ddT (d.begin sp ps rs hs)), some (.int c), some (pqT l), some (.int wide), some (liT hs), j, some (.int sp), some (liT ps), some (liT rs), some (hdT ps rs hs), some (.int d.coming), none, none, none]) := by
  walk_at "vt"
end K05
namespace K05
open PySem L2 VT
theorem allS_map : ∀ l : List T, allSome (l.map some) = some l
  | [] => rfl
  | t :: l => by rw [List.map_cons, allS_some, allS_map l]; rfl
theorem seq_nx {s u : SF} {S S' : TSt} (h : s S = some (.nx, S')) : sSeq s u S = u S' := by rw [sSeq_q, h]; rfl
theorem body_rt {n N : Nat} {s : SF} {ts : List T} {S' : TSt} {t : T} {ts' : List T} (hl : ts.length = n) (h : s (ts.map some ++ List.replicate (N - n) none) = some (.rt t, S')) (h2 : S'.take n = ts'.map some) : mBody n N s ts = some (.ok t, ts') := by
  rw [mBody_q, if_pos hl, h]
  show (allSome (S'.take n)).bind _ = _
  rw [h2, allS_map]
  try rfl
theorem runI_step {v : Nat} {body : SF} {u u' : T} {us acc : List T} {S S2 : TSt} (h1 : body (S.set v (some u)) = some (.nx, S2)) (h2 : sl S2 v = some u') (h3 : v < S2.length) : VT.runI v body (u :: us) S acc = VT.runI v body us (S2.set v none) (acc ++ [u']) := by
  rw [VT.runI, h1, Option.bind_some]
  show (sl S2 v).bind _ = _
  rw [h2, Option.bind_some, if_pos h3]
local macro_rules | `(tactic| walk_at "vtd") => `(tactic| first | omega | assumption | (simp only [List.length_set]; omega) | (simp only [plT, plAll, plI, Bool.and_true, Bool.and_self, ofS_ok, dg_ok]; done))
local macro_rules | `(tactic| walk_at "vt") => `(tactic| simp (disch := walk_at "vtd") only [↓eOp_q, kOp1_ok, kOp2_ok, kEn_q, ↓eOpB_q, kOpB_ok, kB1_q, ↓eUn_q, kUn_ok, ↓eOfN_q, ↓bOp_q, kBop_q, ↓bUn_q, ↓bOfP_q, kPl_q, kAt_q, tAt_nil, tAt_nd, nC_q, ↓nOfB_q, pVar_q, kPV_q, eVar_q, kVar_q, ↓sSeq_q, kSeq_nx, kSeq_rt, kSeq_ex, kSeq_bk, kSeq_ct, ↓sSet_q, kSet_ok, ↓sRet_q, kRet_ok, ↓sExpr_q, kExpr_ok, sNil_q, ↓sIf_q, kIf_q, ↓eNot_q, kNot_q, ↓eAnd_q, kAnd_q, ↓eOr_q, kOr_q, aNil_q, ↓aVal_q, kA1_ok, kA2_ok, ↓aRef_q, kAr_q, kAr2_ok, argOf_q, kArg_q, ↓eDisp_q, kD1_ok, kD2_q, valsOf_nil, valsOf_val, kVl_q, ↓eCall_q, kCall_ok, callR_q, kC1_q, kC2_q, argT_nil, argT_val, argT_pth, kAT1_q, kAT2_q, putB_nil, putB_val, tPut_nil, tPut_nd, ↓nTup_q, kNT_q, kNT2_q, baNil_q, ↓baVal_q, kBV_q, kBV2_q, ↓baRef_q, kBR_q, kBR2_q, ↓mBody_q, kBody_q, kBody2_nx, kBody2_rt, kBody2_ex, allS_nil, allS_some, imO_int, imO_str, imO_bl, imO_non, imO_tup, im_int, im_str, im_bl, im_non, im_tup, im_fz, im_lst, im_obj, imAll_nil, imAll_cons, mu_lst, mu_obj, gd_pos, gd_tr, mulT_i, modT_i, fdivT_i, powT_i, ltT_i, gtT_i, geT_i, minT_i, ixT_lst, ixT_fz, ixT_tup, lenT_lst, lenT_fz, lenT_tup, isN_non, isN_int, isN_nd, isN_str, ↓sMut_q, kMu_ok, kM0_q, kM1_q, kM2_q, kM3_q, setM_q, kSM_q, ob_some, sl, atI, ixN, ↓pFld_q, kF1_q, kF2_q, kF3_q, kF4_q, ↓eMeth_q, kMe_q, kMe2_q, ↓eMethP_q, kMP_q, kMP1_q, kMP2_q, kMP3_q, putB_q, kPB_q, ↓eMake_q, kMk_q, kMk2_q, kMk3_q, ↓eMutV_q, kLV0_q, kLV_q, kLV1_q, kLV2_q, kLV3_q, isLst_q, ↓eMutP_q, kLP_q, kLP0_q, kLP1_q, kLP2_q, kLP3_q, kLP4_q, appM_q, popM_q, kPop_q, putFM_q, kPF_s, kPF_n, ↓sForR_q, kFR_q, ↓sForE_q, kFE_q, kFE2_q, seqO_lst, seqO_fz, seqO_tup, ↓sForP_q, kFP_q, kFP1_q, kFP2_q, kFP3_q, kFP4_q, eqT_ii, neT_ii, inT_ints, notInT_ints, kL1_q, kL2_nx, kL2_ct, kL2_bk, kL2_rt, runL_nil, runL_cons, tgN_q, lcFrom_q, kLc_q, lcEnd_q, kLcE_q, wipeS_nil, wipeS_cons, restS_nil, restS_cons, kRs_n, kRs_s, listT_lst, listT_fz, listT_tup, isi_ii, isi_ib, isi_ll, eqT_pl, neT_pl, kSet_ex, kRet_ex, kExpr_ex, sRaise_q, ↓sTryK_q, kTry_ex, kTry_nx, kTry_rt, kTry2_q, setAll_n, setAll_c, augM_ints, ↓nLst_q, kNL_q, kNL2_q, ↓eLcR_q, kLR_q, mulT_l, lrgT_q, eqT_ln, neT_ln, rep_ints, get_int, set_int, app_int, teq_int, teq_str, teq_non, teq_tnil, teq_tcons, teq_li, ixA_lst, ixA_fz, ixA_tup, ixA_str, ixB_lst, ixB_fz, ixB_tup, ixB_dK, ixB_dT, kDo_s, dix_Ki, dix_Ks, dix_T, kDt_q, keysT_n, keysT_i, keysT_s, kKc_q, isDi_K, isDi_T, isDi_l, ixB_fK, dix_Fi, dix_Fs, mu_fK, im_fK, im_any, ↓sSetA_q, kSA_ok, kSA_ex, kSA0_q, kSA1_q, kSA2_q, kSA3_q, kSA4_q, setA_l, setA_Ki, setA_Ks, setA_T, kSt_q, mu_dK, mu_dT, im_dK, im_dT, inA_l, inA_t, inA_f, notInA_l, notInA_t, notInA_f, negT_i, ↓bNot_q, kBNot_q, ↓bAnd_q, kBAnd_q, bYes_q, lcN_q, kNlc_q, ↓bLc_q, kBL_q, kBLc_q, addA_i, addA_s, addA_ll, addA_fl, addA_tt, isB_bl, isB_non, isB_int, isB_str, isB_nd, isN_bl, addA_lf, beq_tt, beq_tf, beq_ft, beq_ff, Option.getD_none, eYes_q, tgT_tup, tupleT_lst, tupleT_tup, ↓ixB_fl, ↓setA_fl, ↓atI_fl, fl_get, fl_set, fl_getD, kAnd_ex, kOr_ex, kNot_ex, kIf_ex, kOpB_ex, kA1_ex, kD1_ex, up_id, ↓bLkD_q, kLD0_q, kLD1_q, kLD2_q, kLD3_q, kLD4_q, neL_l, neL_f, ↓sForL_q, ↓sForJ_q, ↓eLkL_q, kLL0_q, kLL1_q, kLL3_q, ↓bLst3_q, kL3a_q, kL3b_q, kL3c_q, List.length_set, beq_self_eq_true, getD_set, and_true, true_and, or_true, true_or, and_self, List.map_cons, List.map_nil, List.eraseIdx_cons_zero, List.length_cons, List.length_nil, List.length_map, List.replicate, List.append_nil, List.cons_append, List.nil_append, List.getElem?_cons_zero, List.getElem?_cons_succ, List.set_cons_zero, List.set_cons_succ, List.getD_cons_zero, List.getD_cons_succ, Option.getD_some, List.take, Nat.reduceSub, Nat.reduceAdd, Nat.reduceEqDiff, if_true, if_false, reduceIte, if_pos, if_neg, Int.toNat_zero, Int.toNat_one, Int.reduceLT, Int.reduceLE, Int.reduceToNat, List.tail_cons, Nat.zero_add, Nat.reduceLeDiff, Nat.reduceLT, Bool.and_true, Bool.true_and, Bool.and_self, Bool.not_true, Bool.not_false, decide_eq_true_eq, decide_true, decide_false, Bool.false_eq_true, c0_coming, i0_coming, c0_pending, i0_pending, j0_coming, j0_pending, io0_begin, io0_holds, io0_answered, io0_waiting, io0_is_told, kn9, im_ints, nc2, eqT_bb, neT_bb, rg_len, take_eq, ↓ix2, ne_ii, held_eq, ↓pq_im, nk_o, nk_n, nk_s, nk_0, li_nk, dd_nk, pq_nk, T.nk, nk_ints, ↓hd_lk, ↓hd_ne, ↓ixB_hd0, ↓ixB_hd1, ↓ixB_hd2, ↓fzT_imO, fz_im, dd_im, io0b, begin_f, whole_eq, ↓tup_l])
abbrev B_ap7 : SF := (sExpr (eMutV appM 12 (aVal (eOfN (nC (.int 7))) aNil)))
theorem ap7 (o0 o1 o2 o3 o4 o5 o6 o7 o8 o9 o10 o11 o13 o14 : Option T) (l : List Int) (hl : l.length ≤ 30) : B_ap7 [o0, o1, o2, o3, o4, o5, o6, o7, o8, o9, o10, o11, some (liT l), o13, o14] = some (.nx, [o0, o1, o2, o3, o4, o5, o6, o7, o8, o9, o10, o11, some (liT (l ++ [7])), o13, o14]) := by
  walk_at "vt"
theorem bg_8 (o0 o1 o2 o3 o4 o5 o6 o7 o8 o9 o11 o12 o13 o14 : Option T) (ps rs hs : List Int) (h1 : ps.length ≤ 30) (h2 : rs.length ≤ 30) (h3 : hs.length ≤ 30) : (sForL 10 12 (sExpr (eMutV appM 12 (aVal (eOfN (nC (.int 7))) aNil)))) [o0, o1, o2, o3, o4, o5, o6, o7, o8, o9, some (hdT ps rs hs), o11, o12, o13, o14] = some (.nx, [o0, o1, o2, o3, o4, o5, o6, o7, o8, o9, some (hdT (ps ++ [7]) (rs ++ [7]) (hs ++ [7])), o11, none, o13, o14]) := by
  show (if 12 < 15 then (VT.runI 12 B_ap7 [liT ps, liT rs, liT hs] [o0, o1, o2, o3, o4, o5, o6, o7, o8, o9, none, o11, o12, o13, o14] []).bind (kFL3 10) else none) = _
  rw [if_pos (by decide), runI_step (u' := liT (ps ++ [7])) (ap7 o0 o1 o2 o3 o4 o5 o6 o7 o8 o9 none o11 o13 o14 ps h1) rfl (by show 12 < 15; decide)]
  rw [runI_step (u' := liT (rs ++ [7])) (ap7 o0 o1 o2 o3 o4 o5 o6 o7 o8 o9 none o11 o13 o14 rs h2) rfl (by show 12 < 15; decide)]
  rw [runI_step (u' := liT (hs ++ [7])) (ap7 o0 o1 o2 o3 o4 o5 o6 o7 o8 o9 none o11 o13 o14 hs h3) rfl (by show 12 < 15; decide)]
  try rfl
theorem ne_li0 {l : List Int} (h : l ≠ []) : neT (liT l) (.nd .lst []) = some (.bl true) := by rw [neT_ln, decide_eq_false h]; rfl
theorem begun_eq (a s : Int) (l : List De) (c wide : Int) (hl : l.length < 1000) (h0 : 0 < wide) (h1 : wide ≤ 30) : ∃ (a' s' sp : Int) (ps rs hs : List Int), m_law_begun [bagT a s, ddT ⟨c, l⟩, .int c, pqT l, .int wide] = some (.ok (.bl true), [bagT a' s', ddT (Dd.begin ⟨c, l⟩ sp ps rs hs), .int c, pqT (Dd.begin ⟨c, l⟩ sp ps rs hs).pend, .int wide]) ∧ ps.length ≤ 30 ∧ rs.length ≤ 8 ∧ hs.length ≤ 8 := by
  obtain ⟨a1, s1, hs, j, e1, hh, hj⟩ := bg_1 (ddT ⟨c, l⟩) (.int c) (pqT l) (.int wide) a s
  obtain ⟨a3, s3, ps, e3, hp⟩ := bg_3 (ddT ⟨c, l⟩) (.int c) l (by omega) wide (tkA a1 4) (tkS a1 s1) h0 h1 (some (liT hs)) j (tkR a1 s1 4)
  obtain ⟨a4, s4, rs, e4, hr⟩ := bg_4 (ddT ⟨c, l⟩) (.int c) (pqT l) (.int wide) (liT ps) a3 s3 (some (liT hs)) j (some (.int (tkR a1 s1 4)))
  have e6 := bg_6 a4 s4 ⟨c, l⟩ c wide (tkR a1 s1 4) l (by show l.length < 100000; omega) ps rs hs j hj
  refine ⟨a4, s4, tkR a1 s1 4, ps, rs, hs, ?_, hp, hr, hh⟩
  generalize hsp : tkR a1 s1 4 = sp at e3 e4 e6 ⊢
  have e0 : (sSet 5 (eDisp .lst aNil)) [some (bagT a s), some (ddT ⟨c, l⟩), some (.int c), some (pqT l), some (.int wide), none, none, none, none, none, none, none, none, none, none] = some (.nx, [some (bagT a s), some (ddT ⟨c, l⟩), some (.int c), some (pqT l), some (.int wide), some (.nd .lst []), none, none, none, none, none, none, none, none, none]) := by walk_at "vt"
  have e2 : (sSet 7 (eCall m_law_take 2 (aRef 0 (aVal (eOfN (nC (.int 4))) aNil)))) [some (bagT a1 s1), some (ddT ⟨c, l⟩), some (.int c), some (pqT l), some (.int wide), some (liT hs), j, none, none, none, none, none, none, none, none] = some (.nx, [some (bagT (tkA a1 4) (tkS a1 s1)), some (ddT ⟨c, l⟩), some (.int c), some (pqT l), some (.int wide), some (liT hs), j, some (.int sp), none, none, none, none, none, none, none]) := by
    walk_at "vt"
    rw [hsp]
  have e5 : (sSet 10 (eDisp .lst (aVal (eOfN (bUn listT (bOfP (pVar 8)))) (aVal (eOfN (bUn listT (bOfP (pVar 9)))) (aVal (eOfN (bUn listT (bOfP (pVar 5)))) aNil))))) [some (bagT a4 s4), some (ddT ⟨c, l⟩), some (.int c), some (pqT l), some (.int wide), some (liT hs), j, some (.int sp), some (liT ps), some (liT rs), none, none, none, none, none] = some (.nx, [some (bagT a4 s4), some (ddT ⟨c, l⟩), some (.int c), some (pqT l), some (.int wide), some (liT hs), j, some (.int sp), some (liT ps), some (liT rs), some (hdT ps rs hs), none, none, none, none]) := by walk_at "vt"
  have e7 : (sIf (eOr (eOfN (bOp neT (bOfP (pVar 10)) (bLst3 8 9 5))) (eOr (eNot (eCall m_law_whole 1 (aRef 11 aNil))) (eOfN (bOp neT (bOfP (pVar 11)) (bOfP (pVar 2)))))) (sRet (eOfN (nC (.bl false)))) sNil) [some (bagT a4 s4), some (ddT (Dd.begin ⟨c, l⟩ sp ps rs hs)), some (.int c), some (pqT l), some (.int wide), some (liT hs), j, some (.int sp), some (liT ps), some (liT rs), some (hdT ps rs hs), some (.int c), none, none, none] = some (.nx, [some (bagT a4 s4), some (ddT (Dd.begin ⟨c, l⟩ sp ps rs hs)), some (.int c), some (pqT l), some (.int wide), some (liT hs), j, some (.int sp), some (liT ps), some (liT rs), some (hdT ps rs hs), some (.int c), none, none, none]) := by walk_at "vt"
  have e8 := bg_8 (some (bagT a4 s4)) (some (ddT (Dd.begin ⟨c, l⟩ sp ps rs hs))) (some (.int c)) (some (pqT l)) (some (.int wide)) (some (liT hs)) j (some (.int sp)) (some (liT ps)) (some (liT rs)) (some (.int c)) none none none ps rs hs hp (by omega) (by omega)
  unfold m_law_begun b_law_begun
  have e9 : ∃ o5 o6 o7 o8 o9 o10 o11 o12 o13 o14 : Option T, (sIf (eOfN (bOp neT (bOfP (pVar 5)) (nLst baNil))) (sExpr (eMutV appM 3 (aVal (eDisp .lst (aVal (eVar 2) (aVal (eVar 7) (aVal (eVar 8) (aVal (eVar 9) (aVal (eVar 5) aNil)))))) aNil))) sNil) [some (bagT a4 s4), some (ddT (Dd.begin ⟨c, l⟩ sp ps rs hs)), some (.int c), some (pqT l), some (.int wide), some (liT hs), j, some (.int sp), some (liT ps), some (liT rs), some (hdT (ps ++ [7]) (rs ++ [7]) (hs ++ [7])), some (.int c), none, none, none] = some (.nx, [some (bagT a4 s4), some (ddT (Dd.begin ⟨c, l⟩ sp ps rs hs)), some (.int c), some (pqT (Dd.begin ⟨c, l⟩ sp ps rs hs).pend), some (.int wide), o5, o6, o7, o8, o9, o10, o11, o12, o13, o14]) := by
    by_cases c0 : hs = []
    · refine ⟨some (liT hs), j, some (.int sp), some (liT ps), some (liT rs), some (hdT (ps ++ [7]) (rs ++ [7]) (hs ++ [7])), some (.int c), none, none, none, ?_⟩
      subst c0
      show _ = some (Fl.nx, [some (bagT a4 s4), some (ddT (Dd.begin ⟨c, l⟩ sp ps rs [])), some (.int c), some (pqT l), some (.int wide), some (liT []), j, some (.int sp), some (liT ps), some (liT rs), some (hdT (ps ++ [7]) (rs ++ [7]) ([] ++ [7])), some (.int c), none, none, none])
      walk_at "vt"
    · refine ⟨none, j, some (.int sp), none, none, some (hdT (ps ++ [7]) (rs ++ [7]) (hs ++ [7])), some (.int c), none, none, none, ?_⟩
      have ep : (Dd.begin ⟨c, l⟩ sp ps rs hs).pend = l ++ [⟨c, sp, ps, rs, hs⟩] := if_neg c0
      have en := ne_li0 c0
      rw [ep]
      unfold pqT
      rw [List.map_append]
      walk_at "vt"
      rw [if_pos (by rw [decide_eq_false c0]; rfl)]
      try rfl
  obtain ⟨o5, o6, o7, o8, o9, o10, o11, o12, o13, o14, e9⟩ := e9
  refine body_rt rfl (S' := [some (bagT a4 s4), some (ddT (Dd.begin ⟨c, l⟩ sp ps rs hs)), some (.int c), some (pqT (Dd.begin ⟨c, l⟩ sp ps rs hs).pend), some (.int wide), o5, o6, o7, o8, o9, o10, o11, o12, o13, o14]) ?_ rfl
  show sSeq _ _ [some (bagT a s), some (ddT ⟨c, l⟩), some (.int c), some (pqT l), some (.int wide), none, none, none, none, none, none, none, none, none, none] = _
  rw [seq_nx e0, seq_nx e1, seq_nx e2, seq_nx e3, seq_nx e4, seq_nx e5, seq_nx e6, seq_nx e7, seq_nx e8, seq_nx e9]
  walk_at "vt"
end K05
namespace K05
open PySem L2 VT
theorem li_inj {l m : List Int} (h : liT l = liT m) : l = m := by
  injection h with _ h
  exact (List.map_inj_right fun x y e => by injection e).mp h
theorem lq_inj (a b : De) (h : lqT a = lqT b) : a = b := by
  obtain ⟨n, s, p, r, q⟩ := a
  obtain ⟨n', s', p', r', q'⟩ := b
  unfold lqT at h
  injection h with _ h
  simp only [List.cons.injEq, T.int.injEq, and_true] at h
  obtain ⟨h1, h2, h3, h4, h5⟩ := h
  rw [h1, h2, li_inj h3, li_inj h4, li_inj h5]
theorem lq_pl (d : De) : plT 8 (lqT d) = true := by
  show (plT 7 (.int d.n) && (plT 7 (.int d.s) && (plT 7 (liT d.ps) && (plT 7 (liT d.rs) && (plT 7 (liT d.hs) && true))))) = true
  rw [plI, plI, plI]; rfl
theorem ok_mid {α : Type} {g : α → T} (hp : ∀ a, plT 8 (g a) = true) (inj : ∀ a b, g a = g b → a = b) {A B : List α} {x : α} (hn : x ∉ A) (hl : (A ++ x :: B).length ≤ 100000) : okRem ((A ++ x :: B).map g) (g x) A.length := by
  have c1 : ((A ++ x :: B).map g).length ≤ 100000 := by rw [List.length_map]; exact hl
  have c2 := (plAll_lay (pl_map hp (A ++ x :: B))).1
  refine ⟨c1, c2, pl_sh (hp x) (by decide), ?_⟩
  unfold SeqAt.dataPlace
  rw [datAll_map, List.map_map, List.findIdx?_map]
  rw [List.findIdx?_append]
  have n : A.findIdx? ((fun y => PyData.eqv y (dat (g x))) ∘ dat ∘ g) = none := by
    rw [List.findIdx?_eq_none_iff]
    intro a ha
    have := pl_eq (hp a) (hp x)
    show PyData.eqv (dat (g a)) (dat (g x)) = false
    cases h : PyData.eqv (dat (g a)) (dat (g x)) with
    | false => rfl
    | true => exact absurd (inj _ _ (this.mp h) ▸ ha) hn
  have y : PyData.eqv (dat (g x)) (dat (g x)) = true := (pl_eq (hp x) (hp x)).2 rfl
  rw [n]
  simp [List.findIdx?_cons, y]
theorem runJ_keep {v : Nat} {b1 : SF} {c : EF} {b2 : SF} {u u' : T} {us acc : List T} {S S1 S2 : TSt} (h1 : b1 (S.set v (some u)) = some (.nx, S1)) (hc : c S1 = some (.ok (.bl false), S2)) (h2 : sl S2 v = some u') (h3 : v < S2.length) : runJ v b1 c b2 (u :: us) S acc = runJ v b1 c b2 us (S2.set v none) (acc ++ [u']) := by
  rw [runJ, h1, Option.bind_some]
  show (c S1).bind _ = _
  rw [hc, Option.bind_some]
  show (sl S2 v).bind _ = _
  rw [h2, Option.bind_some, if_pos h3]
theorem runJ_drop {v : Nat} {b1 : SF} {c : EF} {b2 : SF} {u u' : T} {us acc : List T} {S S1 S2 S3 : TSt} (h1 : b1 (S.set v (some u)) = some (.nx, S1)) (hc : c S1 = some (.ok (.bl true), S2)) (hb : b2 S2 = some (.nx, S3)) (h2 : sl S3 v = some u') (h3 : v < S3.length) (h4 : okRem (acc ++ u' :: us) u' acc.length) : runJ v b1 c b2 (u :: us) S acc = runJ v b1 c b2 us (S3.set v none) acc := by
  rw [runJ, h1, Option.bind_some]
  show (c S1).bind _ = _
  rw [hc, Option.bind_some]
  show (b2 S2).bind _ = _
  rw [hb, Option.bind_some]
  show (sl S3 v).bind _ = _
  rw [h2, Option.bind_some, if_pos ⟨h3, h4⟩]
abbrev J1 : SF := (sIf (eOfN (bOp inA (bOfP (pVar 2)) (bOp ixB (bOfP (pVar 4)) (nC (.int 4))))) (sSetA (pVar 4) (nC (.int 4)) (eOfN (bLc [6] (tgN 6) (bOp ixB (bOfP (pVar 4)) (nC (.int 4))) (bOp neT (bOfP (pVar 6)) (bOfP (pVar 2))) (nOfB (bOfP (pVar 6)))))) sNil)
abbrev J2 : EF := (eOfN (bOp eqT (bOp ixB (bOfP (pVar 4)) (nC (.int 4))) (nLst baNil)))
abbrev J3 : SF := (sExpr (eMutV appM 3 (aVal (eOfN (nTup (baVal (nOfB (bOp ixB (bOfP (pVar 4)) (nC (.int 0)))) (baVal (bUn tupleT (bOp ixB (bOfP (pVar 4)) (nC (.int 3)))) baNil)))) aNil)))
theorem ixB_lq0 {d : De} : ixB (lqT d) (.int 0) = some (.int d.n) := rfl
theorem ixB_lq3 {d : De} : ixB (lqT d) (.int 3) = some (liT d.rs) := rfl
theorem ixB_lq4 {d : De} : ixB (lqT d) (.int 4) = some (liT d.hs) := rfl
theorem lq_im (d : De) : (lqT d).im = false := rfl
theorem setA_lq4 {d : De} {l : List Int} : setA (.int 4) (lqT d) [liT l] = some (lqT { d with hs := l }, .non) := rfl
theorem inA_li {i : Int} {l : List Int} : inA (.int i) (.nd .lst (l.map .int)) = some (.bl (decide (i ∈ l))) := inA_sq (.inl rfl)
local macro_rules | `(tactic| walk_at "vtd") => `(tactic| first | omega | assumption | (simp only [List.length_set]; omega) | (simp only [plT, plAll, plI, Bool.and_true, Bool.and_self, ofS_ok, dg_ok]; done))
local macro_rules | `(tactic| walk_at "vt") => `(tactic| simp (disch := walk_at "vtd") only [↓eOp_q, kOp1_ok, kOp2_ok, kEn_q, ↓eOpB_q, kOpB_ok, kB1_q, ↓eUn_q, kUn_ok, ↓eOfN_q, ↓bOp_q, kBop_q, ↓bUn_q, ↓bOfP_q, kPl_q, kAt_q, tAt_nil, tAt_nd, nC_q, ↓nOfB_q, pVar_q, kPV_q, eVar_q, kVar_q, ↓sSeq_q, kSeq_nx, kSeq_rt, kSeq_ex, kSeq_bk, kSeq_ct, ↓sSet_q, kSet_ok, ↓sRet_q, kRet_ok, ↓sExpr_q, kExpr_ok, sNil_q, ↓sIf_q, kIf_q, ↓eNot_q, kNot_q, ↓eAnd_q, kAnd_q, ↓eOr_q, kOr_q, aNil_q, ↓aVal_q, kA1_ok, kA2_ok, ↓aRef_q, kAr_q, kAr2_ok, argOf_q, kArg_q, ↓eDisp_q, kD1_ok, kD2_q, valsOf_nil, valsOf_val, kVl_q, ↓eCall_q, kCall_ok, callR_q, kC1_q, kC2_q, argT_nil, argT_val, argT_pth, kAT1_q, kAT2_q, putB_nil, putB_val, tPut_nil, tPut_nd, ↓nTup_q, kNT_q, kNT2_q, baNil_q, ↓baVal_q, kBV_q, kBV2_q, ↓baRef_q, kBR_q, kBR2_q, ↓mBody_q, kBody_q, kBody2_nx, kBody2_rt, kBody2_ex, allS_nil, allS_some, imO_int, imO_str, imO_bl, imO_non, imO_tup, im_int, im_str, im_bl, im_non, im_tup, im_fz, im_lst, im_obj, imAll_nil, imAll_cons, mu_lst, mu_obj, gd_pos, gd_tr, mulT_i, modT_i, fdivT_i, powT_i, ltT_i, gtT_i, geT_i, minT_i, ixT_lst, ixT_fz, ixT_tup, lenT_lst, lenT_fz, lenT_tup, isN_non, isN_int, isN_nd, isN_str, ↓sMut_q, kMu_ok, kM0_q, kM1_q, kM2_q, kM3_q, setM_q, kSM_q, ob_some, sl, atI, ixN, ↓pFld_q, kF1_q, kF2_q, kF3_q, kF4_q, ↓eMeth_q, kMe_q, kMe2_q, ↓eMethP_q, kMP_q, kMP1_q, kMP2_q, kMP3_q, putB_q, kPB_q, ↓eMake_q, kMk_q, kMk2_q, kMk3_q, ↓eMutV_q, kLV0_q, kLV_q, kLV1_q, kLV2_q, kLV3_q, isLst_q, ↓eMutP_q, kLP_q, kLP0_q, kLP1_q, kLP2_q, kLP3_q, kLP4_q, appM_q, popM_q, kPop_q, putFM_q, kPF_s, kPF_n, ↓sForR_q, kFR_q, ↓sForE_q, kFE_q, kFE2_q, seqO_lst, seqO_fz, seqO_tup, ↓sForP_q, kFP_q, kFP1_q, kFP2_q, kFP3_q, kFP4_q, eqT_ii, neT_ii, inT_ints, notInT_ints, kL1_q, kL2_nx, kL2_ct, kL2_bk, kL2_rt, runL_nil, runL_cons, tgN_q, lcFrom_q, kLc_q, lcEnd_q, kLcE_q, wipeS_nil, wipeS_cons, restS_nil, restS_cons, kRs_n, kRs_s, listT_lst, listT_fz, listT_tup, isi_ii, isi_ib, isi_ll, eqT_pl, neT_pl, kSet_ex, kRet_ex, kExpr_ex, sRaise_q, ↓sTryK_q, kTry_ex, kTry_nx, kTry_rt, kTry2_q, setAll_n, setAll_c, augM_ints, ↓nLst_q, kNL_q, kNL2_q, ↓eLcR_q, kLR_q, mulT_l, lrgT_q, eqT_ln, neT_ln, rep_ints, get_int, set_int, app_int, teq_int, teq_str, teq_non, teq_tnil, teq_tcons, teq_li, ixA_lst, ixA_fz, ixA_tup, ixA_str, ixB_lst, ixB_fz, ixB_tup, ixB_dK, ixB_dT, kDo_s, dix_Ki, dix_Ks, dix_T, kDt_q, keysT_n, keysT_i, keysT_s, kKc_q, isDi_K, isDi_T, isDi_l, ixB_fK, dix_Fi, dix_Fs, mu_fK, im_fK, im_any, ↓sSetA_q, kSA_ok, kSA_ex, kSA0_q, kSA1_q, kSA2_q, kSA3_q, kSA4_q, setA_l, setA_Ki, setA_Ks, setA_T, kSt_q, mu_dK, mu_dT, im_dK, im_dT, inA_l, inA_t, inA_f, notInA_l, notInA_t, notInA_f, negT_i, ↓bNot_q, kBNot_q, ↓bAnd_q, kBAnd_q, bYes_q, lcN_q, kNlc_q, ↓bLc_q, kBL_q, kBLc_q, addA_i, addA_s, addA_ll, addA_fl, addA_tt, isB_bl, isB_non, isB_int, isB_str, isB_nd, isN_bl, addA_lf, beq_tt, beq_tf, beq_ft, beq_ff, Option.getD_none, eYes_q, tgT_tup, tupleT_lst, tupleT_tup, ↓ixB_fl, ↓setA_fl, ↓atI_fl, fl_get, fl_set, fl_getD, kAnd_ex, kOr_ex, kNot_ex, kIf_ex, kOpB_ex, kA1_ex, kD1_ex, up_id, ↓bLkD_q, kLD0_q, kLD1_q, kLD2_q, kLD3_q, kLD4_q, neL_l, neL_f, ↓sForL_q, ↓sForJ_q, ↓eLkL_q, kLL0_q, kLL1_q, kLL3_q, ↓bLst3_q, kL3a_q, kL3b_q, kL3c_q, List.length_set, beq_self_eq_true, getD_set, and_true, true_and, or_true, true_or, and_self, List.map_cons, List.map_nil, List.eraseIdx_cons_zero, List.length_cons, List.length_nil, List.length_map, List.replicate, List.append_nil, List.cons_append, List.nil_append, List.getElem?_cons_zero, List.getElem?_cons_succ, List.set_cons_zero, List.set_cons_succ, List.getD_cons_zero, List.getD_cons_succ, Option.getD_some, List.take, Nat.reduceSub, Nat.reduceAdd, Nat.reduceEqDiff, if_true, if_false, reduceIte, if_pos, if_neg, Int.toNat_zero, Int.toNat_one, Int.reduceLT, Int.reduceLE, Int.reduceToNat, List.tail_cons, Nat.zero_add, Nat.reduceLeDiff, Nat.reduceLT, Bool.and_true, Bool.true_and, Bool.and_self, Bool.not_true, Bool.not_false, decide_eq_true_eq, decide_true, decide_false, Bool.false_eq_true, c0_coming, i0_coming, c0_pending, i0_pending, j0_coming, j0_pending, io0_begin, io0_holds, io0_answered, io0_waiting, io0_is_told, kn9, im_ints, nc2, eqT_bb, neT_bb, rg_len, ne_ii, ↓ixB_lq0, ↓ixB_lq3, ↓ixB_lq4, ↓setA_lq4, lq_im, ↓tup_l, tu_im, tu_imO, ↓inA_li])
theorem j1_eq (o0 o3 o5 o6 : Option T) (h : Int) (d : De) (hl : d.hs.length < 100000) : J1 [o0, none, some (.int h), o3, some (lqT d), o5, o6] = some (.nx, [o0, none, some (.int h), o3, some (lqT (d.off h)), o5, o6]) := by
  have er : ∀ o6 : Option T, runN (tgN 6) (bOp neT (bOfP (pVar 6)) (bOfP (pVar 2))) (nOfB (bOfP (pVar 6))) (d.hs.map .int) [o0, none, some (.int h), o3, some (lqT d), o5, none] = some ((d.off h).hs.map .int) := fun _ => by
    refine runN_pure (gx := T.int) (q := fun o => decide (¬ o = h)) (h := T.int) (fun o => [o0, none, some (.int h), o3, some (lqT d), o5, some (.int o)]) d.hs (fun c _ => rfl) (fun c _ => ?_) fun c _ _ => ?_
    · walk_at "vt"
      rw [decide_not]
    · walk_at "vt"
  by_cases c : h ∈ d.hs
  · walk_at "vt"
    rw [er none]
    walk_at "vt"
    try rfl
  · have e : d.off h = d := by
      unfold De.off
      have : (d.hs.filter fun o => decide (¬ o = h)) = d.hs := List.filter_eq_self.mpr fun x hx => decide_eq_true fun z => c (z ▸ hx)
      rw [this]
    rw [e]
    walk_at "vt"
theorem j2_eq (o0 o3 o5 o6 : Option T) (h : Int) (d : De) : J2 [o0, none, some (.int h), o3, some (lqT d), o5, o6] = some (.ok (.bl (decide (d.hs = []))), [o0, none, some (.int h), o3, some (lqT d), o5, o6]) := by
  walk_at "vt"
theorem j3_eq (o0 o5 o6 : Option T) (h : Int) (d : De) (b : List De) (hb : b.length < 100000) : J3 [o0, none, some (.int h), some (.nd .lst (b.map toT)), some (lqT d), o5, o6] = some (.nx, [o0, none, some (.int h), some (.nd .lst ((b ++ [d]).map toT)), some (lqT d), o5, o6]) := by
  rw [List.map_append]
  walk_at "vt"
  try rfl
end K05
namespace K05
open PySem L2 VT
theorem ansJ (dd : T) (h : Int) : ∀ (l A b : List De), (A.map (·.n) ++ l.map (·.n)).Nodup → A.length + l.length < 1000 → b.length + l.length < 1000 → (∀ d ∈ l, d.hs.length < 100000) →
    runJ 4 J1 J2 J3 (l.map lqT) [some dd, none, some (.int h), some (.nd .lst (b.map toT)), none, none, none] (A.map lqT) = some ((A ++ ansLeft h l).map lqT, [some dd, none, some (.int h), some (.nd .lst ((b ++ ansTold h l).map toT)), none, none, none])
  | [], A, b, _, _, _, _ => by
    have e1 : ansLeft h [] = [] := rfl
    have e2 : ansTold h [] = [] := rfl
    rw [e1, e2, List.append_nil, List.append_nil]; rfl
  | d :: l, A, b, nd, h1, h2, h3 => by
    have hd := h3 d List.mem_cons_self
    have h3' : ∀ e ∈ l, e.hs.length < 100000 := fun e he => h3 e (List.mem_cons_of_mem _ he)
    rw [List.length_cons] at h1 h2
    have hn : d.off h ∉ A := fun z => by
      rw [List.map_cons, List.nodup_append] at nd
      exact nd.2.2 _ (List.mem_map.mpr ⟨_, z, rfl⟩) d.n List.mem_cons_self rfl
    have f1 := j1_eq (some dd) (some (.nd .lst (b.map toT))) none none h d hd
    have f2 := j2_eq (some dd) (some (.nd .lst (b.map toT))) none none h (d.off h)
    by_cases c : (d.off h).hs = []
    · rw [decide_eq_true c] at f2
      have f3 := j3_eq (some dd) none none h (d.off h) b (by omega)
      have e1 : ansLeft h (d :: l) = ansLeft h l := by unfold ansLeft; rw [List.map_cons, List.filter_cons, if_neg (by simp [c])]
      have e2 : b ++ ansTold h (d :: l) = (b ++ [d.off h]) ++ ansTold h l := by unfold ansTold; rw [List.map_cons, List.filter_cons, if_pos (by simp [c]), List.append_assoc]; rfl
      have ok := ok_mid lq_pl lq_inj (A := A) (B := l) (x := d.off h) hn (by rw [List.length_append, List.length_cons]; omega)
      rw [List.map_append, List.map_cons, ← List.length_map (f := lqT) (as := A)] at ok
      have nd' : (A.map (·.n) ++ l.map (·.n)).Nodup := by
        rw [List.map_cons, List.nodup_append, List.nodup_cons] at nd
        rw [List.nodup_append]
        exact ⟨nd.1, nd.2.1.2, fun x hx y hy => nd.2.2 x hx y (List.mem_cons_of_mem _ hy)⟩
      have ih := ansJ dd h l A (b ++ [d.off h]) nd' (by omega) (by rw [List.length_append, List.length_singleton]; omega) h3'
      rw [e1, e2, ← ih, List.map_cons]
      exact runJ_drop f1 f2 f3 rfl (by show 4 < 7; decide) ok
    · rw [decide_eq_false c] at f2
      have e1 : ansTold h (d :: l) = ansTold h l := by unfold ansTold; rw [List.map_cons, List.filter_cons, if_neg (by simp [c])]
      have e2 : A ++ ansLeft h (d :: l) = (A ++ [d.off h]) ++ ansLeft h l := by unfold ansLeft; rw [List.map_cons, List.filter_cons, if_pos (by simp [c]), List.append_assoc]; rfl
      have nd' : ((A ++ [d.off h]).map (·.n) ++ l.map (·.n)).Nodup := by
        rw [List.map_append, List.append_assoc]
        exact nd
      have ih := ansJ dd h l (A ++ [d.off h]) b nd' (by rw [List.length_append, List.length_singleton]; omega) (by omega) h3'
      rw [e1, e2, ← ih, List.map_cons, List.map_append]
      exact runJ_keep f1 f2 rfl (by show 4 < 7; decide)
theorem to_pl (d : De) : plT 7 (toT d) = true := by
  show (plT 6 (.int d.n) && (plT 6 (tuT d.rs) && true)) = true
  rw [tu_pl]; rfl
theorem tol_ne (l : List De) : neT (.nd .lst (l.map toT)) (.nd .lst (l.map toT)) = some (.bl false) := neT_self (pl_map to_pl l)
local macro_rules | `(tactic| walk_at "vtd") => `(tactic| first | omega | assumption | (simp only [List.length_set]; omega) | (simp only [plT, plAll, plI, Bool.and_true, Bool.and_self, ofS_ok, dg_ok]; done))
local macro_rules | `(tactic| walk_at "vt") => `(tactic| simp (disch := walk_at "vtd") only [↓eOp_q, kOp1_ok, kOp2_ok, kEn_q, ↓eOpB_q, kOpB_ok, kB1_q, ↓eUn_q, kUn_ok, ↓eOfN_q, ↓bOp_q, kBop_q, ↓bUn_q, ↓bOfP_q, kPl_q, kAt_q, tAt_nil, tAt_nd, nC_q, ↓nOfB_q, pVar_q, kPV_q, eVar_q, kVar_q, ↓sSeq_q, kSeq_nx, kSeq_rt, kSeq_ex, kSeq_bk, kSeq_ct, ↓sSet_q, kSet_ok, ↓sRet_q, kRet_ok, ↓sExpr_q, kExpr_ok, sNil_q, ↓sIf_q, kIf_q, ↓eNot_q, kNot_q, ↓eAnd_q, kAnd_q, ↓eOr_q, kOr_q, aNil_q, ↓aVal_q, kA1_ok, kA2_ok, ↓aRef_q, kAr_q, kAr2_ok, argOf_q, kArg_q, ↓eDisp_q, kD1_ok, kD2_q, valsOf_nil, valsOf_val, kVl_q, ↓eCall_q, kCall_ok, callR_q, kC1_q, kC2_q, argT_nil, argT_val, argT_pth, kAT1_q, kAT2_q, putB_nil, putB_val, tPut_nil, tPut_nd, ↓nTup_q, kNT_q, kNT2_q, baNil_q, ↓baVal_q, kBV_q, kBV2_q, ↓baRef_q, kBR_q, kBR2_q, ↓mBody_q, kBody_q, kBody2_nx, kBody2_rt, kBody2_ex, allS_nil, allS_some, imO_int, imO_str, imO_bl, imO_non, imO_tup, im_int, im_str, im_bl, im_non, im_tup, im_fz, im_lst, im_obj, imAll_nil, imAll_cons, mu_lst, mu_obj, gd_pos, gd_tr, mulT_i, modT_i, fdivT_i, powT_i, ltT_i, gtT_i, geT_i, minT_i, ixT_lst, ixT_fz, ixT_tup, lenT_lst, lenT_fz, lenT_tup, isN_non, isN_int, isN_nd, isN_str, ↓sMut_q, kMu_ok, kM0_q, kM1_q, kM2_q, kM3_q, setM_q, kSM_q, ob_some, sl, atI, ixN, ↓pFld_q, kF1_q, kF2_q, kF3_q, kF4_q, ↓eMeth_q, kMe_q, kMe2_q, ↓eMethP_q, kMP_q, kMP1_q, kMP2_q, kMP3_q, putB_q, kPB_q, ↓eMake_q, kMk_q, kMk2_q, kMk3_q, ↓eMutV_q, kLV0_q, kLV_q, kLV1_q, kLV2_q, kLV3_q, isLst_q, ↓eMutP_q, kLP_q, kLP0_q, kLP1_q, kLP2_q, kLP3_q, kLP4_q, appM_q, popM_q, kPop_q, putFM_q, kPF_s, kPF_n, ↓sForR_q, kFR_q, ↓sForE_q, kFE_q, kFE2_q, seqO_lst, seqO_fz, seqO_tup, ↓sForP_q, kFP_q, kFP1_q, kFP2_q, kFP3_q, kFP4_q, eqT_ii, neT_ii, inT_ints, notInT_ints, kL1_q, kL2_nx, kL2_ct, kL2_bk, kL2_rt, runL_nil, runL_cons, tgN_q, lcFrom_q, kLc_q, lcEnd_q, kLcE_q, wipeS_nil, wipeS_cons, restS_nil, restS_cons, kRs_n, kRs_s, listT_lst, listT_fz, listT_tup, isi_ii, isi_ib, isi_ll, eqT_pl, neT_pl, kSet_ex, kRet_ex, kExpr_ex, sRaise_q, ↓sTryK_q, kTry_ex, kTry_nx, kTry_rt, kTry2_q, setAll_n, setAll_c, augM_ints, ↓nLst_q, kNL_q, kNL2_q, ↓eLcR_q, kLR_q, mulT_l, lrgT_q, eqT_ln, neT_ln, rep_ints, get_int, set_int, app_int, teq_int, teq_str, teq_non, teq_tnil, teq_tcons, teq_li, ixA_lst, ixA_fz, ixA_tup, ixA_str, ixB_lst, ixB_fz, ixB_tup, ixB_dK, ixB_dT, kDo_s, dix_Ki, dix_Ks, dix_T, kDt_q, keysT_n, keysT_i, keysT_s, kKc_q, isDi_K, isDi_T, isDi_l, ixB_fK, dix_Fi, dix_Fs, mu_fK, im_fK, im_any, ↓sSetA_q, kSA_ok, kSA_ex, kSA0_q, kSA1_q, kSA2_q, kSA3_q, kSA4_q, setA_l, setA_Ki, setA_Ks, setA_T, kSt_q, mu_dK, mu_dT, im_dK, im_dT, inA_l, inA_t, inA_f, notInA_l, notInA_t, notInA_f, negT_i, ↓bNot_q, kBNot_q, ↓bAnd_q, kBAnd_q, bYes_q, lcN_q, kNlc_q, ↓bLc_q, kBL_q, kBLc_q, addA_i, addA_s, addA_ll, addA_fl, addA_tt, isB_bl, isB_non, isB_int, isB_str, isB_nd, isN_bl, addA_lf, beq_tt, beq_tf, beq_ft, beq_ff, Option.getD_none, eYes_q, tgT_tup, tupleT_lst, tupleT_tup, ↓ixB_fl, ↓setA_fl, ↓atI_fl, fl_get, fl_set, fl_getD, kAnd_ex, kOr_ex, kNot_ex, kIf_ex, kOpB_ex, kA1_ex, kD1_ex, up_id, ↓bLkD_q, kLD0_q, kLD1_q, kLD2_q, kLD3_q, kLD4_q, neL_l, neL_f, ↓sForL_q, ↓sForJ_q, ↓eLkL_q, kLL0_q, kLL1_q, kLL3_q, ↓bLst3_q, kL3a_q, kL3b_q, kL3c_q, List.length_set, beq_self_eq_true, getD_set, and_true, true_and, or_true, true_or, and_self, List.map_cons, List.map_nil, List.eraseIdx_cons_zero, List.length_cons, List.length_nil, List.length_map, List.replicate, List.append_nil, List.cons_append, List.nil_append, List.getElem?_cons_zero, List.getElem?_cons_succ, List.set_cons_zero, List.set_cons_succ, List.getD_cons_zero, List.getD_cons_succ, Option.getD_some, List.take, Nat.reduceSub, Nat.reduceAdd, Nat.reduceEqDiff, if_true, if_false, reduceIte, if_pos, if_neg, Int.toNat_zero, Int.toNat_one, Int.reduceLT, Int.reduceLE, Int.reduceToNat, List.tail_cons, Nat.zero_add, Nat.reduceLeDiff, Nat.reduceLT, Bool.and_true, Bool.true_and, Bool.and_self, Bool.not_true, Bool.not_false, decide_eq_true_eq, decide_true, decide_false, Bool.false_eq_true, c0_coming, i0_coming, c0_pending, i0_pending, j0_coming, j0_pending, io0_begin, io0_holds, io0_answered, io0_waiting, io0_is_told, kn9, im_ints, nc2, eqT_bb, neT_bb, rg_len, ne_ii, dd_im, ↓io0a, ↓tol_ne, dd_answered, tos_im])
theorem answered_eq (c h : Int) (l : List De) (nd : (l.map (·.n)).Nodup) (hl : l.length < 1000) (hh : ∀ d ∈ l, d.hs.length < 100000) : m_law_answered [ddT ⟨c, l⟩, pqT l, .int h] = some (.ok (.bl true), [ddT (Dd.answer ⟨c, l⟩ h), pqT (ansLeft h l), .int h]) := by
  have e := ansJ (ddT ⟨c, l⟩) h l [] [] nd (by simpa using hl) (by simpa using hl) hh
  rw [List.nil_append, List.nil_append, List.map_nil, List.map_nil] at e
  have e0 : (sSet 3 (eDisp .lst aNil)) [some (ddT ⟨c, l⟩), some (pqT l), some (.int h), none, none, none, none] = some (.nx, [some (ddT ⟨c, l⟩), some (pqT l), some (.int h), some (.nd .lst []), none, none, none]) := by walk_at "vt"
  have e1 : (sForJ 1 4 (sIf (eOfN (bOp inA (bOfP (pVar 2)) (bOp ixB (bOfP (pVar 4)) (nC (.int 4))))) (sSetA (pVar 4) (nC (.int 4)) (eOfN (bLc [6] (tgN 6) (bOp ixB (bOfP (pVar 4)) (nC (.int 4))) (bOp neT (bOfP (pVar 6)) (bOfP (pVar 2))) (nOfB (bOfP (pVar 6)))))) sNil) (eOfN (bOp eqT (bOp ixB (bOfP (pVar 4)) (nC (.int 4))) (nLst baNil))) (sExpr (eMutV appM 3 (aVal (eOfN (nTup (baVal (nOfB (bOp ixB (bOfP (pVar 4)) (nC (.int 0)))) (baVal (bUn tupleT (bOp ixB (bOfP (pVar 4)) (nC (.int 3)))) baNil)))) aNil)))) [some (ddT ⟨c, l⟩), some (pqT l), some (.int h), some (.nd .lst []), none, none, none] = some (.nx, [some (ddT ⟨c, l⟩), some (pqT (ansLeft h l)), some (.int h), some (.nd .lst ((ansTold h l).map toT)), none, none, none]) := by
    show (if 4 < 7 then (runJ 4 J1 J2 J3 (l.map lqT) [some (ddT ⟨c, l⟩), none, some (.int h), some (.nd .lst []), none, none, none] []).bind (kFL3 1) else none) = _
    rw [if_pos (by decide), e]
    try rfl
  have hz : (ansTold h l).length ≤ l.length := by
    unfold ansTold
    exact Nat.le_trans (List.length_filter_le _ _) (by rw [List.length_map]; exact Nat.le_refl _)
  have hz2 : (ansTold h l).length < 100000 := by omega
  have hl2 : (Dd.mk c l).pend.length < 100000 := by show l.length < 100000; omega
  have ea := dd_answered ⟨c, l⟩ h hl2 hh
  have e2 : (sSet 5 (eMeth m_Deeds_answered 2 0 "answered" 0 (aRef 2 aNil))) [some (ddT ⟨c, l⟩), some (pqT (ansLeft h l)), some (.int h), some (.nd .lst ((ansTold h l).map toT)), none, none, none] = some (.nx, [some (ddT (Dd.answer ⟨c, l⟩ h)), some (pqT (ansLeft h l)), some (.int h), some (.nd .lst ((ansTold h l).map toT)), none, some (.nd .lst ((ansTold h l).map toT)), none]) := by
    walk_at "vt"
  have e3 : (sIf (eOr (eNot (eOfN (bUn (isiT "list") (bOfP (pVar 5))))) (eOfN (bOp neT (bOfP (pVar 5)) (bOfP (pVar 3))))) (sRet (eOfN (nC (.bl false)))) sNil) [some (ddT (Dd.answer ⟨c, l⟩ h)), some (pqT (ansLeft h l)), some (.int h), some (.nd .lst ((ansTold h l).map toT)), none, some (.nd .lst ((ansTold h l).map toT)), none] = some (.nx, [some (ddT (Dd.answer ⟨c, l⟩ h)), some (pqT (ansLeft h l)), some (.int h), some (.nd .lst ((ansTold h l).map toT)), none, some (.nd .lst ((ansTold h l).map toT)), none]) := by
    walk_at "vt"
  have e4 : ∃ o, (sExpr (eMutV appM 5 (aVal (eOfN (nTup (baVal (nC (.int 0)) (baVal (nTup baNil) baNil)))) aNil))) [some (ddT (Dd.answer ⟨c, l⟩ h)), some (pqT (ansLeft h l)), some (.int h), some (.nd .lst ((ansTold h l).map toT)), none, some (.nd .lst ((ansTold h l).map toT)), none] = some (.nx, [some (ddT (Dd.answer ⟨c, l⟩ h)), some (pqT (ansLeft h l)), some (.int h), some (.nd .lst ((ansTold h l).map toT)), none, o, none]) := by
    refine ⟨some (.nd .lst ((ansTold h l).map toT ++ [.nd .tup [.int 0, .nd .tup []]])), ?_⟩
    walk_at "vt"
  obtain ⟨o, e4⟩ := e4
  unfold m_law_answered b_law_answered
  refine body_rt rfl (S' := [some (ddT (Dd.answer ⟨c, l⟩ h)), some (pqT (ansLeft h l)), some (.int h), some (.nd .lst ((ansTold h l).map toT)), none, o, none]) ?_ rfl
  show sSeq _ _ [some (ddT ⟨c, l⟩), some (pqT l), some (.int h), none, none, none, none] = _
  rw [seq_nx e0, seq_nx e1, seq_nx e2, seq_nx e3, seq_nx e4]
  walk_at "vt"
local macro_rules | `(tactic| walk_at "vtd") => `(tactic| first | omega | assumption | (simp only [List.length_set]; omega) | (simp only [plT, plAll, plI, Bool.and_true, Bool.and_self, ofS_ok, dg_ok]; done))
local macro_rules | `(tactic| walk_at "vt") => `(tactic| simp (disch := walk_at "vtd") only [↓eOp_q, kOp1_ok, kOp2_ok, kEn_q, ↓eOpB_q, kOpB_ok, kB1_q, ↓eUn_q, kUn_ok, ↓eOfN_q, ↓bOp_q, kBop_q, ↓bUn_q, ↓bOfP_q, kPl_q, kAt_q, tAt_nil, tAt_nd, nC_q, ↓nOfB_q, pVar_q, kPV_q, eVar_q, kVar_q, ↓sSeq_q, kSeq_nx, kSeq_rt, kSeq_ex, kSeq_bk, kSeq_ct, ↓sSet_q, kSet_ok, ↓sRet_q, kRet_ok, ↓sExpr_q, kExpr_ok, sNil_q, ↓sIf_q, kIf_q, ↓eNot_q, kNot_q, ↓eAnd_q, kAnd_q, ↓eOr_q, kOr_q, aNil_q, ↓aVal_q, kA1_ok, kA2_ok, ↓aRef_q, kAr_q, kAr2_ok, argOf_q, kArg_q, ↓eDisp_q, kD1_ok, kD2_q, valsOf_nil, valsOf_val, kVl_q, ↓eCall_q, kCall_ok, callR_q, kC1_q, kC2_q, argT_nil, argT_val, argT_pth, kAT1_q, kAT2_q, putB_nil, putB_val, tPut_nil, tPut_nd, ↓nTup_q, kNT_q, kNT2_q, baNil_q, ↓baVal_q, kBV_q, kBV2_q, ↓baRef_q, kBR_q, kBR2_q, ↓mBody_q, kBody_q, kBody2_nx, kBody2_rt, kBody2_ex, allS_nil, allS_some, imO_int, imO_str, imO_bl, imO_non, imO_tup, im_int, im_str, im_bl, im_non, im_tup, im_fz, im_lst, im_obj, imAll_nil, imAll_cons, mu_lst, mu_obj, gd_pos, gd_tr, mulT_i, modT_i, fdivT_i, powT_i, ltT_i, gtT_i, geT_i, minT_i, ixT_lst, ixT_fz, ixT_tup, lenT_lst, lenT_fz, lenT_tup, isN_non, isN_int, isN_nd, isN_str, ↓sMut_q, kMu_ok, kM0_q, kM1_q, kM2_q, kM3_q, setM_q, kSM_q, ob_some, sl, atI, ixN, ↓pFld_q, kF1_q, kF2_q, kF3_q, kF4_q, ↓eMeth_q, kMe_q, kMe2_q, ↓eMethP_q, kMP_q, kMP1_q, kMP2_q, kMP3_q, putB_q, kPB_q, ↓eMake_q, kMk_q, kMk2_q, kMk3_q, ↓eMutV_q, kLV0_q, kLV_q, kLV1_q, kLV2_q, kLV3_q, isLst_q, ↓eMutP_q, kLP_q, kLP0_q, kLP1_q, kLP2_q, kLP3_q, kLP4_q, appM_q, popM_q, kPop_q, putFM_q, kPF_s, kPF_n, ↓sForR_q, kFR_q, ↓sForE_q, kFE_q, kFE2_q, seqO_lst, seqO_fz, seqO_tup, ↓sForP_q, kFP_q, kFP1_q, kFP2_q, kFP3_q, kFP4_q, eqT_ii, neT_ii, inT_ints, notInT_ints, kL1_q, kL2_nx, kL2_ct, kL2_bk, kL2_rt, runL_nil, runL_cons, tgN_q, lcFrom_q, kLc_q, lcEnd_q, kLcE_q, wipeS_nil, wipeS_cons, restS_nil, restS_cons, kRs_n, kRs_s, listT_lst, listT_fz, listT_tup, isi_ii, isi_ib, isi_ll, eqT_pl, neT_pl, kSet_ex, kRet_ex, kExpr_ex, sRaise_q, ↓sTryK_q, kTry_ex, kTry_nx, kTry_rt, kTry2_q, setAll_n, setAll_c, augM_ints, ↓nLst_q, kNL_q, kNL2_q, ↓eLcR_q, kLR_q, mulT_l, lrgT_q, eqT_ln, neT_ln, rep_ints, get_int, set_int, app_int, teq_int, teq_str, teq_non, teq_tnil, teq_tcons, teq_li, ixA_lst, ixA_fz, ixA_tup, ixA_str, ixB_lst, ixB_fz, ixB_tup, ixB_dK, ixB_dT, kDo_s, dix_Ki, dix_Ks, dix_T, kDt_q, keysT_n, keysT_i, keysT_s, kKc_q, isDi_K, isDi_T, isDi_l, ixB_fK, dix_Fi, dix_Fs, mu_fK, im_fK, im_any, ↓sSetA_q, kSA_ok, kSA_ex, kSA0_q, kSA1_q, kSA2_q, kSA3_q, kSA4_q, setA_l, setA_Ki, setA_Ks, setA_T, kSt_q, mu_dK, mu_dT, im_dK, im_dT, inA_l, inA_t, inA_f, notInA_l, notInA_t, notInA_f, negT_i, ↓bNot_q, kBNot_q, ↓bAnd_q, kBAnd_q, bYes_q, lcN_q, kNlc_q, ↓bLc_q, kBL_q, kBLc_q, addA_i, addA_s, addA_ll, addA_fl, addA_tt, isB_bl, isB_non, isB_int, isB_str, isB_nd, isN_bl, addA_lf, beq_tt, beq_tf, beq_ft, beq_ff, Option.getD_none, eYes_q, tgT_tup, tupleT_lst, tupleT_tup, ↓ixB_fl, ↓setA_fl, ↓atI_fl, fl_get, fl_set, fl_getD, kAnd_ex, kOr_ex, kNot_ex, kIf_ex, kOpB_ex, kA1_ex, kD1_ex, up_id, ↓bLkD_q, kLD0_q, kLD1_q, kLD2_q, kLD3_q, kLD4_q, neL_l, neL_f, ↓sForL_q, ↓sForJ_q, ↓eLkL_q, kLL0_q, kLL1_q, kLL3_q, ↓bLst3_q, kL3a_q, kL3b_q, kL3c_q, List.length_set, beq_self_eq_true, getD_set, and_true, true_and, or_true, true_or, and_self, List.map_cons, List.map_nil, List.eraseIdx_cons_zero, List.length_cons, List.length_nil, List.length_map, List.replicate, List.append_nil, List.cons_append, List.nil_append, List.getElem?_cons_zero, List.getElem?_cons_succ, List.set_cons_zero, List.set_cons_succ, List.getD_cons_zero, List.getD_cons_succ, Option.getD_some, List.take, Nat.reduceSub, Nat.reduceAdd, Nat.reduceEqDiff, if_true, if_false, reduceIte, if_pos, if_neg, Int.toNat_zero, Int.toNat_one, Int.reduceLT, Int.reduceLE, Int.reduceToNat, List.tail_cons, Nat.zero_add, Nat.reduceLeDiff, Nat.reduceLT, Bool.and_true, Bool.true_and, Bool.and_self, Bool.not_true, Bool.not_false, decide_eq_true_eq, decide_true, decide_false, Bool.false_eq_true, c0_coming, i0_coming, c0_pending, i0_pending, j0_coming, j0_pending, io0_begin, io0_holds, io0_answered, io0_waiting, io0_is_told, kn9, im_ints, nc2, eqT_bb, neT_bb, rg_len, ne_ii, dd_im, ↓io0t, dd_told_ex])
theorem told_eq (d : Dd) (n : Int) (h : n < 0 ∨ d.coming ≤ n) : m_law_told [ddT d, .int n] = some (.ok (.nd .lst [.str "NoDeed+", .non]), [ddT d, .int n]) := by
  unfold m_law_told b_law_told
  walk_at "vt"
end K05
namespace K05
open PySem L2 VT
abbrev wrT (d : De) : T := .nd .tup [.int d.n, tuT d.hs]
theorem wr_pl (d : De) : plT 7 (wrT d) = true := by
  show (plT 6 (.int d.n) && (plT 6 (tuT d.hs) && true)) = true
  rw [tu_pl]; rfl
theorem wa_ne (l : List De) : neT (waT l) (waT l) = some (.bl false) := neT_self (pl_map wr_pl l)
theorem wr_nk (d : De) : (wrT d).nk = true := by
  show ((T.int d.n).nk && ((tuT d.hs).nk && true)) = true
  rw [tu_nk]; rfl
theorem wa_nk (l : List De) : (T.nd .lst (l.map wrT)).nk = true := nkm wr_nk l
theorem wrs_im (l : List De) : T.imAll (l.map wrT) = true := im_map (fun d => by simp only [im_tup, imAll_cons, im_int, tu_im, imAll_nil, Bool.and_true, Bool.and_self]) l
theorem fl_all (l : List De) : l.filter (fun _ => true) = l := List.filter_eq_self.mpr fun _ _ => rfl
theorem mpn (l : List De) : (l.map fun d => T.int d.n) = (l.map (·.n)).map .int := by rw [List.map_map]; rfl
theorem nk_ns (l : List De) : (T.nd .lst (l.map fun d => T.int d.n)).nk = true := nkm (fun _ => rfl) l
theorem wa_ne' (l : List De) : neT (waT l) (.nd .lst (l.map wrT)) = some (.bl false) := wa_ne l
theorem isi_wa (l : List De) : isiT "list" (waT l) = some (.bl true) := rfl
local macro_rules | `(tactic| walk_at "vtd") => `(tactic| first | omega | assumption | (simp only [List.length_set]; omega) | (simp only [plT, plAll, plI, Bool.and_true, Bool.and_self, ofS_ok, dg_ok]; done))
local macro_rules | `(tactic| walk_at "vt") => `(tactic| simp (disch := walk_at "vtd") only [↓eOp_q, kOp1_ok, kOp2_ok, kEn_q, ↓eOpB_q, kOpB_ok, kB1_q, ↓eUn_q, kUn_ok, ↓eOfN_q, ↓bOp_q, kBop_q, ↓bUn_q, ↓bOfP_q, kPl_q, kAt_q, tAt_nil, tAt_nd, nC_q, ↓nOfB_q, pVar_q, kPV_q, eVar_q, kVar_q, ↓sSeq_q, kSeq_nx, kSeq_rt, kSeq_ex, kSeq_bk, kSeq_ct, ↓sSet_q, kSet_ok, ↓sRet_q, kRet_ok, ↓sExpr_q, kExpr_ok, sNil_q, ↓sIf_q, kIf_q, ↓eNot_q, kNot_q, ↓eAnd_q, kAnd_q, ↓eOr_q, kOr_q, aNil_q, ↓aVal_q, kA1_ok, kA2_ok, ↓aRef_q, kAr_q, kAr2_ok, argOf_q, kArg_q, ↓eDisp_q, kD1_ok, kD2_q, valsOf_nil, valsOf_val, kVl_q, ↓eCall_q, kCall_ok, callR_q, kC1_q, kC2_q, argT_nil, argT_val, argT_pth, kAT1_q, kAT2_q, putB_nil, putB_val, tPut_nil, tPut_nd, ↓nTup_q, kNT_q, kNT2_q, baNil_q, ↓baVal_q, kBV_q, kBV2_q, ↓baRef_q, kBR_q, kBR2_q, ↓mBody_q, kBody_q, kBody2_nx, kBody2_rt, kBody2_ex, allS_nil, allS_some, imO_int, imO_str, imO_bl, imO_non, imO_tup, im_int, im_str, im_bl, im_non, im_tup, im_fz, im_lst, im_obj, imAll_nil, imAll_cons, mu_lst, mu_obj, gd_pos, gd_tr, mulT_i, modT_i, fdivT_i, powT_i, ltT_i, gtT_i, geT_i, minT_i, ixT_lst, ixT_fz, ixT_tup, lenT_lst, lenT_fz, lenT_tup, isN_non, isN_int, isN_nd, isN_str, ↓sMut_q, kMu_ok, kM0_q, kM1_q, kM2_q, kM3_q, setM_q, kSM_q, ob_some, sl, atI, ixN, ↓pFld_q, kF1_q, kF2_q, kF3_q, kF4_q, ↓eMeth_q, kMe_q, kMe2_q, ↓eMethP_q, kMP_q, kMP1_q, kMP2_q, kMP3_q, putB_q, kPB_q, ↓eMake_q, kMk_q, kMk2_q, kMk3_q, ↓eMutV_q, kLV0_q, kLV_q, kLV1_q, kLV2_q, kLV3_q, isLst_q, ↓eMutP_q, kLP_q, kLP0_q, kLP1_q, kLP2_q, kLP3_q, kLP4_q, appM_q, popM_q, kPop_q, putFM_q, kPF_s, kPF_n, ↓sForR_q, kFR_q, ↓sForE_q, kFE_q, kFE2_q, seqO_lst, seqO_fz, seqO_tup, ↓sForP_q, kFP_q, kFP1_q, kFP2_q, kFP3_q, kFP4_q, eqT_ii, neT_ii, inT_ints, notInT_ints, kL1_q, kL2_nx, kL2_ct, kL2_bk, kL2_rt, runL_nil, runL_cons, tgN_q, lcFrom_q, kLc_q, lcEnd_q, kLcE_q, wipeS_nil, wipeS_cons, restS_nil, restS_cons, kRs_n, kRs_s, listT_lst, listT_fz, listT_tup, isi_ii, isi_ib, isi_ll, eqT_pl, neT_pl, kSet_ex, kRet_ex, kExpr_ex, sRaise_q, ↓sTryK_q, kTry_ex, kTry_nx, kTry_rt, kTry2_q, setAll_n, setAll_c, augM_ints, ↓nLst_q, kNL_q, kNL2_q, ↓eLcR_q, kLR_q, mulT_l, lrgT_q, eqT_ln, neT_ln, rep_ints, get_int, set_int, app_int, teq_int, teq_str, teq_non, teq_tnil, teq_tcons, teq_li, ixA_lst, ixA_fz, ixA_tup, ixA_str, ixB_lst, ixB_fz, ixB_tup, ixB_dK, ixB_dT, kDo_s, dix_Ki, dix_Ks, dix_T, kDt_q, keysT_n, keysT_i, keysT_s, kKc_q, isDi_K, isDi_T, isDi_l, ixB_fK, dix_Fi, dix_Fs, mu_fK, im_fK, im_any, ↓sSetA_q, kSA_ok, kSA_ex, kSA0_q, kSA1_q, kSA2_q, kSA3_q, kSA4_q, setA_l, setA_Ki, setA_Ks, setA_T, kSt_q, mu_dK, mu_dT, im_dK, im_dT, inA_l, inA_t, inA_f, notInA_l, notInA_t, notInA_f, negT_i, ↓bNot_q, kBNot_q, ↓bAnd_q, kBAnd_q, bYes_q, lcN_q, kNlc_q, ↓bLc_q, kBL_q, kBLc_q, addA_i, addA_s, addA_ll, addA_fl, addA_tt, isB_bl, isB_non, isB_int, isB_str, isB_nd, isN_bl, addA_lf, beq_tt, beq_tf, beq_ft, beq_ff, Option.getD_none, eYes_q, tgT_tup, tupleT_lst, tupleT_tup, ↓ixB_fl, ↓setA_fl, ↓atI_fl, fl_get, fl_set, fl_getD, kAnd_ex, kOr_ex, kNot_ex, kIf_ex, kOpB_ex, kA1_ex, kD1_ex, up_id, ↓bLkD_q, kLD0_q, kLD1_q, kLD2_q, kLD3_q, kLD4_q, neL_l, neL_f, ↓sForL_q, ↓sForJ_q, ↓eLkL_q, kLL0_q, kLL1_q, kLL3_q, ↓bLst3_q, kL3a_q, kL3b_q, kL3c_q, List.length_set, beq_self_eq_true, getD_set, and_true, true_and, or_true, true_or, and_self, List.map_cons, List.map_nil, List.eraseIdx_cons_zero, List.length_cons, List.length_nil, List.length_map, List.replicate, List.append_nil, List.cons_append, List.nil_append, List.getElem?_cons_zero, List.getElem?_cons_succ, List.set_cons_zero, List.set_cons_succ, List.getD_cons_zero, List.getD_cons_succ, Option.getD_some, List.take, Nat.reduceSub, Nat.reduceAdd, Nat.reduceEqDiff, if_true, if_false, reduceIte, if_pos, if_neg, Int.toNat_zero, Int.toNat_one, Int.reduceLT, Int.reduceLE, Int.reduceToNat, List.tail_cons, Nat.zero_add, Nat.reduceLeDiff, Nat.reduceLT, Bool.and_true, Bool.true_and, Bool.and_self, Bool.not_true, Bool.not_false, decide_eq_true_eq, decide_true, decide_false, Bool.false_eq_true, c0_coming, i0_coming, c0_pending, i0_pending, j0_coming, j0_pending, io0_begin, io0_holds, io0_answered, io0_waiting, io0_is_told, kn9, im_ints, nc2, eqT_bb, neT_bb, rg_len, ne_ii, dd_im, ↓io0w, ↓pq_lk, ↓fq_im, ↓fqs_im, ↓fq_imO, ↓ixB_fq0, ↓ixB_fq4, ↓tup_f, tu_im, tu_imO, ↓wa_nk, ↓nk_ns, ↓wa_ne', ↓isi_wa, dd_waiting])
theorem st_0 (c wide : Int) (l : List De) (hl : l.length < 1000) : (sSet 4 (eMethP m_Deeds_waiting 1 0 "waiting" (pVar 0) baNil)) [some (ddT ⟨c, l⟩), some (.int c), some (pqT l), some (.int wide), none, none, none, none, none, none] = some (.nx, [some (ddT ⟨c, l⟩), some (.int c), some (pqT l), some (.int wide), some (waT l), none, none, none, none, none]) := by
  have h : (Dd.mk c l).pend.length < 100000 := by show l.length < 100000; omega
  walk_at "vt"
theorem st_1 (D C Wd : T) (l : List De) (hl : l.length < 1000) : (sIf (eOr (eNot (eOfN (bUn (isiT "list") (bOfP (pVar 4))))) (eOfN (bOp neT (bOfP (pVar 4)) (bLkD (pVar 2) (bLc [9] (tgN 9) (bOfP (pVar 2)) bYes (nTup (baVal (nOfB (bOp ixB (bOfP (pVar 9)) (nC (.int 0)))) (baVal (bUn tupleT (bOp ixB (bOfP (pVar 9)) (nC (.int 4)))) baNil)))))))) (sRet (eOfN (nC (.bl false)))) sNil) [some D, some C, some (pqT l), some Wd, some (waT l), none, none, none, none, none] = some (.nx, [some D, some C, some (pqT l), some Wd, some (waT l), none, none, none, none, none]) := by
  have hz : l.length < 100000 := by omega
  have e : runN (tgN 9) bYes (nTup (baVal (nOfB (bOp ixB (bOfP (pVar 9)) (nC (.int 0)))) (baVal (bUn tupleT (bOp ixB (bOfP (pVar 9)) (nC (.int 4)))) baNil))) (l.map fqT) [some D, some C, some (.nd .fz (l.map fqT)), some Wd, some (waT l), none, none, none, none, none] = some ((l.filter fun _ => true).map wrT) := by
    refine runN_pure (gx := fqT) (q := fun _ => true) (h := wrT) (fun d => [some D, some C, some (.nd .fz (l.map fqT)), some Wd, some (waT l), none, none, none, none, some (fqT d)]) l (fun c _ => ?_) (fun c _ => rfl) fun c _ _ => ?_
    · walk_at "vt"
    · walk_at "vt"
  rw [fl_all] at e
  walk_at "vt"
  rw [e]
  walk_at "vt"
theorem st_2 (D C P Wd : T) (l : List De) (hl : l.length < 1000) : (sExpr (eMutV appM 4 (aVal (eOfN (nTup (baVal (nC (.int 0)) (baVal (nTup (baVal (nC (.int 1)) baNil)) baNil)))) aNil))) [some D, some C, some P, some Wd, some (waT l), none, none, none, none, none] = some (.nx, [some D, some C, some P, some Wd, some (.nd .lst (l.map wrT ++ [.nd .tup [.int 0, .nd .tup [.int 1]]])), none, none, none, none, none]) := by
  have hz : (l.map wrT).length < 100000 := by rw [List.length_map]; omega
  have im := wrs_im l
  unfold waT
  walk_at "vt"
theorem st_3 (D C Wd o4 : T) (l : List De) (hl : l.length < 1000) : (sSet 5 (eOfN (bLkD (pVar 2) (bLc [9] (tgN 9) (bOfP (pVar 2)) bYes (nOfB (bOp ixB (bOfP (pVar 9)) (nC (.int 0)))))))) [some D, some C, some (pqT l), some Wd, some o4, none, none, none, none, none] = some (.nx, [some D, some C, some (pqT l), some Wd, some o4, some (liT (l.map (·.n))), none, none, none, none]) := by
  have hz : l.length < 100000 := by omega
  have e : runN (tgN 9) bYes (nOfB (bOp ixB (bOfP (pVar 9)) (nC (.int 0)))) (l.map fqT) [some D, some C, some (.nd .fz (l.map fqT)), some Wd, some o4, none, none, none, none, none] = some ((l.filter fun _ => true).map fun d => .int d.n) := by
    refine runN_pure (gx := fqT) (q := fun _ => true) (h := fun d => .int d.n) (fun d => [some D, some C, some (.nd .fz (l.map fqT)), some Wd, some o4, none, none, none, none, some (fqT d)]) l (fun c _ => ?_) (fun c _ => rfl) fun c _ _ => ?_
    · walk_at "vt"
    · walk_at "vt"
  rw [fl_all] at e
  walk_at "vt"
  rw [e]
  walk_at "vt"
  rw [mpn]
theorem nIn {n : Int} {l : List Int} : notInA (.int n) (liT l) = some (.bl (decide (¬ n ∈ l))) := notInA_l1
theorem dd_told' (c : Int) (l : List De) (n : Int) (h0 : 0 ≤ n) (h1 : n < c) (hl : l.length < 100000) : m_Deeds_is_told [ddT ⟨c, l⟩, .int n] = some (.ok (.bl (decide (¬ n ∈ l.map (·.n)))), [ddT ⟨c, l⟩, .int n]) := by
  rw [dd_told ⟨c, l⟩ n h0 h1 hl]
  unfold Dd.waits
  rw [decide_not]
theorem told_eq' (c : Int) (l : List De) (n : Int) (h : n < 0 ∨ c ≤ n) : m_law_told [ddT ⟨c, l⟩, .int n] = some (.ok (.nd .lst [.str "NoDeed+", .non]), [ddT ⟨c, l⟩, .int n]) := told_eq ⟨c, l⟩ n h
theorem ne_nd : neT (.nd .lst [.str "NoDeed+", .non]) (.nd .lst [.str "NoDeed+", .non]) = some (.bl false) := neT_self (by decide +kernel)
theorem nd_ok : PyData.strOk "NoDeed+" = true := by decide +kernel
theorem holds' (c : Int) (l : List De) (s p : Int) : m_Deeds_holds [ddT ⟨c, l⟩, .int s, .int p] = some (.ok (.bl (heldL s p l)), [ddT ⟨c, l⟩, .int s, .int p]) := dd_holds ⟨c, l⟩ s p
theorem wa_len (l : List De) : lenT (waT l) = some (.int (l.length : Int)) := by unfold waT; rw [lenT_lst, List.length_map]
theorem pq_len (l : List De) : lenT (pqT l) = some (.int (l.length : Int)) := by unfold pqT; rw [lenT_lst, List.length_map]
local macro_rules | `(tactic| walk_at "vtd") => `(tactic| first | omega | assumption | (simp only [List.length_set]; omega) | (simp only [plT, plAll, plI, Bool.and_true, Bool.and_self, ofS_ok, dg_ok, nd_ok]; done))
local macro_rules | `(tactic| walk_at "vt") => `(tactic| simp (disch := walk_at "vtd") only [↓eOp_q, kOp1_ok, kOp2_ok, kEn_q, ↓eOpB_q, kOpB_ok, kB1_q, ↓eUn_q, kUn_ok, ↓eOfN_q, ↓bOp_q, kBop_q, ↓bUn_q, ↓bOfP_q, kPl_q, kAt_q, tAt_nil, tAt_nd, nC_q, ↓nOfB_q, pVar_q, kPV_q, eVar_q, kVar_q, ↓sSeq_q, kSeq_nx, kSeq_rt, kSeq_ex, kSeq_bk, kSeq_ct, ↓sSet_q, kSet_ok, ↓sRet_q, kRet_ok, ↓sExpr_q, kExpr_ok, sNil_q, ↓sIf_q, kIf_q, ↓eNot_q, kNot_q, ↓eAnd_q, kAnd_q, ↓eOr_q, kOr_q, aNil_q, ↓aVal_q, kA1_ok, kA2_ok, ↓aRef_q, kAr_q, kAr2_ok, argOf_q, kArg_q, ↓eDisp_q, kD1_ok, kD2_q, valsOf_nil, valsOf_val, kVl_q, ↓eCall_q, kCall_ok, callR_q, kC1_q, kC2_q, argT_nil, argT_val, argT_pth, kAT1_q, kAT2_q, putB_nil, putB_val, tPut_nil, tPut_nd, ↓nTup_q, kNT_q, kNT2_q, baNil_q, ↓baVal_q, kBV_q, kBV2_q, ↓baRef_q, kBR_q, kBR2_q, ↓mBody_q, kBody_q, kBody2_nx, kBody2_rt, kBody2_ex, allS_nil, allS_some, imO_int, imO_str, imO_bl, imO_non, imO_tup, im_int, im_str, im_bl, im_non, im_tup, im_fz, im_lst, im_obj, imAll_nil, imAll_cons, mu_lst, mu_obj, gd_pos, gd_tr, mulT_i, modT_i, fdivT_i, powT_i, ltT_i, gtT_i, geT_i, minT_i, ixT_lst, ixT_fz, ixT_tup, lenT_lst, lenT_fz, lenT_tup, isN_non, isN_int, isN_nd, isN_str, ↓sMut_q, kMu_ok, kM0_q, kM1_q, kM2_q, kM3_q, setM_q, kSM_q, ob_some, sl, atI, ixN, ↓pFld_q, kF1_q, kF2_q, kF3_q, kF4_q, ↓eMeth_q, kMe_q, kMe2_q, ↓eMethP_q, kMP_q, kMP1_q, kMP2_q, kMP3_q, putB_q, kPB_q, ↓eMake_q, kMk_q, kMk2_q, kMk3_q, ↓eMutV_q, kLV0_q, kLV_q, kLV1_q, kLV2_q, kLV3_q, isLst_q, ↓eMutP_q, kLP_q, kLP0_q, kLP1_q, kLP2_q, kLP3_q, kLP4_q, appM_q, popM_q, kPop_q, putFM_q, kPF_s, kPF_n, ↓sForR_q, kFR_q, ↓sForE_q, kFE_q, kFE2_q, seqO_lst, seqO_fz, seqO_tup, ↓sForP_q, kFP_q, kFP1_q, kFP2_q, kFP3_q, kFP4_q, eqT_ii, neT_ii, inT_ints, notInT_ints, kL1_q, kL2_nx, kL2_ct, kL2_bk, kL2_rt, runL_nil, runL_cons, tgN_q, lcFrom_q, kLc_q, lcEnd_q, kLcE_q, wipeS_nil, wipeS_cons, restS_nil, restS_cons, kRs_n, kRs_s, listT_lst, listT_fz, listT_tup, isi_ii, isi_ib, isi_ll, eqT_pl, neT_pl, kSet_ex, kRet_ex, kExpr_ex, sRaise_q, ↓sTryK_q, kTry_ex, kTry_nx, kTry_rt, kTry2_q, setAll_n, setAll_c, augM_ints, ↓nLst_q, kNL_q, kNL2_q, ↓eLcR_q, kLR_q, mulT_l, lrgT_q, eqT_ln, neT_ln, rep_ints, get_int, set_int, app_int, teq_int, teq_str, teq_non, teq_tnil, teq_tcons, teq_li, ixA_lst, ixA_fz, ixA_tup, ixA_str, ixB_lst, ixB_fz, ixB_tup, ixB_dK, ixB_dT, kDo_s, dix_Ki, dix_Ks, dix_T, kDt_q, keysT_n, keysT_i, keysT_s, kKc_q, isDi_K, isDi_T, isDi_l, ixB_fK, dix_Fi, dix_Fs, mu_fK, im_fK, im_any, ↓sSetA_q, kSA_ok, kSA_ex, kSA0_q, kSA1_q, kSA2_q, kSA3_q, kSA4_q, setA_l, setA_Ki, setA_Ks, setA_T, kSt_q, mu_dK, mu_dT, im_dK, im_dT, inA_l, inA_t, inA_f, notInA_l, notInA_t, notInA_f, negT_i, ↓bNot_q, kBNot_q, ↓bAnd_q, kBAnd_q, bYes_q, lcN_q, kNlc_q, ↓bLc_q, kBL_q, kBLc_q, addA_i, addA_s, addA_ll, addA_fl, addA_tt, isB_bl, isB_non, isB_int, isB_str, isB_nd, isN_bl, addA_lf, beq_tt, beq_tf, beq_ft, beq_ff, Option.getD_none, eYes_q, tgT_tup, tupleT_lst, tupleT_tup, ↓ixB_fl, ↓setA_fl, ↓atI_fl, fl_get, fl_set, fl_getD, kAnd_ex, kOr_ex, kNot_ex, kIf_ex, kOpB_ex, kA1_ex, kD1_ex, up_id, ↓bLkD_q, kLD0_q, kLD1_q, kLD2_q, kLD3_q, kLD4_q, neL_l, neL_f, ↓sForL_q, ↓sForJ_q, ↓eLkL_q, kLL0_q, kLL1_q, kLL3_q, ↓bLst3_q, kL3a_q, kL3b_q, kL3c_q, List.length_set, beq_self_eq_true, getD_set, and_true, true_and, or_true, true_or, and_self, List.map_cons, List.map_nil, List.eraseIdx_cons_zero, List.length_cons, List.length_nil, List.length_map, List.replicate, List.append_nil, List.cons_append, List.nil_append, List.getElem?_cons_zero, List.getElem?_cons_succ, List.set_cons_zero, List.set_cons_succ, List.getD_cons_zero, List.getD_cons_succ, Option.getD_some, List.take, Nat.reduceSub, Nat.reduceAdd, Nat.reduceEqDiff, if_true, if_false, reduceIte, if_pos, if_neg, Int.toNat_zero, Int.toNat_one, Int.reduceLT, Int.reduceLE, Int.reduceToNat, List.tail_cons, Nat.zero_add, Nat.reduceLeDiff, Nat.reduceLT, Bool.and_true, Bool.true_and, Bool.and_self, Bool.not_true, Bool.not_false, decide_eq_true_eq, decide_true, decide_false, Bool.false_eq_true, c0_coming, i0_coming, c0_pending, i0_pending, j0_coming, j0_pending, io0_begin, io0_holds, io0_answered, io0_waiting, io0_is_told, kn9, im_ints, nc2, eqT_bb, neT_bb, rg_len, ne_ii, dd_im, ↓io0t, ↓io0h, ↓io0w, pq_im, held_eq, holds', told_eq', dd_told', ↓nIn, truth_eq, ↓ne_nd, ↓wa_len, ↓pq_len, dd_waiting])
theorem st_4 (c wide : Int) (l : List De) (hl : l.length < 1000) (hc : c < 1000) (h0 : 0 ≤ c) (o4 : T) : ∃ o6, (sForR (tgN 6) (eVar 1) (sIf (eNot (eCall m_law_truth 2 (aVal (eMeth m_Deeds_is_told 2 0 "is_told" 0 (aRef 6 aNil)) (aVal (eOfN (bOp notInA (bOfP (pVar 6)) (bOfP (pVar 5)))) aNil)))) (sRet (eOfN (nC (.bl false)))) sNil)) [some (ddT ⟨c, l⟩), some (.int c), some (pqT l), some (.int wide), some o4, some (liT (l.map (·.n))), none, none, none, none] = some (.nx, [some (ddT ⟨c, l⟩), some (.int c), some (pqT l), some (.int wide), some o4, some (liT (l.map (·.n))), o6, none, none, none]) := by
  have hz : l.length < 100000 := by omega
  obtain ⟨S', e, o6, hS⟩ := runL_inv (tf := tgN 6) (body := (sIf (eNot (eCall m_law_truth 2 (aVal (eMeth m_Deeds_is_told 2 0 "is_told" 0 (aRef 6 aNil)) (aVal (eOfN (bOp notInA (bOfP (pVar 6)) (bOfP (pVar 5)))) aNil)))) (sRet (eOfN (nC (.bl false)))) sNil)) (I := fun _ S => ∃ o6 : Option T, S = [some (ddT ⟨c, l⟩), some (.int c), some (pqT l), some (.int wide), some o4, some (liT (l.map (·.n))), o6, none, none, none]) (rgT c) [some (ddT ⟨c, l⟩), some (.int c), some (pqT l), some (.int wide), some o4, some (liT (l.map (·.n))), none, none, none, none] ⟨none, rfl⟩ (by
      rintro k t S ht ⟨o6, rfl⟩
      rw [rgT_ints] at ht
      obtain ⟨i, hi, rfl⟩ := List.mem_map.mp ht
      have hi := mem_rgI.mp hi
      refine ⟨_, [some (ddT ⟨c, l⟩), some (.int c), some (pqT l), some (.int wide), some o4, some (liT (l.map (·.n))), some (.int i), none, none, none], rfl, ?_, some (.int i), rfl⟩
      show (sIf (eNot (eCall m_law_truth 2 (aVal (eMeth m_Deeds_is_told 2 0 "is_told" 0 (aRef 6 aNil)) (aVal (eOfN (bOp notInA (bOfP (pVar 6)) (bOfP (pVar 5)))) aNil)))) (sRet (eOfN (nC (.bl false)))) sNil) [some (ddT ⟨c, l⟩), some (.int c), some (pqT l), some (.int wide), some o4, some (liT (l.map (·.n))), some (.int i), none, none, none] = _
      walk_at "vt")
  refine ⟨o6, ?_⟩
  rw [← hS, ← e]
  walk_at "vt"
theorem st_5 (c wide : Int) (l : List De) (hc : c < 1000) (h0 : 0 ≤ c) (o4 o5 : T) (o6 : Option T) : ∃ o6', (sForE (tgN 6) (eDisp .lst (aVal (eVar 1) (aVal (eOfN (bUn negT (nC (.int 1)))) (aVal (eOfN (bOp powT (nC (.int 10)) (nC (.int 39)))) aNil)))) (sIf (eOpB neT (eCall m_law_told 2 (aRef 0 (aRef 6 aNil))) (nLst (baVal (nC (.str "NoDeed+")) (baVal (nC .non) baNil)))) (sRet (eOfN (nC (.bl false)))) sNil)) [some (ddT ⟨c, l⟩), some (.int c), some (pqT l), some (.int wide), some o4, some o5, o6, none, none, none] = some (.nx, [some (ddT ⟨c, l⟩), some (.int c), some (pqT l), some (.int wide), some o4, some o5, o6', none, none, none]) := by
  refine ⟨some (.int (10 ^ 39)), ?_⟩
  have hten : (1000 : Int) ≤ 10 ^ 39 := by decide
  have h1 : (10 : Int) ^ 39 < 0 ∨ c ≤ (10 : Int) ^ 39 := .inr (Int.le_trans (Int.le_of_lt hc) hten)
  walk_at "vt"
theorem in_6 (c wide s : Int) (l : List De) (hl : l.length < 1000) (o4 o5 : T) (o6 o8 : Option T) (h0 : 0 ≤ wide) (h1 : wide ≤ 30) : ∃ o8', (sForR (tgN 8) (eVar 3) (sIf (eNot (eCall m_law_truth 2 (aVal (eMeth m_Deeds_holds 3 0 "holds" 0 (aRef 7 (aRef 8 aNil))) (aVal (eCall m_law_held 3 (aRef 2 (aRef 7 (aRef 8 aNil)))) aNil)))) (sRet (eOfN (nC (.bl false)))) sNil)) [some (ddT ⟨c, l⟩), some (.int c), some (pqT l), some (.int wide), some o4, some o5, o6, some (.int s), o8, none] = some (.nx, [some (ddT ⟨c, l⟩), some (.int c), some (pqT l), some (.int wide), some o4, some o5, o6, some (.int s), o8', none]) := by
  have hz : l.length < 100000 := by omega
  obtain ⟨S', e, o8', hS⟩ := runL_inv (tf := tgN 8) (body := (sIf (eNot (eCall m_law_truth 2 (aVal (eMeth m_Deeds_holds 3 0 "holds" 0 (aRef 7 (aRef 8 aNil))) (aVal (eCall m_law_held 3 (aRef 2 (aRef 7 (aRef 8 aNil)))) aNil)))) (sRet (eOfN (nC (.bl false)))) sNil)) (I := fun _ S => ∃ o8 : Option T, S = [some (ddT ⟨c, l⟩), some (.int c), some (pqT l), some (.int wide), some o4, some o5, o6, some (.int s), o8, none]) (rgT wide) [some (ddT ⟨c, l⟩), some (.int c), some (pqT l), some (.int wide), some o4, some o5, o6, some (.int s), o8, none] ⟨o8, rfl⟩ (by
      rintro k t S ht ⟨o8, rfl⟩
      rw [rgT_ints] at ht
      obtain ⟨i, hi, rfl⟩ := List.mem_map.mp ht
      refine ⟨_, [some (ddT ⟨c, l⟩), some (.int c), some (pqT l), some (.int wide), some o4, some o5, o6, some (.int s), some (.int i), none], rfl, ?_, some (.int i), rfl⟩
      show (sIf _ _ _) [some (ddT ⟨c, l⟩), some (.int c), some (pqT l), some (.int wide), some o4, some o5, o6, some (.int s), some (.int i), none] = _
      walk_at "vt")
  refine ⟨o8', ?_⟩
  rw [← hS, ← e]
  walk_at "vt"
theorem st_6 (c wide : Int) (l : List De) (hl : l.length < 1000) (o4 o5 : T) (o6 : Option T) (h0 : 0 ≤ wide) (h1 : wide ≤ 30) : ∃ o7 o8, (sForR (tgN 7) (eOfN (nC (.int 4))) (sForR (tgN 8) (eVar 3) (sIf (eNot (eCall m_law_truth 2 (aVal (eMeth m_Deeds_holds 3 0 "holds" 0 (aRef 7 (aRef 8 aNil))) (aVal (eCall m_law_held 3 (aRef 2 (aRef 7 (aRef 8 aNil)))) aNil)))) (sRet (eOfN (nC (.bl false)))) sNil))) [some (ddT ⟨c, l⟩), some (.int c), some (pqT l), some (.int wide), some o4, some o5, o6, none, none, none] = some (.nx, [some (ddT ⟨c, l⟩), some (.int c), some (pqT l), some (.int wide), some o4, some o5, o6, o7, o8, none]) := by
  obtain ⟨S', e, o7, o8, hS⟩ := runL_inv (tf := tgN 7) (body := (sForR (tgN 8) (eVar 3) (sIf (eNot (eCall m_law_truth 2 (aVal (eMeth m_Deeds_holds 3 0 "holds" 0 (aRef 7 (aRef 8 aNil))) (aVal (eCall m_law_held 3 (aRef 2 (aRef 7 (aRef 8 aNil)))) aNil)))) (sRet (eOfN (nC (.bl false)))) sNil))) (I := fun _ S => ∃ o7 o8 : Option T, S = [some (ddT ⟨c, l⟩), some (.int c), some (pqT l), some (.int wide), some o4, some o5, o6, o7, o8, none]) (rgT 4) [some (ddT ⟨c, l⟩), some (.int c), some (pqT l), some (.int wide), some o4, some o5, o6, none, none, none] ⟨none, none, rfl⟩ (by
      rintro k t S ht ⟨o7, o8, rfl⟩
      rw [rgT_ints] at ht
      obtain ⟨i, hi, rfl⟩ := List.mem_map.mp ht
      obtain ⟨o8', e⟩ := in_6 c wide i l hl o4 o5 o6 o8 h0 h1
      exact ⟨_, _, rfl, e, some (.int i), o8', rfl⟩)
  refine ⟨o7, o8, ?_⟩
  rw [← hS, ← e]
  walk_at "vt"
theorem st_7 (c wide : Int) (l : List De) (hl : l.length < 1000) (o4 o5 : T) (o6 o7 o8 : Option T) : (sRet (eOpB eqT (eUn lenT (eMethP m_Deeds_waiting 1 0 "waiting" (pVar 0) baNil)) (bUn lenT (bOfP (pVar 2))))) [some (ddT ⟨c, l⟩), some (.int c), some (pqT l), some (.int wide), some o4, some o5, o6, o7, o8, none] = some (.rt (.bl true), [some (ddT ⟨c, l⟩), some (.int c), some (pqT l), some (.int wide), some o4, some o5, o6, o7, o8, none]) := by
  have h : (Dd.mk c l).pend.length < 100000 := by show l.length < 100000; omega
  walk_at "vt"
theorem stands_eq (c wide : Int) (l : List De) (hl : l.length < 1000) (hc : c < 1000) (hc0 : 0 ≤ c) (h0 : 0 ≤ wide) (h1 : wide ≤ 30) : m_law_stands [ddT ⟨c, l⟩, .int c, pqT l, .int wide] = some (.ok (.bl true), [ddT ⟨c, l⟩, .int c, pqT l, .int wide]) := by
  obtain ⟨p4, e4⟩ := st_4 c wide l hl hc hc0 (.nd .lst (l.map wrT ++ [.nd .tup [.int 0, .nd .tup [.int 1]]]))
  obtain ⟨p5, e5⟩ := st_5 c wide l hc hc0 (.nd .lst (l.map wrT ++ [.nd .tup [.int 0, .nd .tup [.int 1]]])) (liT (l.map (·.n))) p4
  obtain ⟨p7, p8, e6⟩ := st_6 c wide l hl (.nd .lst (l.map wrT ++ [.nd .tup [.int 0, .nd .tup [.int 1]]])) (liT (l.map (·.n))) p5 h0 h1
  unfold m_law_stands b_law_stands
  refine body_rt rfl (S' := [some (ddT ⟨c, l⟩), some (.int c), some (pqT l), some (.int wide), some (.nd .lst (l.map wrT ++ [.nd .tup [.int 0, .nd .tup [.int 1]]])), some (liT (l.map (·.n))), p5, p7, p8, none]) ?_ rfl
  show sSeq _ _ [some (ddT ⟨c, l⟩), some (.int c), some (pqT l), some (.int wide), none, none, none, none, none, none] = _
  rw [seq_nx (st_0 c wide l hl), seq_nx (st_1 _ _ _ l hl), seq_nx (st_2 _ _ _ _ l hl), seq_nx (st_3 _ _ _ _ l hl), seq_nx e4, seq_nx e5, seq_nx e6]
  exact st_7 c wide l hl _ _ _ _ _
end K05
namespace K05
open PySem L2 VT
structure Iv (c : Int) (l : List De) (t : Int) : Prop where
  h0 : 0 ≤ c
  h1 : c ≤ t
  h2 : (l.length : Int) ≤ c
  h3 : ∀ d ∈ l, d.n < c
  h4 : (l.map (·.n)).Nodup
  h5 : ∀ d ∈ l, d.hs.length ≤ 8
theorem Iv.more {c t t' : Int} {l : List De} (v : Iv c l t) (h : t ≤ t') : Iv c l t' := ⟨v.h0, Int.le_trans v.h1 h, v.h2, v.h3, v.h4, v.h5⟩
theorem Iv.begin {c t : Int} {l : List De} (v : Iv c l t) (sp : Int) (ps rs hs : List Int) (hh : hs.length ≤ 8) : Iv (c + 1) (Dd.begin ⟨c, l⟩ sp ps rs hs).pend (t + 1) := by
  have h0 := v.h0
  have h1 := v.h1
  have h2 := v.h2
  by_cases c0 : hs = []
  · have e : (Dd.begin ⟨c, l⟩ sp ps rs hs).pend = l := if_pos c0
    rw [e]
    exact ⟨by omega, by omega, by omega, fun d hd => by have := v.h3 d hd; omega, v.h4, v.h5⟩
  · have e : (Dd.begin ⟨c, l⟩ sp ps rs hs).pend = l ++ [⟨c, sp, ps, rs, hs⟩] := if_neg c0
    rw [e]
    refine ⟨by omega, by omega, by rw [List.length_append, List.length_singleton]; omega, fun d hd => ?_, ?_, fun d hd => ?_⟩
    · rcases List.mem_append.mp hd with z | z
      · have := v.h3 d z; omega
      · rw [List.mem_singleton.mp z]; show c < c + 1; omega
    · rw [List.map_append]
      refine nodup_app1 v.h4 fun z => ?_
      obtain ⟨d, hd, e⟩ := List.mem_map.mp z
      have := v.h3 d hd
      have e : d.n = c := e
      omega
    · rcases List.mem_append.mp hd with z | z
      · exact v.h5 d z
      · rw [List.mem_singleton.mp z]; exact hh
theorem Iv.answer {c t : Int} {l : List De} (v : Iv c l t) (h : Int) : Iv c (ansLeft h l) t := by
  have hs : (ansLeft h l).Sublist (l.map fun d => d.off h) := List.filter_sublist
  have hl : (ansLeft h l).length ≤ l.length := by
    have := hs.length_le
    rw [List.length_map] at this
    exact this
  have h2 := v.h2
  have mem : ∀ d ∈ ansLeft h l, ∃ e ∈ l, e.off h = d := fun d hd => List.mem_map.mp (hs.subset hd)
  refine ⟨v.h0, v.h1, by omega, fun d hd => ?_, ?_, fun d hd => ?_⟩
  · obtain ⟨e, he, rfl⟩ := mem d hd
    exact v.h3 e he
  · have := hs.map (·.n)
    rw [List.map_map] at this
    exact this.nodup v.h4
  · obtain ⟨e, he, rfl⟩ := mem d hd
    exact Nat.le_trans (List.length_filter_le _ _) (v.h5 e he)
abbrev B_law : SF := (sSeq (sSet 8 (eCall m_law_bag 2 (aRef 0 (aRef 7 aNil)))) (sSeq (sIf (eOpB eqT (eCall m_law_take 2 (aRef 8 (aVal (eOfN (nC (.int 2))) aNil))) (nC (.int 0))) (sSeq (sIf (eNot (eCall m_law_begun 5 (aRef 8 (aRef 3 (aRef 6 (aRef 5 (aRef 2 aNil))))))) (sRet (eOfN (nC (.bl false)))) sNil) (sSet 6 (eOfN (bOp addA (bOfP (pVar 6)) (nC (.int 1)))))) (sIf (eNot (eCall m_law_answered 3 (aRef 3 (aRef 5 (aVal (eCall m_law_take 2 (aRef 8 (aVal (eOfN (nC (.int 8))) aNil))) aNil))))) (sRet (eOfN (nC (.bl false)))) sNil)) (sIf (eAnd (eOfN (bOp eqT (bOp modT (bOfP (pVar 7)) (nC (.int 6))) (nC (.int 0)))) (eNot (eCall m_law_stands 4 (aRef 3 (aRef 6 (aRef 5 (aRef 2 aNil))))))) (sRet (eOfN (nC (.bl false)))) sNil)))
local macro_rules | `(tactic| walk_at "vtd") => `(tactic| first | omega | assumption | (simp only [List.length_set]; omega) | (simp only [plT, plAll, plI, Bool.and_true, Bool.and_self, ofS_ok, dg_ok]; done))
local macro_rules | `(tactic| walk_at "vt") => `(tactic| simp (disch := walk_at "vtd") only [↓eOp_q, kOp1_ok, kOp2_ok, kEn_q, ↓eOpB_q, kOpB_ok, kB1_q, ↓eUn_q, kUn_ok, ↓eOfN_q, ↓bOp_q, kBop_q, ↓bUn_q, ↓bOfP_q, kPl_q, kAt_q, tAt_nil, tAt_nd, nC_q, ↓nOfB_q, pVar_q, kPV_q, eVar_q, kVar_q, ↓sSeq_q, kSeq_nx, kSeq_rt, kSeq_ex, kSeq_bk, kSeq_ct, ↓sSet_q, kSet_ok, ↓sRet_q, kRet_ok, ↓sExpr_q, kExpr_ok, sNil_q, ↓sIf_q, kIf_q, ↓eNot_q, kNot_q, ↓eAnd_q, kAnd_q, ↓eOr_q, kOr_q, aNil_q, ↓aVal_q, kA1_ok, kA2_ok, ↓aRef_q, kAr_q, kAr2_ok, argOf_q, kArg_q, ↓eDisp_q, kD1_ok, kD2_q, valsOf_nil, valsOf_val, kVl_q, ↓eCall_q, kCall_ok, callR_q, kC1_q, kC2_q, argT_nil, argT_val, argT_pth, kAT1_q, kAT2_q, putB_nil, putB_val, tPut_nil, tPut_nd, ↓nTup_q, kNT_q, kNT2_q, baNil_q, ↓baVal_q, kBV_q, kBV2_q, ↓baRef_q, kBR_q, kBR2_q, ↓mBody_q, kBody_q, kBody2_nx, kBody2_rt, kBody2_ex, allS_nil, allS_some, imO_int, imO_str, imO_bl, imO_non, imO_tup, im_int, im_str, im_bl, im_non, im_tup, im_fz, im_lst, im_obj, imAll_nil, imAll_cons, mu_lst, mu_obj, gd_pos, gd_tr, mulT_i, modT_i, fdivT_i, powT_i, ltT_i, gtT_i, geT_i, minT_i, ixT_lst, ixT_fz, ixT_tup, lenT_lst, lenT_fz, lenT_tup, isN_non, isN_int, isN_nd, isN_str, ↓sMut_q, kMu_ok, kM0_q, kM1_q, kM2_q, kM3_q, setM_q, kSM_q, ob_some, sl, atI, ixN, ↓pFld_q, kF1_q, kF2_q, kF3_q, kF4_q, ↓eMeth_q, kMe_q, kMe2_q, ↓eMethP_q, kMP_q, kMP1_q, kMP2_q, kMP3_q, putB_q, kPB_q, ↓eMake_q, kMk_q, kMk2_q, kMk3_q, ↓eMutV_q, kLV0_q, kLV_q, kLV1_q, kLV2_q, kLV3_q, isLst_q, ↓eMutP_q, kLP_q, kLP0_q, kLP1_q, kLP2_q, kLP3_q, kLP4_q, appM_q, popM_q, kPop_q, putFM_q, kPF_s, kPF_n, ↓sForR_q, kFR_q, ↓sForE_q, kFE_q, kFE2_q, seqO_lst, seqO_fz, seqO_tup, ↓sForP_q, kFP_q, kFP1_q, kFP2_q, kFP3_q, kFP4_q, eqT_ii, neT_ii, inT_ints, notInT_ints, kL1_q, kL2_nx, kL2_ct, kL2_bk, kL2_rt, runL_nil, runL_cons, tgN_q, lcFrom_q, kLc_q, lcEnd_q, kLcE_q, wipeS_nil, wipeS_cons, restS_nil, restS_cons, kRs_n, kRs_s, listT_lst, listT_fz, listT_tup, isi_ii, isi_ib, isi_ll, eqT_pl, neT_pl, kSet_ex, kRet_ex, kExpr_ex, sRaise_q, ↓sTryK_q, kTry_ex, kTry_nx, kTry_rt, kTry2_q, setAll_n, setAll_c, augM_ints, ↓nLst_q, kNL_q, kNL2_q, ↓eLcR_q, kLR_q, mulT_l, lrgT_q, eqT_ln, neT_ln, rep_ints, get_int, set_int, app_int, teq_int, teq_str, teq_non, teq_tnil, teq_tcons, teq_li, ixA_lst, ixA_fz, ixA_tup, ixA_str, ixB_lst, ixB_fz, ixB_tup, ixB_dK, ixB_dT, kDo_s, dix_Ki, dix_Ks, dix_T, kDt_q, keysT_n, keysT_i, keysT_s, kKc_q, isDi_K, isDi_T, isDi_l, ixB_fK, dix_Fi, dix_Fs, mu_fK, im_fK, im_any, ↓sSetA_q, kSA_ok, kSA_ex, kSA0_q, kSA1_q, kSA2_q, kSA3_q, kSA4_q, setA_l, setA_Ki, setA_Ks, setA_T, kSt_q, mu_dK, mu_dT, im_dK, im_dT, inA_l, inA_t, inA_f, notInA_l, notInA_t, notInA_f, negT_i, ↓bNot_q, kBNot_q, ↓bAnd_q, kBAnd_q, bYes_q, lcN_q, kNlc_q, ↓bLc_q, kBL_q, kBLc_q, addA_i, addA_s, addA_ll, addA_fl, addA_tt, isB_bl, isB_non, isB_int, isB_str, isB_nd, isN_bl, addA_lf, beq_tt, beq_tf, beq_ft, beq_ff, Option.getD_none, eYes_q, tgT_tup, tupleT_lst, tupleT_tup, ↓ixB_fl, ↓setA_fl, ↓atI_fl, fl_get, fl_set, fl_getD, kAnd_ex, kOr_ex, kNot_ex, kIf_ex, kOpB_ex, kA1_ex, kD1_ex, up_id, ↓bLkD_q, kLD0_q, kLD1_q, kLD2_q, kLD3_q, kLD4_q, neL_l, neL_f, ↓sForL_q, ↓sForJ_q, ↓eLkL_q, kLL0_q, kLL1_q, kLL3_q, ↓bLst3_q, kL3a_q, kL3b_q, kL3c_q, List.length_set, beq_self_eq_true, getD_set, and_true, true_and, or_true, true_or, and_self, List.map_cons, List.map_nil, List.eraseIdx_cons_zero, List.length_cons, List.length_nil, List.length_map, List.replicate, List.append_nil, List.cons_append, List.nil_append, List.getElem?_cons_zero, List.getElem?_cons_succ, List.set_cons_zero, List.set_cons_succ, List.getD_cons_zero, List.getD_cons_succ, Option.getD_some, List.take, Nat.reduceSub, Nat.reduceAdd, Nat.reduceEqDiff, if_true, if_false, reduceIte, if_pos, if_neg, Int.toNat_zero, Int.toNat_one, Int.reduceLT, Int.reduceLE, Int.reduceToNat, List.tail_cons, Nat.zero_add, Nat.reduceLeDiff, Nat.reduceLT, Bool.and_true, Bool.true_and, Bool.and_self, Bool.not_true, Bool.not_false, decide_eq_true_eq, decide_true, decide_false, Bool.false_eq_true, c0_coming, i0_coming, c0_pending, i0_pending, j0_coming, j0_pending, io0_begin, io0_holds, io0_answered, io0_waiting, io0_is_told, kn9, im_ints, nc2, eqT_bb, neT_bb, rg_len, ne_ii, take_eq, ↓ix2, dd_im, pq_im])
theorem b_eq {c : Int} {l : List De} {sp : Int} {ps rs hs : List Int} : ddT (Dd.begin ⟨c, l⟩ sp ps rs hs) = ddT ⟨c + 1, (Dd.begin ⟨c, l⟩ sp ps rs hs).pend⟩ := rfl
theorem law_turn (ns : List Int) (F O : T) (wide : Int) (h0 : 0 < wide) (h1 : wide ≤ 30) (c t k : Int) (l : List De) (v : Iv c l t) (ht : t < 900) (k0 : 0 ≤ k) (k1 : k < 1000) (o8 : Option T) :
    ∃ (c' : Int) (l' : List De) (o8' : Option T), B_law [some (.nd .fz (ns.map .int)), some F, some (.int wide), some (ddT ⟨c, l⟩), some O, some (pqT l), some (.int c), some (.int k), o8] = some (.nx, [some (.nd .fz (ns.map .int)), some F, some (.int wide), some (ddT ⟨c', l'⟩), some O, some (pqT l'), some (.int c'), some (.int k), o8']) ∧ Iv c' l' (t + 1) := by
  obtain ⟨⟨a, s⟩, eb⟩ := bag_ex ns k k0 k1
  have hc := v.h1
  have hl := v.h2
  have hc0 := v.h0
  have t2 := tkR_lt a s 2 (by decide)
  have t3 := tkR_lt (tkA a 2) (tkS a s) 8 (by decide)
  by_cases c0 : tkR a s 2 = 0
  · obtain ⟨a', s', sp, ps, rs, hs, e, f1, f2, f3⟩ := begun_eq (tkA a 2) (tkS a s) l c wide (by omega) h0 h1
    have v' := v.begin sp ps rs hs f3
    rw [b_eq] at e
    generalize (Dd.begin ⟨c, l⟩ sp ps rs hs).pend = l' at e v'
    refine ⟨c + 1, l', some (bagT a' s'), ?_, v'⟩
    have hc' := v'.h1
    have hl' := v'.h2
    have es := stands_eq (c + 1) wide l' (by omega) (by omega) (by omega) (by omega) h1
    by_cases c6 : k % 6 = 0
    · walk_at "vt"
      rw [eb]
      walk_at "vt"
      rw [e]
      walk_at "vt"
      rw [es]
      walk_at "vt"
    · walk_at "vt"
      rw [eb]
      walk_at "vt"
      rw [e]
      walk_at "vt"
  · have e := answered_eq c (tkR (tkA a 2) (tkS a s) 8) l v.h4 (by omega) fun d hd => by have := v.h5 d hd; omega
    have v' := v.answer (tkR (tkA a 2) (tkS a s) 8)
    have ed : ddT (Dd.answer ⟨c, l⟩ (tkR (tkA a 2) (tkS a s) 8)) = ddT ⟨c, ansLeft (tkR (tkA a 2) (tkS a s) 8) l⟩ := rfl
    rw [ed] at e
    generalize ansLeft (tkR (tkA a 2) (tkS a s) 8) l = l' at e v'
    refine ⟨c, l', some (bagT (tkA (tkA a 2) 8) (tkS (tkA a 2) (tkS a s))), ?_, v'.more (by omega)⟩
    have hl' := v'.h2
    have es := stands_eq c wide l' (by omega) (by omega) (by omega) (by omega) h1
    by_cases c6 : k % 6 = 0
    · walk_at "vt"
      rw [eb]
      walk_at "vt"
      rw [e]
      walk_at "vt"
      rw [es]
      walk_at "vt"
    · walk_at "vt"
      rw [eb]
      walk_at "vt"
      rw [e]
      walk_at "vt"
end K05
namespace K05
open PySem L2 VT
theorem law_loop (ns : List Int) (F O : T) (wide : Int) (h0 : 0 < wide) (h1 : wide ≤ 30) (n : Int) (n0 : 0 ≤ n) (n1 : n ≤ 66) : ∃ (c : Int) (l : List De) (o7 o8 : Option T), runL (tgN 7) B_law (rgT n) [some (.nd .fz (ns.map .int)), some F, some (.int wide), some (ddT ⟨0, []⟩), some O, some (pqT []), some (.int 0), none, none] = some (.nx, [some (.nd .fz (ns.map .int)), some F, some (.int wide), some (ddT ⟨c, l⟩), some O, some (pqT l), some (.int c), o7, o8]) ∧ Iv c l n := by
  obtain ⟨S', e, c, l, o7, o8, hS, v⟩ := runL_inv (tf := tgN 7) (body := B_law) (I := fun k S => ∃ (c : Int) (l : List De) (o7 o8 : Option T), S = [some (.nd .fz (ns.map .int)), some F, some (.int wide), some (ddT ⟨c, l⟩), some O, some (pqT l), some (.int c), o7, o8] ∧ Iv c l (n - (k : Int))) (rgT n) [some (.nd .fz (ns.map .int)), some F, some (.int wide), some (ddT ⟨0, []⟩), some O, some (pqT []), some (.int 0), none, none]
    ⟨0, [], none, none, rfl, ⟨Int.le_refl _, by rw [rg_len]; omega, Int.le_refl _, fun d hd => (by simp at hd), List.nodup_nil, fun d hd => (by simp at hd)⟩⟩ (by
      rintro k t S ht ⟨c, l, o7, o8, rfl, v⟩
      rw [rgT_ints] at ht
      obtain ⟨i, hi, rfl⟩ := List.mem_map.mp ht
      have hi := mem_rgI.mp hi
      obtain ⟨c', l', o8', e, v'⟩ := law_turn ns F O wide h0 h1 c (n - ((k + 1 : Nat) : Int)) i l v (by omega) hi.1 (by omega) o8
      exact ⟨_, _, rfl, e, c', l', some (.int i), o8', rfl, v'.more (by omega)⟩)
  exact ⟨c, l, o7, o8, by rw [e, hS], v.more (by omega)⟩
theorem oth_w : m_Deeds_waiting [ddT ⟨0, []⟩] = some (.ok (.nd .lst []), [ddT ⟨0, []⟩]) := dd_waiting ⟨0, []⟩ (by show 0 < 100000; decide)
theorem oth_b : m_Deeds_begin [ddT ⟨0, []⟩, .int 0, .nd .lst [], .nd .lst [], .nd .lst [.int 1]] = some (.ok (.int 0), [ddT (Dd.begin ⟨0, []⟩ 0 [] [] [1]), .int 0, .nd .lst [], .nd .lst [], .nd .lst [.int 1]]) :=
  dd_begin ⟨0, []⟩ 0 .lst .lst .lst (liT []) (liT []) (liT [1]) [] [] [1] (.inl rfl) (.inl rfl) (by show 0 < 100000; decide)
theorem eq_nn : eqT (.nd .lst []) (.nd .lst []) = some (.bl true) := eqT_self rfl
local macro_rules | `(tactic| walk_at "vtd") => `(tactic| first | omega | assumption | (simp only [List.length_set]; omega) | (simp only [plT, plAll, plI, Bool.and_true, Bool.and_self, ofS_ok, dg_ok]; done))
local macro_rules | `(tactic| walk_at "vt") => `(tactic| simp (disch := walk_at "vtd") only [↓eOp_q, kOp1_ok, kOp2_ok, kEn_q, ↓eOpB_q, kOpB_ok, kB1_q, ↓eUn_q, kUn_ok, ↓eOfN_q, ↓bOp_q, kBop_q, ↓bUn_q, ↓bOfP_q, kPl_q, kAt_q, tAt_nil, tAt_nd, nC_q, ↓nOfB_q, pVar_q, kPV_q, eVar_q, kVar_q, ↓sSeq_q, kSeq_nx, kSeq_rt, kSeq_ex, kSeq_bk, kSeq_ct, ↓sSet_q, kSet_ok, ↓sRet_q, kRet_ok, ↓sExpr_q, kExpr_ok, sNil_q, ↓sIf_q, kIf_q, ↓eNot_q, kNot_q, ↓eAnd_q, kAnd_q, ↓eOr_q, kOr_q, aNil_q, ↓aVal_q, kA1_ok, kA2_ok, ↓aRef_q, kAr_q, kAr2_ok, argOf_q, kArg_q, ↓eDisp_q, kD1_ok, kD2_q, valsOf_nil, valsOf_val, kVl_q, ↓eCall_q, kCall_ok, callR_q, kC1_q, kC2_q, argT_nil, argT_val, argT_pth, kAT1_q, kAT2_q, putB_nil, putB_val, tPut_nil, tPut_nd, ↓nTup_q, kNT_q, kNT2_q, baNil_q, ↓baVal_q, kBV_q, kBV2_q, ↓baRef_q, kBR_q, kBR2_q, ↓mBody_q, kBody_q, kBody2_nx, kBody2_rt, kBody2_ex, allS_nil, allS_some, imO_int, imO_str, imO_bl, imO_non, imO_tup, im_int, im_str, im_bl, im_non, im_tup, im_fz, im_lst, im_obj, imAll_nil, imAll_cons, mu_lst, mu_obj, gd_pos, gd_tr, mulT_i, modT_i, fdivT_i, powT_i, ltT_i, gtT_i, geT_i, minT_i, ixT_lst, ixT_fz, ixT_tup, lenT_lst, lenT_fz, lenT_tup, isN_non, isN_int, isN_nd, isN_str, ↓sMut_q, kMu_ok, kM0_q, kM1_q, kM2_q, kM3_q, setM_q, kSM_q, ob_some, sl, atI, ixN, ↓pFld_q, kF1_q, kF2_q, kF3_q, kF4_q, ↓eMeth_q, kMe_q, kMe2_q, ↓eMethP_q, kMP_q, kMP1_q, kMP2_q, kMP3_q, putB_q, kPB_q, ↓eMake_q, kMk_q, kMk2_q, kMk3_q, ↓eMutV_q, kLV0_q, kLV_q, kLV1_q, kLV2_q, kLV3_q, isLst_q, ↓eMutP_q, kLP_q, kLP0_q, kLP1_q, kLP2_q, kLP3_q, kLP4_q, appM_q, popM_q, kPop_q, putFM_q, kPF_s, kPF_n, ↓sForR_q, kFR_q, ↓sForE_q, kFE_q, kFE2_q, seqO_lst, seqO_fz, seqO_tup, ↓sForP_q, kFP_q, kFP1_q, kFP2_q, kFP3_q, kFP4_q, eqT_ii, neT_ii, inT_ints, notInT_ints, kL1_q, kL2_nx, kL2_ct, kL2_bk, kL2_rt, runL_nil, runL_cons, tgN_q, lcFrom_q, kLc_q, lcEnd_q, kLcE_q, wipeS_nil, wipeS_cons, restS_nil, restS_cons, kRs_n, kRs_s, listT_lst, listT_fz, listT_tup, isi_ii, isi_ib, isi_ll, eqT_pl, neT_pl, kSet_ex, kRet_ex, kExpr_ex, sRaise_q, ↓sTryK_q, kTry_ex, kTry_nx, kTry_rt, kTry2_q, setAll_n, setAll_c, augM_ints, ↓nLst_q, kNL_q, kNL2_q, ↓eLcR_q, kLR_q, mulT_l, lrgT_q, eqT_ln, neT_ln, rep_ints, get_int, set_int, app_int, teq_int, teq_str, teq_non, teq_tnil, teq_tcons, teq_li, ixA_lst, ixA_fz, ixA_tup, ixA_str, ixB_lst, ixB_fz, ixB_tup, ixB_dK, ixB_dT, kDo_s, dix_Ki, dix_Ks, dix_T, kDt_q, keysT_n, keysT_i, keysT_s, kKc_q, isDi_K, isDi_T, isDi_l, ixB_fK, dix_Fi, dix_Fs, mu_fK, im_fK, im_any, ↓sSetA_q, kSA_ok, kSA_ex, kSA0_q, kSA1_q, kSA2_q, kSA3_q, kSA4_q, setA_l, setA_Ki, setA_Ks, setA_T, kSt_q, mu_dK, mu_dT, im_dK, im_dT, inA_l, inA_t, inA_f, notInA_l, notInA_t, notInA_f, negT_i, ↓bNot_q, kBNot_q, ↓bAnd_q, kBAnd_q, bYes_q, lcN_q, kNlc_q, ↓bLc_q, kBL_q, kBLc_q, addA_i, addA_s, addA_ll, addA_fl, addA_tt, isB_bl, isB_non, isB_int, isB_str, isB_nd, isN_bl, addA_lf, beq_tt, beq_tf, beq_ft, beq_ff, Option.getD_none, eYes_q, tgT_tup, tupleT_lst, tupleT_tup, ↓ixB_fl, ↓setA_fl, ↓atI_fl, fl_get, fl_set, fl_getD, kAnd_ex, kOr_ex, kNot_ex, kIf_ex, kOpB_ex, kA1_ex, kD1_ex, up_id, ↓bLkD_q, kLD0_q, kLD1_q, kLD2_q, kLD3_q, kLD4_q, neL_l, neL_f, ↓sForL_q, ↓sForJ_q, ↓eLkL_q, kLL0_q, kLL1_q, kLL3_q, ↓bLst3_q, kL3a_q, kL3b_q, kL3c_q, List.length_set, beq_self_eq_true, getD_set, and_true, true_and, or_true, true_or, and_self, List.map_cons, List.map_nil, List.eraseIdx_cons_zero, List.length_cons, List.length_nil, List.length_map, List.replicate, List.append_nil, List.cons_append, List.nil_append, List.getElem?_cons_zero, List.getElem?_cons_succ, List.set_cons_zero, List.set_cons_succ, List.getD_cons_zero, List.getD_cons_succ, Option.getD_some, List.take, Nat.reduceSub, Nat.reduceAdd, Nat.reduceEqDiff, if_true, if_false, reduceIte, if_pos, if_neg, Int.toNat_zero, Int.toNat_one, Int.reduceLT, Int.reduceLE, Int.reduceToNat, List.tail_cons, Nat.zero_add, Nat.reduceLeDiff, Nat.reduceLT, Bool.and_true, Bool.true_and, Bool.and_self, Bool.not_true, Bool.not_false, decide_eq_true_eq, decide_true, decide_false, Bool.false_eq_true, c0_coming, i0_coming, c0_pending, i0_pending, j0_coming, j0_pending, io0_begin, io0_holds, io0_answered, io0_waiting, io0_is_told, kn9, im_ints, nc2, eqT_bb, neT_bb, rg_len, ne_ii, take_eq, ↓ix2, dd_im, pq_im, ↓io0w, ↓io0b, dd_init, oth_w, oth_b, ↓eq_nn])
theorem law_end (ns : List Int) (hn : ns.length ≤ 63) : ∃ ts', m_law [.nd .fz (ns.map T.int)] = some (.ok (.bl true), ts') := by
  obtain ⟨⟨a, s⟩, eb⟩ := bag_ex ns 0 (by decide) (by decide)
  have t2 := two_le 4 30 (tkR a s 2) 4 30 (by decide) (by decide) (by decide) (by decide)
  obtain ⟨c, l, o7, o8, e, v⟩ := law_loop ns (bagT (tkA a 2) (tkS a s)) (ddT ⟨0, []⟩) (two 4 30 (tkR a s 2)) (by omega) t2.2 ((ns.length : Int) + 3) (by omega) (by omega)
  have hc := v.h1
  have hl := v.h2
  have hc0 := v.h0
  have es := stands_eq c (two 4 30 (tkR a s 2)) l (by omega) (by omega) (by omega) (by omega) t2.2
  unfold m_law b_law
  walk_at "vt"
  rw [eb]
  walk_at "vt"
  rw [show pqT [] = T.nd .lst [] from rfl] at e
  rw [e]
  walk_at "vt"
  rw [es]
  walk_at "vt"
  exact ⟨_, rfl⟩
end K05
namespace K05
open PySem L2 VT
abbrev cL (K : PySem.W.Frag) : Nat → Addr
  | 0 => He.ga K "Deeds"
  | 9 => He.ga K "NoDeed"
  | _ => 0
theorem q_aA_NoCall {K : PySem.W.Frag} (c : SaysF fss fns K) : PySem.W.nsIn K mainGlobals "NoCall" = some (some (.ref (He.ga K "NoCall"))) := (He.eqO_ok (c.fact 0 0 (fs := fs0) rfl rfl))
theorem q_it_A_NoCall {K : PySem.W.Frag} (c : SaysF fss fns K) : PySem.W.typeIn K (.ref (He.ga K "NoCall")) = some (.type "type") := (of_decide_eq_true (c.fact 0 1 (fs := fs0) rfl rfl))
theorem q_ic_A_NoCall {K : PySem.W.Frag} (c : SaysF fss fns K) : PySem.W.isClsIn K (He.ga K "NoCall") = true := (c.fact 0 2 (fs := fs0) rfl rfl)
theorem q_aA_Here {K : PySem.W.Frag} (c : SaysF fss fns K) : PySem.W.nsIn K mainGlobals "Here" = some (some (.ref (He.ga K "Here"))) := (He.eqO_ok (c.fact 0 3 (fs := fs0) rfl rfl))
theorem q_it_A_Here {K : PySem.W.Frag} (c : SaysF fss fns K) : PySem.W.typeIn K (.ref (He.ga K "Here")) = some (.type "type") := (of_decide_eq_true (c.fact 0 4 (fs := fs0) rfl rfl))
theorem q_ic_A_Here {K : PySem.W.Frag} (c : SaysF fss fns K) : PySem.W.isClsIn K (He.ga K "Here") = true := (c.fact 0 5 (fs := fs0) rfl rfl)
theorem q_aA_BadRow {K : PySem.W.Frag} (c : SaysF fss fns K) : PySem.W.nsIn K mainGlobals "BadRow" = some (some (.ref (He.ga K "BadRow"))) := (He.eqO_ok (c.fact 0 6 (fs := fs0) rfl rfl))
theorem q_it_A_BadRow {K : PySem.W.Frag} (c : SaysF fss fns K) : PySem.W.typeIn K (.ref (He.ga K "BadRow")) = some (.type "type") := (of_decide_eq_true (c.fact 0 7 (fs := fs0) rfl rfl))
theorem q_ic_A_BadRow {K : PySem.W.Frag} (c : SaysF fss fns K) : PySem.W.isClsIn K (He.ga K "BadRow") = true := (c.fact 0 8 (fs := fs0) rfl rfl)
theorem q_aA_Asleep {K : PySem.W.Frag} (c : SaysF fss fns K) : PySem.W.nsIn K mainGlobals "Asleep" = some (some (.ref (He.ga K "Asleep"))) := (He.eqO_ok (c.fact 0 9 (fs := fs0) rfl rfl))
theorem q_it_A_Asleep {K : PySem.W.Frag} (c : SaysF fss fns K) : PySem.W.typeIn K (.ref (He.ga K "Asleep")) = some (.type "type") := (of_decide_eq_true (c.fact 0 10 (fs := fs0) rfl rfl))
theorem q_ic_A_Asleep {K : PySem.W.Frag} (c : SaysF fss fns K) : PySem.W.isClsIn K (He.ga K "Asleep") = true := (c.fact 0 11 (fs := fs0) rfl rfl)
theorem q_aA_NoPage {K : PySem.W.Frag} (c : SaysF fss fns K) : PySem.W.nsIn K mainGlobals "NoPage" = some (some (.ref (He.ga K "NoPage"))) := (He.eqO_ok (c.fact 0 12 (fs := fs0) rfl rfl))
theorem q_it_A_NoPage {K : PySem.W.Frag} (c : SaysF fss fns K) : PySem.W.typeIn K (.ref (He.ga K "NoPage")) = some (.type "type") := (of_decide_eq_true (c.fact 0 13 (fs := fs0) rfl rfl))
theorem q_ic_A_NoPage {K : PySem.W.Frag} (c : SaysF fss fns K) : PySem.W.isClsIn K (He.ga K "NoPage") = true := (c.fact 0 14 (fs := fs0) rfl rfl)
theorem q_aA_NoLeaf {K : PySem.W.Frag} (c : SaysF fss fns K) : PySem.W.nsIn K mainGlobals "NoLeaf" = some (some (.ref (He.ga K "NoLeaf"))) := (He.eqO_ok (c.fact 0 15 (fs := fs0) rfl rfl))
theorem q_it_A_NoLeaf {K : PySem.W.Frag} (c : SaysF fss fns K) : PySem.W.typeIn K (.ref (He.ga K "NoLeaf")) = some (.type "type") := (of_decide_eq_true (c.fact 0 16 (fs := fs0) rfl rfl))
theorem q_ic_A_NoLeaf {K : PySem.W.Frag} (c : SaysF fss fns K) : PySem.W.isClsIn K (He.ga K "NoLeaf") = true := (c.fact 0 17 (fs := fs0) rfl rfl)
theorem q_aA_NoHand {K : PySem.W.Frag} (c : SaysF fss fns K) : PySem.W.nsIn K mainGlobals "NoHand" = some (some (.ref (He.ga K "NoHand"))) := (He.eqO_ok (c.fact 0 18 (fs := fs0) rfl rfl))
theorem q_it_A_NoHand {K : PySem.W.Frag} (c : SaysF fss fns K) : PySem.W.typeIn K (.ref (He.ga K "NoHand")) = some (.type "type") := (of_decide_eq_true (c.fact 0 19 (fs := fs0) rfl rfl))
theorem q_ic_A_NoHand {K : PySem.W.Frag} (c : SaysF fss fns K) : PySem.W.isClsIn K (He.ga K "NoHand") = true := (c.fact 0 20 (fs := fs0) rfl rfl)
theorem q_aA_Taken {K : PySem.W.Frag} (c : SaysF fss fns K) : PySem.W.nsIn K mainGlobals "Taken" = some (some (.ref (He.ga K "Taken"))) := (He.eqO_ok (c.fact 0 21 (fs := fs0) rfl rfl))
theorem q_it_A_Taken {K : PySem.W.Frag} (c : SaysF fss fns K) : PySem.W.typeIn K (.ref (He.ga K "Taken")) = some (.type "type") := (of_decide_eq_true (c.fact 0 22 (fs := fs0) rfl rfl))
theorem q_ic_A_Taken {K : PySem.W.Frag} (c : SaysF fss fns K) : PySem.W.isClsIn K (He.ga K "Taken") = true := (c.fact 0 23 (fs := fs0) rfl rfl)
theorem q_aA_NoSpace {K : PySem.W.Frag} (c : SaysF fss fns K) : PySem.W.nsIn K mainGlobals "NoSpace" = some (some (.ref (He.ga K "NoSpace"))) := (He.eqO_ok (c.fact 0 24 (fs := fs0) rfl rfl))
theorem q_it_A_NoSpace {K : PySem.W.Frag} (c : SaysF fss fns K) : PySem.W.typeIn K (.ref (He.ga K "NoSpace")) = some (.type "type") := (of_decide_eq_true (c.fact 0 25 (fs := fs0) rfl rfl))
theorem q_ic_A_NoSpace {K : PySem.W.Frag} (c : SaysF fss fns K) : PySem.W.isClsIn K (He.ga K "NoSpace") = true := (c.fact 0 26 (fs := fs0) rfl rfl)
theorem q_aA_NoRoom {K : PySem.W.Frag} (c : SaysF fss fns K) : PySem.W.nsIn K mainGlobals "NoRoom" = some (some (.ref (He.ga K "NoRoom"))) := (He.eqO_ok (c.fact 0 27 (fs := fs0) rfl rfl))
theorem q_it_A_NoRoom {K : PySem.W.Frag} (c : SaysF fss fns K) : PySem.W.typeIn K (.ref (He.ga K "NoRoom")) = some (.type "type") := (of_decide_eq_true (c.fact 0 28 (fs := fs0) rfl rfl))
theorem q_ic_A_NoRoom {K : PySem.W.Frag} (c : SaysF fss fns K) : PySem.W.isClsIn K (He.ga K "NoRoom") = true := (c.fact 0 29 (fs := fs0) rfl rfl)
theorem q_aA_NoRight {K : PySem.W.Frag} (c : SaysF fss fns K) : PySem.W.nsIn K mainGlobals "NoRight" = some (some (.ref (He.ga K "NoRight"))) := (He.eqO_ok (c.fact 1 0 (fs := fs1) rfl rfl))
theorem q_it_A_NoRight {K : PySem.W.Frag} (c : SaysF fss fns K) : PySem.W.typeIn K (.ref (He.ga K "NoRight")) = some (.type "type") := (of_decide_eq_true (c.fact 1 1 (fs := fs1) rfl rfl))
theorem q_ic_A_NoRight {K : PySem.W.Frag} (c : SaysF fss fns K) : PySem.W.isClsIn K (He.ga K "NoRight") = true := (c.fact 1 2 (fs := fs1) rfl rfl)
theorem q_aA_Waits {K : PySem.W.Frag} (c : SaysF fss fns K) : PySem.W.nsIn K mainGlobals "Waits" = some (some (.ref (He.ga K "Waits"))) := (He.eqO_ok (c.fact 1 3 (fs := fs1) rfl rfl))
theorem q_it_A_Waits {K : PySem.W.Frag} (c : SaysF fss fns K) : PySem.W.typeIn K (.ref (He.ga K "Waits")) = some (.type "type") := (of_decide_eq_true (c.fact 1 4 (fs := fs1) rfl rfl))
theorem q_ic_A_Waits {K : PySem.W.Frag} (c : SaysF fss fns K) : PySem.W.isClsIn K (He.ga K "Waits") = true := (c.fact 1 5 (fs := fs1) rfl rfl)
theorem q_aA_CallError {K : PySem.W.Frag} (c : SaysF fss fns K) : PySem.W.nsIn K mainGlobals "CallError" = some (some (.ref (He.ga K "CallError"))) := (He.eqO_ok (c.fact 1 6 (fs := fs1) rfl rfl))
theorem q_it_A_CallError {K : PySem.W.Frag} (c : SaysF fss fns K) : PySem.W.typeIn K (.ref (He.ga K "CallError")) = some (.type "type") := (of_decide_eq_true (c.fact 1 7 (fs := fs1) rfl rfl))
theorem q_cb {K : PySem.W.Frag} (c : SaysF fss fns K) : PySem.W.subIn K (.ref (He.ga K "CallError")) (.type "BaseException") = some true := (of_decide_eq_true (c.fact 1 8 (fs := fs1) rfl rfl))
theorem q_cd {K : PySem.W.Frag} (c : SaysF fss fns K) : PySem.W.hasDictIn K (He.ga K "CallError") = true := (c.fact 1 9 (fs := fs1) rfl rfl)
theorem q_aC9 {K : PySem.W.Frag} (c : SaysF fss fns K) : PySem.W.nsIn K mainGlobals "NoDeed" = some (some (.ref (He.ga K "NoDeed"))) := (He.eqO_ok (c.fact 1 10 (fs := fs1) rfl rfl))
theorem q_xe9 {K : PySem.W.Frag} (c : SaysF fss fns K) : PySem.W.excIn K (He.ga K "NoDeed") [.type "ValueError", .type "Exception", .type "BaseException", .type "object"] "ValueError.__new__" = true := (c.fact 1 11 (fs := fs1) rfl rfl)
theorem q_kc9 {K : PySem.W.Frag} (c : SaysF fss fns K) : PySem.W.keepIn K (.ref (He.ga K "NoDeed")) = true := (c.fact 1 12 (fs := fs1) rfl rfl)
theorem q_xs9 {K : PySem.W.Frag} (c : SaysF fss fns K) : PySem.W.subIn K (.ref (He.ga K "NoDeed")) (.type "BaseException") = some true := (of_decide_eq_true (c.fact 1 13 (fs := fs1) rfl rfl))
theorem q_xt9 {K : PySem.W.Frag} (c : SaysF fss fns K) : PySem.W.typeIn K (.ref (He.ga K "NoDeed")) = some (.type "type") := (of_decide_eq_true (c.fact 1 14 (fs := fs1) rfl rfl))
theorem q_e1_9 {K : PySem.W.Frag} (c : SaysF fss fns K) : PySem.W.findIn K (.ref (He.ga K "NoDeed")) "__getattribute__" = some (some (.builtin "BaseException.__getattribute__")) := (He.eqO_ok (c.fact 1 15 (fs := fs1) rfl rfl))
theorem q_e2_9 {K : PySem.W.Frag} (c : SaysF fss fns K) : PySem.W.findIn K (.ref (He.ga K "NoDeed")) "__getattr__" = some none := (He.eqO_ok (c.fact 1 16 (fs := fs1) rfl rfl))
theorem q_e3_9 {K : PySem.W.Frag} (c : SaysF fss fns K) : PySem.W.hasDictIn K (He.ga K "NoDeed") = true := (c.fact 1 17 (fs := fs1) rfl rfl)
theorem q_e4_9 {K : PySem.W.Frag} (c : SaysF fss fns K) : PySem.W.findIn K (.ref (He.ga K "NoDeed")) "__class__" = some (some (.builtin "object.__class__")) := (He.eqO_ok (c.fact 1 18 (fs := fs1) rfl rfl))
theorem q_e5_9 {K : PySem.W.Frag} (c : SaysF fss fns K) : PySem.W.specialIn K (.builtin "object.__class__") "__get__" = some (some (.builtin "getset_descriptor.__get__")) := (He.eqO_ok (c.fact 1 19 (fs := fs1) rfl rfl))
theorem q_e6_9 {K : PySem.W.Frag} (c : SaysF fss fns K) : PySem.W.takesIn K (.builtin "object.__class__") = some true := (of_decide_eq_true (c.fact 1 20 (fs := fs1) rfl rfl))
theorem q_e7_9 {K : PySem.W.Frag} (c : SaysF fss fns K) : PySem.W.mroIn K (He.ga K "NoDeed") (.type "object") = some true := (of_decide_eq_true (c.fact 1 21 (fs := fs1) rfl rfl))
theorem q_ss9 {K : PySem.W.Frag} (c : SaysF fss fns K) : PySem.W.subIn K (.ref (He.ga K "NoDeed")) (.ref (He.ga K "NoDeed")) = some true := (of_decide_eq_true (c.fact 1 23 (fs := fs1) rfl rfl))
theorem q_q9_0 {K : PySem.W.Frag} (c : SaysF fss fns K) : PySem.W.subIn K (.ref (He.ga K "NoDeed")) (.ref (He.ga K "NoCall")) = some false := (of_decide_eq_true (c.fact 1 24 (fs := fs1) rfl rfl))
theorem q_q9_1 {K : PySem.W.Frag} (c : SaysF fss fns K) : PySem.W.subIn K (.ref (He.ga K "NoDeed")) (.ref (He.ga K "Here")) = some false := (of_decide_eq_true (c.fact 1 25 (fs := fs1) rfl rfl))
theorem q_q9_2 {K : PySem.W.Frag} (c : SaysF fss fns K) : PySem.W.subIn K (.ref (He.ga K "NoDeed")) (.ref (He.ga K "BadRow")) = some false := (of_decide_eq_true (c.fact 1 26 (fs := fs1) rfl rfl))
theorem q_q9_3 {K : PySem.W.Frag} (c : SaysF fss fns K) : PySem.W.subIn K (.ref (He.ga K "NoDeed")) (.ref (He.ga K "Asleep")) = some false := (of_decide_eq_true (c.fact 1 27 (fs := fs1) rfl rfl))
theorem q_q9_4 {K : PySem.W.Frag} (c : SaysF fss fns K) : PySem.W.subIn K (.ref (He.ga K "NoDeed")) (.ref (He.ga K "NoPage")) = some false := (of_decide_eq_true (c.fact 1 28 (fs := fs1) rfl rfl))
theorem q_q9_5 {K : PySem.W.Frag} (c : SaysF fss fns K) : PySem.W.subIn K (.ref (He.ga K "NoDeed")) (.ref (He.ga K "NoLeaf")) = some false := (of_decide_eq_true (c.fact 1 29 (fs := fs1) rfl rfl))
theorem q_q9_6 {K : PySem.W.Frag} (c : SaysF fss fns K) : PySem.W.subIn K (.ref (He.ga K "NoDeed")) (.ref (He.ga K "NoHand")) = some false := (of_decide_eq_true (c.fact 2 0 (fs := fs2) rfl rfl))
theorem q_q9_8 {K : PySem.W.Frag} (c : SaysF fss fns K) : PySem.W.subIn K (.ref (He.ga K "NoDeed")) (.ref (He.ga K "Taken")) = some false := (of_decide_eq_true (c.fact 2 1 (fs := fs2) rfl rfl))
theorem q_q9_9 {K : PySem.W.Frag} (c : SaysF fss fns K) : PySem.W.subIn K (.ref (He.ga K "NoDeed")) (.ref (He.ga K "NoSpace")) = some false := (of_decide_eq_true (c.fact 2 2 (fs := fs2) rfl rfl))
theorem q_q9_10 {K : PySem.W.Frag} (c : SaysF fss fns K) : PySem.W.subIn K (.ref (He.ga K "NoDeed")) (.ref (He.ga K "NoRoom")) = some false := (of_decide_eq_true (c.fact 2 3 (fs := fs2) rfl rfl))
theorem q_q9_11 {K : PySem.W.Frag} (c : SaysF fss fns K) : PySem.W.subIn K (.ref (He.ga K "NoDeed")) (.ref (He.ga K "NoRight")) = some false := (of_decide_eq_true (c.fact 2 4 (fs := fs2) rfl rfl))
theorem q_q9_12 {K : PySem.W.Frag} (c : SaysF fss fns K) : PySem.W.subIn K (.ref (He.ga K "NoDeed")) (.type "ValueError") = some true := (of_decide_eq_true (c.fact 2 5 (fs := fs2) rfl rfl))
theorem q_q9_13 {K : PySem.W.Frag} (c : SaysF fss fns K) : PySem.W.subIn K (.ref (He.ga K "NoDeed")) (.ref (He.ga K "Waits")) = some false := (of_decide_eq_true (c.fact 2 6 (fs := fs2) rfl rfl))
theorem q_xm9 {K : PySem.W.Frag} (c : SaysF fss fns K) : PySem.W.subIn K (.ref (He.ga K "NoDeed")) (.ref (He.ga K "CallError")) = some true := (of_decide_eq_true (c.fact 2 7 (fs := fs2) rfl rfl))
theorem q_aK {K : PySem.W.Frag} (c : SaysF fss fns K) : PySem.W.nsIn K mainGlobals "_law_kinds" = some (some (.ref (He.ga K "_law_kinds"))) := (He.eqO_ok (c.fact 2 8 (fs := fs2) rfl rfl))
theorem q_kK {K : PySem.W.Frag} (c : SaysF fss fns K) : PySem.W.keepIn K (.ref (He.ga K "_law_kinds")) = true := (c.fact 2 9 (fs := fs2) rfl rfl)
theorem q_aC0 {K : PySem.W.Frag} (c : SaysF fss fns K) : PySem.W.nsIn K mainGlobals "Deeds" = some (some (.ref (He.ga K "Deeds"))) := (He.eqO_ok (c.fact 2 10 (fs := fs2) rfl rfl))
theorem q_pg0 {K : PySem.W.Frag} (c : SaysF fss fns K) : PySem.W.plainGet K (He.ga K "Deeds") Str.empty = true := (c.fact 2 11 (fs := fs2) rfl rfl)
theorem q_hd0 {K : PySem.W.Frag} (c : SaysF fss fns K) : PySem.W.hasDictIn K (He.ga K "Deeds") = true := (c.fact 2 12 (fs := fs2) rfl rfl)
theorem q_po0 {K : PySem.W.Frag} (c : SaysF fss fns K) : PySem.W.plainOver K (He.ga K "Deeds") = true := (c.fact 2 13 (fs := fs2) rfl rfl)
theorem q_sa0 {K : PySem.W.Frag} (c : SaysF fss fns K) : PySem.W.findIn K (.ref (He.ga K "Deeds")) "__setattr__" = some (some (.builtin "object.__setattr__")) := (He.eqO_ok (c.fact 2 14 (fs := fs2) rfl rfl))
theorem q_mk0 {K : PySem.W.Frag} (c : SaysF fss fns K) : PySem.W.makesIn K (He.ga K "Deeds") = true := (c.fact 2 15 (fs := fs2) rfl rfl)
theorem q_kc0 {K : PySem.W.Frag} (c : SaysF fss fns K) : PySem.W.keepIn K (.ref (He.ga K "Deeds")) = true := (c.fact 2 16 (fs := fs2) rfl rfl)
theorem q_nf0_0 {K : PySem.W.Frag} (c : SaysF fss fns K) : PySem.W.findIn K (.ref (He.ga K "Deeds")) "coming" = some none := (He.eqO_ok (c.fact 2 17 (fs := fs2) rfl rfl))
theorem q_nf0_1 {K : PySem.W.Frag} (c : SaysF fss fns K) : PySem.W.findIn K (.ref (He.ga K "Deeds")) "pending" = some none := (He.eqO_ok (c.fact 2 18 (fs := fs2) rfl rfl))
theorem q_a0 {K : PySem.W.Frag} (c : SaysF fss fns K) : PySem.W.findIn K (.ref (He.ga K "Deeds")) "__init__" = some (some (.ref (He.ma K (He.ga K "Deeds") "__init__"))) := (He.eqO_ok (c.fact 2 19 (fs := fs2) rfl rfl))
theorem q_i0 {K : PySem.W.Frag} (c : SaysF fss fns K) : PySem.W.isFn K (.ref (He.ma K (He.ga K "Deeds") "__init__")) = true := (c.fact 2 20 (fs := fs2) rfl rfl)
theorem q_k0 {K : PySem.W.Frag} (c : SaysF fss fns K) : PySem.W.keepIn K (.ref (He.ma K (He.ga K "Deeds") "__init__")) = true := (c.fact 2 21 (fs := fs2) rfl rfl)
theorem q_a1 {K : PySem.W.Frag} (c : SaysF fss fns K) : PySem.W.findIn K (.ref (He.ga K "Deeds")) "begin" = some (some (.ref (He.ma K (He.ga K "Deeds") "begin"))) := (He.eqO_ok (c.fact 2 22 (fs := fs2) rfl rfl))
theorem q_i1 {K : PySem.W.Frag} (c : SaysF fss fns K) : PySem.W.isFn K (.ref (He.ma K (He.ga K "Deeds") "begin")) = true := (c.fact 2 23 (fs := fs2) rfl rfl)
theorem q_k1 {K : PySem.W.Frag} (c : SaysF fss fns K) : PySem.W.keepIn K (.ref (He.ma K (He.ga K "Deeds") "begin")) = true := (c.fact 2 24 (fs := fs2) rfl rfl)
theorem q_a2 {K : PySem.W.Frag} (c : SaysF fss fns K) : PySem.W.findIn K (.ref (He.ga K "Deeds")) "holds" = some (some (.ref (He.ma K (He.ga K "Deeds") "holds"))) := (He.eqO_ok (c.fact 2 25 (fs := fs2) rfl rfl))
theorem q_i2 {K : PySem.W.Frag} (c : SaysF fss fns K) : PySem.W.isFn K (.ref (He.ma K (He.ga K "Deeds") "holds")) = true := (c.fact 2 26 (fs := fs2) rfl rfl)
theorem q_k2 {K : PySem.W.Frag} (c : SaysF fss fns K) : PySem.W.keepIn K (.ref (He.ma K (He.ga K "Deeds") "holds")) = true := (c.fact 2 27 (fs := fs2) rfl rfl)
theorem q_a3 {K : PySem.W.Frag} (c : SaysF fss fns K) : PySem.W.findIn K (.ref (He.ga K "Deeds")) "answered" = some (some (.ref (He.ma K (He.ga K "Deeds") "answered"))) := (He.eqO_ok (c.fact 2 28 (fs := fs2) rfl rfl))
theorem q_i3 {K : PySem.W.Frag} (c : SaysF fss fns K) : PySem.W.isFn K (.ref (He.ma K (He.ga K "Deeds") "answered")) = true := (c.fact 2 29 (fs := fs2) rfl rfl)
theorem q_k3 {K : PySem.W.Frag} (c : SaysF fss fns K) : PySem.W.keepIn K (.ref (He.ma K (He.ga K "Deeds") "answered")) = true := (c.fact 3 0 (fs := fs3) rfl rfl)
theorem q_a4 {K : PySem.W.Frag} (c : SaysF fss fns K) : PySem.W.findIn K (.ref (He.ga K "Deeds")) "waiting" = some (some (.ref (He.ma K (He.ga K "Deeds") "waiting"))) := (He.eqO_ok (c.fact 3 1 (fs := fs3) rfl rfl))
theorem q_i4 {K : PySem.W.Frag} (c : SaysF fss fns K) : PySem.W.isFn K (.ref (He.ma K (He.ga K "Deeds") "waiting")) = true := (c.fact 3 2 (fs := fs3) rfl rfl)
theorem q_k4 {K : PySem.W.Frag} (c : SaysF fss fns K) : PySem.W.keepIn K (.ref (He.ma K (He.ga K "Deeds") "waiting")) = true := (c.fact 3 3 (fs := fs3) rfl rfl)
theorem q_a5 {K : PySem.W.Frag} (c : SaysF fss fns K) : PySem.W.findIn K (.ref (He.ga K "Deeds")) "is_told" = some (some (.ref (He.ma K (He.ga K "Deeds") "is_told"))) := (He.eqO_ok (c.fact 3 4 (fs := fs3) rfl rfl))
theorem q_i5 {K : PySem.W.Frag} (c : SaysF fss fns K) : PySem.W.isFn K (.ref (He.ma K (He.ga K "Deeds") "is_told")) = true := (c.fact 3 5 (fs := fs3) rfl rfl)
theorem q_k5 {K : PySem.W.Frag} (c : SaysF fss fns K) : PySem.W.keepIn K (.ref (He.ma K (He.ga K "Deeds") "is_told")) = true := (c.fact 3 6 (fs := fs3) rfl rfl)
theorem q_a6 {K : PySem.W.Frag} (c : SaysF fss fns K) : PySem.W.nsIn K mainGlobals "_law_bag" = some (some (.ref (He.ga K "_law_bag"))) := (He.eqO_ok (c.fact 3 7 (fs := fs3) rfl rfl))
theorem q_k6 {K : PySem.W.Frag} (c : SaysF fss fns K) : PySem.W.keepIn K (.ref (He.ga K "_law_bag")) = true := (c.fact 3 8 (fs := fs3) rfl rfl)
theorem q_a7 {K : PySem.W.Frag} (c : SaysF fss fns K) : PySem.W.nsIn K mainGlobals "_law_take" = some (some (.ref (He.ga K "_law_take"))) := (He.eqO_ok (c.fact 3 9 (fs := fs3) rfl rfl))
theorem q_k7 {K : PySem.W.Frag} (c : SaysF fss fns K) : PySem.W.keepIn K (.ref (He.ga K "_law_take")) = true := (c.fact 3 10 (fs := fs3) rfl rfl)
theorem q_a8 {K : PySem.W.Frag} (c : SaysF fss fns K) : PySem.W.nsIn K mainGlobals "_law_pages" = some (some (.ref (He.ga K "_law_pages"))) := (He.eqO_ok (c.fact 3 11 (fs := fs3) rfl rfl))
theorem q_k8 {K : PySem.W.Frag} (c : SaysF fss fns K) : PySem.W.keepIn K (.ref (He.ga K "_law_pages")) = true := (c.fact 3 12 (fs := fs3) rfl rfl)
theorem q_a9 {K : PySem.W.Frag} (c : SaysF fss fns K) : PySem.W.nsIn K mainGlobals "_law_whole" = some (some (.ref (He.ga K "_law_whole"))) := (He.eqO_ok (c.fact 3 13 (fs := fs3) rfl rfl))
theorem q_k9 {K : PySem.W.Frag} (c : SaysF fss fns K) : PySem.W.keepIn K (.ref (He.ga K "_law_whole")) = true := (c.fact 3 14 (fs := fs3) rfl rfl)
theorem q_a10 {K : PySem.W.Frag} (c : SaysF fss fns K) : PySem.W.nsIn K mainGlobals "_law_truth" = some (some (.ref (He.ga K "_law_truth"))) := (He.eqO_ok (c.fact 3 15 (fs := fs3) rfl rfl))
theorem q_k10 {K : PySem.W.Frag} (c : SaysF fss fns K) : PySem.W.keepIn K (.ref (He.ga K "_law_truth")) = true := (c.fact 3 16 (fs := fs3) rfl rfl)
theorem q_a11 {K : PySem.W.Frag} (c : SaysF fss fns K) : PySem.W.nsIn K mainGlobals "_law_held" = some (some (.ref (He.ga K "_law_held"))) := (He.eqO_ok (c.fact 3 17 (fs := fs3) rfl rfl))
theorem q_k11 {K : PySem.W.Frag} (c : SaysF fss fns K) : PySem.W.keepIn K (.ref (He.ga K "_law_held")) = true := (c.fact 3 18 (fs := fs3) rfl rfl)
theorem q_a12 {K : PySem.W.Frag} (c : SaysF fss fns K) : PySem.W.nsIn K mainGlobals "_law_answered" = some (some (.ref (He.ga K "_law_answered"))) := (He.eqO_ok (c.fact 3 19 (fs := fs3) rfl rfl))
theorem q_k12 {K : PySem.W.Frag} (c : SaysF fss fns K) : PySem.W.keepIn K (.ref (He.ga K "_law_answered")) = true := (c.fact 3 20 (fs := fs3) rfl rfl)
theorem q_a13 {K : PySem.W.Frag} (c : SaysF fss fns K) : PySem.W.nsIn K mainGlobals "_law_told" = some (some (.ref (He.ga K "_law_told"))) := (He.eqO_ok (c.fact 3 21 (fs := fs3) rfl rfl))
theorem q_k13 {K : PySem.W.Frag} (c : SaysF fss fns K) : PySem.W.keepIn K (.ref (He.ga K "_law_told")) = true := (c.fact 3 22 (fs := fs3) rfl rfl)
theorem q_a14 {K : PySem.W.Frag} (c : SaysF fss fns K) : PySem.W.nsIn K mainGlobals "_law_stands" = some (some (.ref (He.ga K "_law_stands"))) := (He.eqO_ok (c.fact 3 23 (fs := fs3) rfl rfl))
theorem q_k14 {K : PySem.W.Frag} (c : SaysF fss fns K) : PySem.W.keepIn K (.ref (He.ga K "_law_stands")) = true := (c.fact 3 24 (fs := fs3) rfl rfl)
theorem q_a15 {K : PySem.W.Frag} (c : SaysF fss fns K) : PySem.W.nsIn K mainGlobals "_law_begun" = some (some (.ref (He.ga K "_law_begun"))) := (He.eqO_ok (c.fact 3 25 (fs := fs3) rfl rfl))
theorem q_k15 {K : PySem.W.Frag} (c : SaysF fss fns K) : PySem.W.keepIn K (.ref (He.ga K "_law_begun")) = true := (c.fact 3 26 (fs := fs3) rfl rfl)
theorem q_a16 {K : PySem.W.Frag} (c : SaysF fss fns K) : PySem.W.nsIn K mainGlobals "law" = some (some (.ref (He.ga K "law"))) := (He.eqO_ok (c.fact 3 27 (fs := fs3) rfl rfl))
theorem q_k16 {K : PySem.W.Frag} (c : SaysF fss fns K) : PySem.W.keepIn K (.ref (He.ga K "law")) = true := (c.fact 3 28 (fs := fs3) rfl rfl)
theorem q_z0 {K : PySem.W.Frag} (c : SaysF fss fns K) : PySem.W.nsIn K mainGlobals "ValueError" = some none := (He.eqO_ok (c.fact 3 29 (fs := fs3) rfl rfl))
theorem q_z1 {K : PySem.W.Frag} (c : SaysF fss fns K) : PySem.W.nsIn K mainGlobals "bool" = some none := (He.eqO_ok (c.fact 4 0 (fs := fs4) rfl rfl))
theorem q_z2 {K : PySem.W.Frag} (c : SaysF fss fns K) : PySem.W.nsIn K mainGlobals "int" = some none := (He.eqO_ok (c.fact 4 1 (fs := fs4) rfl rfl))
theorem q_z3 {K : PySem.W.Frag} (c : SaysF fss fns K) : PySem.W.nsIn K mainGlobals "isinstance" = some none := (He.eqO_ok (c.fact 4 2 (fs := fs4) rfl rfl))
theorem q_z4 {K : PySem.W.Frag} (c : SaysF fss fns K) : PySem.W.nsIn K mainGlobals "len" = some none := (He.eqO_ok (c.fact 4 3 (fs := fs4) rfl rfl))
theorem q_z5 {K : PySem.W.Frag} (c : SaysF fss fns K) : PySem.W.nsIn K mainGlobals "list" = some none := (He.eqO_ok (c.fact 4 4 (fs := fs4) rfl rfl))
theorem q_z6 {K : PySem.W.Frag} (c : SaysF fss fns K) : PySem.W.nsIn K mainGlobals "min" = some none := (He.eqO_ok (c.fact 4 5 (fs := fs4) rfl rfl))
theorem q_z7 {K : PySem.W.Frag} (c : SaysF fss fns K) : PySem.W.nsIn K mainGlobals "range" = some none := (He.eqO_ok (c.fact 4 6 (fs := fs4) rfl rfl))
theorem q_z8 {K : PySem.W.Frag} (c : SaysF fss fns K) : PySem.W.nsIn K mainGlobals "tuple" = some none := (He.eqO_ok (c.fact 4 7 (fs := fs4) rfl rfl))
theorem okc {K : PySem.W.Frag} (c : SaysF fss fns K) : ∀ x f, f ∈ ct x → Cls K (cL K x) ∧ NoAttr K (cL K x) f := fun x f hf => by
  unfold ct at hf
  split at hf
  · exact ⟨⟨(q_pg0 c), (q_hd0 c), (q_po0 c), (q_sa0 c)⟩, (List.forall_mem_cons (p := fun f => NoAttr K (He.ga K "Deeds") f)).2 ⟨(q_nf0_0 c), (List.forall_mem_cons (p := fun f => NoAttr K (He.ga K "Deeds") f)).2 ⟨(q_nf0_1 c), fun _ z => absurd z List.not_mem_nil⟩⟩ f hf⟩
  · cases hf
abbrev gX {K : PySem.W.Frag} (c : SaysF fss fns K) : Gx := gx K (cL K) (okc c)
theorem bB {K : PySem.W.Frag} {h : Heap} {mg : Str → Option Value} (X : K.In h) (G : h.Ns mainGlobals mg) (c : SaysF fss fns K) : Bi mg := ⟨PySem.W.mg_none_of X G (q_z0 c), PySem.W.mg_none_of X G (q_z1 c), PySem.W.mg_none_of X G (q_z2 c), PySem.W.mg_none_of X G (q_z3 c), PySem.W.mg_none_of X G (q_z4 c), PySem.W.mg_none_of X G (q_z5 c), PySem.W.mg_none_of X G (q_z6 c), PySem.W.mg_none_of X G (q_z7 c), PySem.W.mg_none_of X G (q_z8 c)⟩
theorem rX9 {K : PySem.W.Frag} {h : Heap} {mg : Str → Option Value} (X : K.In h) (G : h.Ns mainGlobals mg) (c : SaysF fss fns K) : RaiseOk K mg "NoDeed" (cL K 9) := ⟨(q_xe9 c), PySem.W.mg_of X G (q_aC9 c), (q_kc9 c), (q_xs9 c), (q_xt9 c)⟩
theorem qFK {K : PySem.W.Frag} (c : SaysF fss fns K) : ∃ fd, Fun K "_law_kinds" "_law_kinds" s_law_kinds (He.ga K "_law_kinds") fd := by
  obtain ⟨oc, od, sl, kV, dc, pm, an, cd, ct, l, c1⟩ := c.fun_ 17 (d := fdK) rfl
  exact ⟨_, fun_mk (st := s_law_kinds) l c1 (q_kK c)⟩
theorem cKD {P : Program} {w : World} {K : PySem.W.Frag} {h : Heap} {mg : Str → Option Value} {base : Heap} (X : K.In h) (G : h.Ns mainGlobals mg) (c : SaysF fss fns K) : KindsOk P w (gX c) mg base 1 "_law_kinds" "CallError" kn := by
  obtain ⟨fd, FK⟩ := qFK c
  have bK := FK.binds (ps := ["e"]) fun _ _ _ _ _ _ us hl => match us, hl with | [_], _ => rfl
  refine ⟨⟨(He.ga K "_law_kinds"), _, "e", PySem.W.mg_of X G (q_aK c), (q_kK c), bK, fun x kd hc => ?_⟩, He.ga K "CallError", PySem.W.mg_of X G (q_aA_CallError c), fun x kd hc => ?_⟩
  rotate_left
  · unfold kn at hc
    split at hc
    · exact PySem.W.exm_ref (q_cb c) (q_cd c) (q_it_A_CallError c) (q_xm9 c)
    · cases hc
  · unfold kn at hc
    split at hc
    · cases hc
      exact okk (cl := cL K) (okc := okc c) FK (bB X G c) (PySem.W.mg_of X G (q_aA_NoCall c)) (PySem.W.mg_of X G (q_aA_Here c)) (PySem.W.mg_of X G (q_aA_BadRow c)) (PySem.W.mg_of X G (q_aA_Asleep c)) (PySem.W.mg_of X G (q_aA_NoPage c)) (PySem.W.mg_of X G (q_aA_NoLeaf c)) (PySem.W.mg_of X G (q_aA_NoHand c)) (PySem.W.mg_of X G (q_aC9 c)) (PySem.W.mg_of X G (q_aA_Taken c)) (PySem.W.mg_of X G (q_aA_NoSpace c)) (PySem.W.mg_of X G (q_aA_NoRoom c)) (PySem.W.mg_of X G (q_aA_NoRight c)) (PySem.W.mg_of X G (q_aA_Waits c)) ⟨(q_e1_9 c), (q_e2_9 c), (q_xs9 c), (q_e3_9 c), (q_e4_9 c), (q_e5_9 c), (q_e6_9 c), (q_e7_9 c)⟩ (kit_no (q_ss9 c) (q_ic_A_NoCall c) (q_it_A_NoCall c) (q_q9_0 c)) (kit_no (q_ss9 c) (q_ic_A_Here c) (q_it_A_Here c) (q_q9_1 c)) (kit_no (q_ss9 c) (q_ic_A_BadRow c) (q_it_A_BadRow c) (q_q9_2 c)) (kit_no (q_ss9 c) (q_ic_A_Asleep c) (q_it_A_Asleep c) (q_q9_3 c)) (kit_no (q_ss9 c) (q_ic_A_NoPage c) (q_it_A_NoPage c) (q_q9_4 c)) (kit_no (q_ss9 c) (q_ic_A_NoLeaf c) (q_it_A_NoLeaf c) (q_q9_5 c)) (kit_no (q_ss9 c) (q_ic_A_NoHand c) (q_it_A_NoHand c) (q_q9_6 c)) kit_self (kit_no (q_ss9 c) (q_ic_A_Taken c) (q_it_A_Taken c) (q_q9_8 c)) (kit_no (q_ss9 c) (q_ic_A_NoSpace c) (q_it_A_NoSpace c) (q_q9_9 c)) (kit_no (q_ss9 c) (q_ic_A_NoRoom c) (q_it_A_NoRoom c) (q_q9_10 c)) (kit_no (q_ss9 c) (q_ic_A_NoRight c) (q_it_A_NoRight c) (q_q9_11 c)) (kit_ve (q_q9_12 c)) (kit_no (q_ss9 c) (q_ic_A_Waits c) (q_it_A_Waits c) (q_q9_13 c)) (S1 := _) rfl
    · cases hc
theorem qF0 {K : PySem.W.Frag} (c : SaysF fss fns K) : ∃ fd, Fun K "__init__" "Deeds.__init__" s_Deeds___init (He.ma K (He.ga K "Deeds") "__init__") fd := by
  obtain ⟨oc, od, sl, kV, dc, pm, an, cd, ct, l, c1⟩ := c.fun_ 0 (d := fd0) rfl
  exact ⟨_, fun_mk (st := s_Deeds___init) l c1 (q_k0 c)⟩
theorem qF1 {K : PySem.W.Frag} (c : SaysF fss fns K) : ∃ fd, Fun K "begin" "Deeds.begin" s_Deeds_begin (He.ma K (He.ga K "Deeds") "begin") fd := by
  obtain ⟨oc, od, sl, kV, dc, pm, an, cd, ct, l, c1⟩ := c.fun_ 1 (d := fd1) rfl
  exact ⟨_, fun_mk (st := s_Deeds_begin) l c1 (q_k1 c)⟩
theorem qF2 {K : PySem.W.Frag} (c : SaysF fss fns K) : ∃ fd, Fun K "holds" "Deeds.holds" s_Deeds_holds (He.ma K (He.ga K "Deeds") "holds") fd := by
  obtain ⟨oc, od, sl, kV, dc, pm, an, cd, ct, l, c1⟩ := c.fun_ 2 (d := fd2) rfl
  exact ⟨_, fun_mk (st := s_Deeds_holds) l c1 (q_k2 c)⟩
theorem qF3 {K : PySem.W.Frag} (c : SaysF fss fns K) : ∃ fd, Fun K "answered" "Deeds.answered" s_Deeds_answered (He.ma K (He.ga K "Deeds") "answered") fd := by
  obtain ⟨oc, od, sl, kV, dc, pm, an, cd, ct, l, c1⟩ := c.fun_ 3 (d := fd3) rfl
  exact ⟨_, fun_mk (st := s_Deeds_answered) l c1 (q_k3 c)⟩
theorem qF4 {K : PySem.W.Frag} (c : SaysF fss fns K) : ∃ fd, Fun K "waiting" "Deeds.waiting" s_Deeds_waiting (He.ma K (He.ga K "Deeds") "waiting") fd := by
  obtain ⟨oc, od, sl, kV, dc, pm, an, cd, ct, l, c1⟩ := c.fun_ 4 (d := fd4) rfl
  exact ⟨_, fun_mk (st := s_Deeds_waiting) l c1 (q_k4 c)⟩
theorem qF5 {K : PySem.W.Frag} (c : SaysF fss fns K) : ∃ fd, Fun K "is_told" "Deeds.is_told" s_Deeds_is_told (He.ma K (He.ga K "Deeds") "is_told") fd := by
  obtain ⟨oc, od, sl, kV, dc, pm, an, cd, ct, l, c1⟩ := c.fun_ 5 (d := fd5) rfl
  exact ⟨_, fun_mk (st := s_Deeds_is_told) l c1 (q_k5 c)⟩
theorem qF6 {K : PySem.W.Frag} (c : SaysF fss fns K) : ∃ fd, Fun K "_law_bag" "_law_bag" s_law_bag (He.ga K "_law_bag") fd := by
  obtain ⟨oc, od, sl, kV, dc, pm, an, cd, ct, l, c1⟩ := c.fun_ 6 (d := fd6) rfl
  exact ⟨_, fun_mk (st := s_law_bag) l c1 (q_k6 c)⟩
theorem qF7 {K : PySem.W.Frag} (c : SaysF fss fns K) : ∃ fd, Fun K "_law_take" "_law_take" s_law_take (He.ga K "_law_take") fd := by
  obtain ⟨oc, od, sl, kV, dc, pm, an, cd, ct, l, c1⟩ := c.fun_ 7 (d := fd7) rfl
  exact ⟨_, fun_mk (st := s_law_take) l c1 (q_k7 c)⟩
theorem qF8 {K : PySem.W.Frag} (c : SaysF fss fns K) : ∃ fd, Fun K "_law_pages" "_law_pages" s_law_pages (He.ga K "_law_pages") fd := by
  obtain ⟨oc, od, sl, kV, dc, pm, an, cd, ct, l, c1⟩ := c.fun_ 8 (d := fd8) rfl
  exact ⟨_, fun_mk (st := s_law_pages) l c1 (q_k8 c)⟩
theorem qF9 {K : PySem.W.Frag} (c : SaysF fss fns K) : ∃ fd, Fun K "_law_whole" "_law_whole" s_law_whole (He.ga K "_law_whole") fd := by
  obtain ⟨oc, od, sl, kV, dc, pm, an, cd, ct, l, c1⟩ := c.fun_ 9 (d := fd9) rfl
  exact ⟨_, fun_mk (st := s_law_whole) l c1 (q_k9 c)⟩
theorem qF10 {K : PySem.W.Frag} (c : SaysF fss fns K) : ∃ fd, Fun K "_law_truth" "_law_truth" s_law_truth (He.ga K "_law_truth") fd := by
  obtain ⟨oc, od, sl, kV, dc, pm, an, cd, ct, l, c1⟩ := c.fun_ 10 (d := fd10) rfl
  exact ⟨_, fun_mk (st := s_law_truth) l c1 (q_k10 c)⟩
theorem qF11 {K : PySem.W.Frag} (c : SaysF fss fns K) : ∃ fd, Fun K "_law_held" "_law_held" s_law_held (He.ga K "_law_held") fd := by
  obtain ⟨oc, od, sl, kV, dc, pm, an, cd, ct, l, c1⟩ := c.fun_ 11 (d := fd11) rfl
  exact ⟨_, fun_mk (st := s_law_held) l c1 (q_k11 c)⟩
theorem qF12 {K : PySem.W.Frag} (c : SaysF fss fns K) : ∃ fd, Fun K "_law_answered" "_law_answered" s_law_answered (He.ga K "_law_answered") fd := by
  obtain ⟨oc, od, sl, kV, dc, pm, an, cd, ct, l, c1⟩ := c.fun_ 12 (d := fd12) rfl
  exact ⟨_, fun_mk (st := s_law_answered) l c1 (q_k12 c)⟩
theorem qF13 {K : PySem.W.Frag} (c : SaysF fss fns K) : ∃ fd, Fun K "_law_told" "_law_told" s_law_told (He.ga K "_law_told") fd := by
  obtain ⟨oc, od, sl, kV, dc, pm, an, cd, ct, l, c1⟩ := c.fun_ 13 (d := fd13) rfl
  exact ⟨_, fun_mk (st := s_law_told) l c1 (q_k13 c)⟩
theorem qF14 {K : PySem.W.Frag} (c : SaysF fss fns K) : ∃ fd, Fun K "_law_stands" "_law_stands" s_law_stands (He.ga K "_law_stands") fd := by
  obtain ⟨oc, od, sl, kV, dc, pm, an, cd, ct, l, c1⟩ := c.fun_ 14 (d := fd14) rfl
  exact ⟨_, fun_mk (st := s_law_stands) l c1 (q_k14 c)⟩
theorem qF15 {K : PySem.W.Frag} (c : SaysF fss fns K) : ∃ fd, Fun K "_law_begun" "_law_begun" s_law_begun (He.ga K "_law_begun") fd := by
  obtain ⟨oc, od, sl, kV, dc, pm, an, cd, ct, l, c1⟩ := c.fun_ 15 (d := fd15) rfl
  exact ⟨_, fun_mk (st := s_law_begun) l c1 (q_k15 c)⟩
theorem D6d {P : Program} {w : World} {K : PySem.W.Frag} {h : Heap} {mg : Str → Option Value} {base : Heap} (X : K.In h) (G : h.Ns mainGlobals mg) (c : SaysF fss fns K) : DefOk P w (gX c) mg base 1 "_law_bag" 2 m_law_bag := by
  obtain ⟨fd, F⟩ := qF6 c
  exact ⟨(He.ga K "_law_bag"), _, _, ok_law_bag (P := P) (w := w) (cl := cL K) (okc := okc c) (base := base) F (bB X G c) , PySem.W.mg_of X G (q_a6 c), (q_k6 c), (F.binds (ps := ["script", "k"]) fun _ _ _ _ _ _ us hl => match us, hl with | [_, _], _ => rfl)⟩
theorem D7d {P : Program} {w : World} {K : PySem.W.Frag} {h : Heap} {mg : Str → Option Value} {base : Heap} (X : K.In h) (G : h.Ns mainGlobals mg) (c : SaysF fss fns K) : DefOk P w (gX c) mg base 1 "_law_take" 2 m_law_take := by
  obtain ⟨fd, F⟩ := qF7 c
  exact ⟨(He.ga K "_law_take"), _, _, ok_law_take (P := P) (w := w) (cl := cL K) (okc := okc c) (base := base) F (bB X G c) , PySem.W.mg_of X G (q_a7 c), (q_k7 c), (F.binds (ps := ["bag", "many"]) fun _ _ _ _ _ _ us hl => match us, hl with | [_, _], _ => rfl)⟩
theorem D0k {P : Program} {w : World} {K : PySem.W.Frag} {h : Heap} {mg : Str → Option Value} {base : Heap} (X : K.In h) (G : h.Ns mainGlobals mg) (c : SaysF fss fns K) : MakeOk P w (gX c) mg base 1 0 "Deeds" 1 m_Deeds___init := by
  obtain ⟨fd, F⟩ := qF0 c
  exact ⟨(He.ma K (He.ga K "Deeds") "__init__"), _, _, ok_Deeds___init (P := P) (w := w) (cl := cL K) (okc := okc c) (base := base) F (bB X G c) , PySem.W.mg_of X G (q_aC0 c), ⟨(q_mk0 c), (q_a0 c), (q_i0 c), (q_kc0 c)⟩, (F.binds (ps := ["self"]) fun _ _ _ _ _ _ us hl => match us, hl with | [_], _ => rfl)⟩
theorem D11d {P : Program} {w : World} {K : PySem.W.Frag} {h : Heap} {mg : Str → Option Value} {base : Heap} (X : K.In h) (G : h.Ns mainGlobals mg) (c : SaysF fss fns K) : DefOk P w (gX c) mg base 1 "_law_held" 3 m_law_held := by
  obtain ⟨fd, F⟩ := qF11 c
  exact ⟨(He.ga K "_law_held"), _, _, ok_law_held (P := P) (w := w) (cl := cL K) (okc := okc c) (base := base) F (bB X G c) , PySem.W.mg_of X G (q_a11 c), (q_k11 c), (F.binds (ps := ["pending", "space", "page"]) fun _ _ _ _ _ _ us hl => match us, hl with | [_, _, _], _ => rfl)⟩
theorem D8d {P : Program} {w : World} {K : PySem.W.Frag} {h : Heap} {mg : Str → Option Value} {base : Heap} (X : K.In h) (G : h.Ns mainGlobals mg) (c : SaysF fss fns K) : DefOk P w (gX c) mg base 2 "_law_pages" 2 m_law_pages := by
  obtain ⟨fd, F⟩ := qF8 c
  exact ⟨(He.ga K "_law_pages"), _, _, ok_law_pages (P := P) (w := w) (cl := cL K) (okc := okc c) (base := base) F (bB X G c) (D7d X G c), PySem.W.mg_of X G (q_a8 c), (q_k8 c), (F.binds (ps := ["bag", "many"]) fun _ _ _ _ _ _ us hl => match us, hl with | [_, _], _ => rfl)⟩
theorem D1m {P : Program} {w : World} {K : PySem.W.Frag} {h : Heap} {mg : Str → Option Value} {base : Heap} (X : K.In h) (G : h.Ns mainGlobals mg) (c : SaysF fss fns K) : MethOk P w (gX c) mg base 1 0 "begin" 5 m_Deeds_begin := by
  obtain ⟨fd, F⟩ := qF1 c
  exact ⟨(He.ma K (He.ga K "Deeds") "begin"), _, _, ok_Deeds_begin (P := P) (w := w) (cl := cL K) (okc := okc c) (base := base) F (bB X G c) , ⟨(q_pg0 c), (q_hd0 c), (q_po0 c), (q_sa0 c)⟩, ⟨(q_a1 c), (q_i1 c), (q_k1 c)⟩, (F.binds (ps := ["self", "space", "pages", "rooms", "hands"]) fun _ _ _ _ _ _ us hl => match us, hl with | [_, _, _, _, _], _ => rfl)⟩
theorem D9d {P : Program} {w : World} {K : PySem.W.Frag} {h : Heap} {mg : Str → Option Value} {base : Heap} (X : K.In h) (G : h.Ns mainGlobals mg) (c : SaysF fss fns K) : DefOk P w (gX c) mg base 1 "_law_whole" 1 m_law_whole := by
  obtain ⟨fd, F⟩ := qF9 c
  exact ⟨(He.ga K "_law_whole"), _, _, ok_law_whole (P := P) (w := w) (cl := cL K) (okc := okc c) (base := base) F (bB X G c) , PySem.W.mg_of X G (q_a9 c), (q_k9 c), (F.binds (ps := ["thing"]) fun _ _ _ _ _ _ us hl => match us, hl with | [_], _ => rfl)⟩
theorem D15d {P : Program} {w : World} {K : PySem.W.Frag} {h : Heap} {mg : Str → Option Value} {base : Heap} (X : K.In h) (G : h.Ns mainGlobals mg) (c : SaysF fss fns K) : DefOk P w (gX c) mg base 3 "_law_begun" 5 m_law_begun := by
  obtain ⟨fd, F⟩ := qF15 c
  exact ⟨(He.ga K "_law_begun"), _, _, ok_law_begun (P := P) (w := w) (cl := cL K) (okc := okc c) (base := base) F (bB X G c) (D7d X G c) (D11d X G c) (D8d X G c) (D1m X G c) (D9d X G c), PySem.W.mg_of X G (q_a15 c), (q_k15 c), (F.binds (ps := ["bag", "deeds", "coming", "pending", "wide"]) fun _ _ _ _ _ _ us hl => match us, hl with | [_, _, _, _, _], _ => rfl)⟩
theorem D3m {P : Program} {w : World} {K : PySem.W.Frag} {h : Heap} {mg : Str → Option Value} {base : Heap} (X : K.In h) (G : h.Ns mainGlobals mg) (c : SaysF fss fns K) : MethOk P w (gX c) mg base 1 0 "answered" 2 m_Deeds_answered := by
  obtain ⟨fd, F⟩ := qF3 c
  exact ⟨(He.ma K (He.ga K "Deeds") "answered"), _, _, ok_Deeds_answered (P := P) (w := w) (cl := cL K) (okc := okc c) (base := base) F (bB X G c) , ⟨(q_pg0 c), (q_hd0 c), (q_po0 c), (q_sa0 c)⟩, ⟨(q_a3 c), (q_i3 c), (q_k3 c)⟩, (F.binds (ps := ["self", "hand"]) fun _ _ _ _ _ _ us hl => match us, hl with | [_, _], _ => rfl)⟩
theorem D12d {P : Program} {w : World} {K : PySem.W.Frag} {h : Heap} {mg : Str → Option Value} {base : Heap} (X : K.In h) (G : h.Ns mainGlobals mg) (c : SaysF fss fns K) : DefOk P w (gX c) mg base 2 "_law_answered" 3 m_law_answered := by
  obtain ⟨fd, F⟩ := qF12 c
  exact ⟨(He.ga K "_law_answered"), _, _, ok_law_answered (P := P) (w := w) (cl := cL K) (okc := okc c) (base := base) F (bB X G c) (D3m X G c), PySem.W.mg_of X G (q_a12 c), (q_k12 c), (F.binds (ps := ["deeds", "pending", "hand"]) fun _ _ _ _ _ _ us hl => match us, hl with | [_, _, _], _ => rfl)⟩
theorem D4m {P : Program} {w : World} {K : PySem.W.Frag} {h : Heap} {mg : Str → Option Value} {base : Heap} (X : K.In h) (G : h.Ns mainGlobals mg) (c : SaysF fss fns K) : MethOk P w (gX c) mg base 1 0 "waiting" 1 m_Deeds_waiting := by
  obtain ⟨fd, F⟩ := qF4 c
  exact ⟨(He.ma K (He.ga K "Deeds") "waiting"), _, _, ok_Deeds_waiting (P := P) (w := w) (cl := cL K) (okc := okc c) (base := base) F (bB X G c) , ⟨(q_pg0 c), (q_hd0 c), (q_po0 c), (q_sa0 c)⟩, ⟨(q_a4 c), (q_i4 c), (q_k4 c)⟩, (F.binds (ps := ["self"]) fun _ _ _ _ _ _ us hl => match us, hl with | [_], _ => rfl)⟩
theorem D10d {P : Program} {w : World} {K : PySem.W.Frag} {h : Heap} {mg : Str → Option Value} {base : Heap} (X : K.In h) (G : h.Ns mainGlobals mg) (c : SaysF fss fns K) : DefOk P w (gX c) mg base 1 "_law_truth" 2 m_law_truth := by
  obtain ⟨fd, F⟩ := qF10 c
  exact ⟨(He.ga K "_law_truth"), _, _, ok_law_truth (P := P) (w := w) (cl := cL K) (okc := okc c) (base := base) F (bB X G c) , PySem.W.mg_of X G (q_a10 c), (q_k10 c), (F.binds (ps := ["thing", "due"]) fun _ _ _ _ _ _ us hl => match us, hl with | [_, _], _ => rfl)⟩
theorem D5m {P : Program} {w : World} {K : PySem.W.Frag} {h : Heap} {mg : Str → Option Value} {base : Heap} (X : K.In h) (G : h.Ns mainGlobals mg) (c : SaysF fss fns K) : MethOk P w (gX c) mg base 1 0 "is_told" 2 m_Deeds_is_told := by
  obtain ⟨fd, F⟩ := qF5 c
  exact ⟨(He.ma K (He.ga K "Deeds") "is_told"), _, _, ok_Deeds_is_told (P := P) (w := w) (cl := cL K) (okc := okc c) (base := base) F (bB X G c) (rX9 X G c), ⟨(q_pg0 c), (q_hd0 c), (q_po0 c), (q_sa0 c)⟩, ⟨(q_a5 c), (q_i5 c), (q_k5 c)⟩, (F.binds (ps := ["self", "number"]) fun _ _ _ _ _ _ us hl => match us, hl with | [_, _], _ => rfl)⟩
theorem D13d {P : Program} {w : World} {K : PySem.W.Frag} {h : Heap} {mg : Str → Option Value} {base : Heap} (X : K.In h) (G : h.Ns mainGlobals mg) (c : SaysF fss fns K) : DefOk P w (gX c) mg base 2 "_law_told" 2 m_law_told := by
  obtain ⟨fd, F⟩ := qF13 c
  exact ⟨(He.ga K "_law_told"), _, _, ok_law_told (P := P) (w := w) (cl := cL K) (okc := okc c) (base := base) F (bB X G c) (cKD X G c) (D5m X G c), PySem.W.mg_of X G (q_a13 c), (q_k13 c), (F.binds (ps := ["deeds", "number"]) fun _ _ _ _ _ _ us hl => match us, hl with | [_, _], _ => rfl)⟩
theorem D2m {P : Program} {w : World} {K : PySem.W.Frag} {h : Heap} {mg : Str → Option Value} {base : Heap} (X : K.In h) (G : h.Ns mainGlobals mg) (c : SaysF fss fns K) : MethOk P w (gX c) mg base 1 0 "holds" 3 m_Deeds_holds := by
  obtain ⟨fd, F⟩ := qF2 c
  exact ⟨(He.ma K (He.ga K "Deeds") "holds"), _, _, ok_Deeds_holds (P := P) (w := w) (cl := cL K) (okc := okc c) (base := base) F (bB X G c) , ⟨(q_pg0 c), (q_hd0 c), (q_po0 c), (q_sa0 c)⟩, ⟨(q_a2 c), (q_i2 c), (q_k2 c)⟩, (F.binds (ps := ["self", "space", "page"]) fun _ _ _ _ _ _ us hl => match us, hl with | [_, _, _], _ => rfl)⟩
theorem D14d {P : Program} {w : World} {K : PySem.W.Frag} {h : Heap} {mg : Str → Option Value} {base : Heap} (X : K.In h) (G : h.Ns mainGlobals mg) (c : SaysF fss fns K) : DefOk P w (gX c) mg base 3 "_law_stands" 4 m_law_stands := by
  obtain ⟨fd, F⟩ := qF14 c
  exact ⟨(He.ga K "_law_stands"), _, _, ok_law_stands (P := P) (w := w) (cl := cL K) (okc := okc c) (base := base) F (bB X G c) (D4m X G c) (D10d X G c) (D5m X G c) (D13d X G c) (D11d X G c) (D2m X G c), PySem.W.mg_of X G (q_a14 c), (q_k14 c), (F.binds (ps := ["deeds", "coming", "pending", "wide"]) fun _ _ _ _ _ _ us hl => match us, hl with | [_, _, _, _], _ => rfl)⟩
theorem facts {P : Program} {w : World} {K : PySem.W.Frag} {h : Heap} {mg : Str → Option Value} {fa : Addr} (X : K.In h) (G : h.Ns mainGlobals mg) (hfa : mg "law" = some (.ref fa)) (c : SaysF fss fns K) :
    ∃ fd : FuncData, (∀ (s : Shared) (v : Value), BindsTo s fd ⟨[v], []⟩ [("script", v)]) ∧ ∀ base : Heap, K.In base → base.Ns mainGlobals mg → FnOk P w K mg base (L2N.CX P w) 4 fa fd ["script"] (VT.spL 63 K) := by
  have e := hfa.symm.trans (PySem.W.mg_of X G (q_a16 c))
  cases e
  obtain ⟨oc, od, sl, kV, dc, pm, an, cd, cq, l, c1⟩ := c.fun_ 16 (d := fd16) rfl
  have F := fun_mk (st := s_law) l c1 (q_k16 c)
  refine ⟨PySem.W.fnOf "law" "law" (defArgs s_law) (defBody s_law) (defScope s_law) .none kV dc pm an cd cq, fun s v => .of_eq rfl, fun base _ _ => ?_⟩
  exact FnOk.imp (ok_law (P := P) (w := w) (cl := cL K) (okc := okc c) (base := base) F (bB X G c) (D6d X G c) (D7d X G c) (D0k X G c) (D15d X G c) (D12d X G c) (D14d X G c) (D4m X G c) (D1m X G c)) fun vs H Q E q => VT.spL_sp (Γ := gX c) law_end q
end K05
open PySem PySem.W PySem.Calls PyProof.Rows
theorem PySem.Challenge.cw_leafcall_k05_deeds_that_wait_holds : PySem.Challenge.rw_leafcall_k05_deeds_that_wait.Holds := by
  refine K05.hold_of fun q => ?_
  refine VT.walk_own (l := PySem.Challenge.rw_leafcall_k05_deeds_that_wait) (n := 63) (k := 4) (x := "script") (CX := fun w => L2N.CX PySem.Challenge.rw_leafcall_k05_deeds_that_wait.prog w) rfl (by decide) (by kernel_rfl) ⟨rfl, by decide, by decide⟩ ?F (fun w H s e s' z => by
    obtain ⟨_, _, _, _, _, _, _, _, _, _, _, _, z⟩ := z
    exact z)
  intro w mg fa h Y G hm0
  obtain ⟨K, KX, c⟩ := Y
  have hm : mg ("law" : PySem.Str) = some (.ref fa) := by
    have e : (HandSHeadRun.topDef (OpenLaw.row PySem.Challenge.rw_leafcall_k05_deeds_that_wait).prog 29).name = ("law" : PySem.Str) := by kernel_rfl
    rw [← e]
    exact hm0
  obtain ⟨fd, hb, hF⟩ := K05.facts (P := PySem.Challenge.rw_leafcall_k05_deeds_that_wait.prog) (w := w) KX G hm c
  exact ⟨K, KX, fd, VT.spL 63 K, hb, fun H a ns hl hO hS => ⟨a, ns, rfl, hl, hO, hS, fun _ => rfl⟩, hF⟩
#print axioms PySem.Challenge.cw_leafcall_k05_deeds_that_wait_holds
