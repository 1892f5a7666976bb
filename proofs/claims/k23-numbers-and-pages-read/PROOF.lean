import PyProof.Rows.All
import Wide.All
import OpenK.AllK
import Wide.FinOn
import HandS.Head0
import HandS.Head1
import HandS.Head2
import HandS.HeadEnd
import HandS.HeadHook1
import HandS.Words
import PySem.Challenge.RW_leafcall_k23_numbers_and_pages_read
import HandS.ForMost
import HandS.ForExc
import HandS.HotCalls
import HandS.ExcIs
import HandS.Deep
import HandS.IsInst
import HandS.Conv
import HandS.Flow
import HandS.Style
import KE.DataFind
import HandS.TryOnly
import PyProof.ExcBaseAll.ValueError
import HandS.RaiseMore
import HandS.DictTup
import HandS.SortRule
import HandS.SortInts
import HandS.More
import HandS.NoneIn
import KE.KDictPairs
import KE.KDictKeyed
import HandS.TupAny
import HandS.Iter
import HandS.TupSets
import HandS.SetFor
import HandS.DictEq
import HandS.Text
import HandS.Zip
import HandS.ExcCtx
set_option Elab.async false
set_option linter.all false
set_option maxRecDepth 100000
set_option maxHeartbeats 0
namespace VT
open PySem L2
abbrev FB := PySem.W.Frag → Bool
def obsF (fss : List (List FB)) (fn : List He.FnD) (K : PySem.W.Frag) : He.Al :=
  (fss.all (fun fs => fs.all fun f => f K) && fn.all (fun d => (He.Fa.code d.at_ d.qual).ok K), fn.map fun d => He.fnObs K d.at_)
def SaysF (fss : List (List FB)) (fn : List He.FnD) (K : PySem.W.Frag) : Prop := obsF fss fn K = He.valE fn
section
variable {fss : List (List FB)} {fn : List He.FnD} {K : PySem.W.Frag}
theorem SaysF.both (c : SaysF fss fn K) : (fss.all (fun fs => fs.all fun f => f K) = true ∧ fn.all (fun d => (He.Fa.code d.at_ d.qual).ok K) = true) ∧ (fn.map fun d => He.fnObs K d.at_) = fn.map He.FnD.val :=
  ⟨He.ba (congrArg Prod.fst c), congrArg Prod.snd c⟩
theorem SaysF.part (c : SaysF fss fn K) (i : Nat) {fs : List FB} (h : fss[i]? = some fs) : ∀ f ∈ fs, f K = true :=
  fun f hf => List.all_eq_true.mp (List.all_eq_true.mp c.both.1.1 fs (List.mem_of_getElem? h)) f hf
theorem SaysF.fact (c : SaysF fss fn K) (i j : Nat) {fs : List FB} {f : FB} (h : fss[i]? = some fs) (g : fs[j]? = some f) : f K = true := c.part i h f (List.mem_of_getElem? g)
theorem SaysF.fun_ (c : SaysF fss fn K) (i : Nat) {d : He.FnD} (h : fn[i]? = some d) :
    ∃ oc od osl kV doc pm an cdv ct, K.lookup (He.fAd K d.at_) = some ⟨oc, od, .func (PySem.W.fnOf d.name d.qual d.params d.body d.scope .none kV doc pm an cdv ct), osl⟩ ∧ PySem.W.codeIn K cdv d.qual = true := by
  have e := congrArg (fun l => l[i]?) c.both.2
  simp only [List.getElem?_map, h, Option.map_some, Option.some.injEq] at e
  exact He.fn_ok e (List.all_eq_true.mp c.both.1.2 d (List.mem_of_getElem? h))
end
/-- a law over such a head -/
theorem walk_own {l : PySem.W.OpenLaw} {n k : Nat} {q : Program} {loose : List Str} {XP : (Str → Option Value) → Heap → Prop} {YP : World → Heap → Prop} {d : DefRec} {CX : World → CXT} {x : Str} (hn : l.most = some n) (hn2 : n ≤ sizeLine) (hdf : d.params.defaults = []) (hr : Room k callerA)
    (F : ∀ (w : World) (mg : Str → Option Value) (fa : Addr) (h : Heap), YP w h → h.Ns mainGlobals mg → mg d.name = some (.ref fa) → ∃ K : PySem.W.Frag, K.In h ∧ ∃ (fd : FuncData) (sp : Sp), (∀ (s : Shared) (u : Value), BindsTo s fd ⟨[u], []⟩ [(x, u)]) ∧ (∀ (H : Hp) (a : Addr) (ns : List Int), ns.length ≤ n → Only H → SqL K H a (ns.map V.int) → sp [.ref a] H (fun v _ => v = .bl true) fun _ _ _ => False) ∧ ∀ b : Heap, K.In b → b.Ns mainGlobals mg → FnOk l.prog w K mg b (CX w) k fa fd [x] sp)
    (hCX : ∀ (w : World) (H : Hp) (s : Shared) (e : Value) (s' : Shared), CX w [] H s (fun _ _ _ => False) e s' → False) : PySem.W.WalkO q loose XP YP l.row.toRowW d [] (fun f vs => PySem.call f vs) :=
  Att.attach_call hn hdf fun w _ s1 mg _ fa _ _ _ _ a _ ns G Y _ _ _ hmg hobj hints hlen hg =>
    (F w mg fa _ Y G.T.g hmg).elim fun _ z => z.2.elim fun _ z2 => z2.elim fun _ y =>
      law_call z.1 G.T.g G.T.b G.T.builtins G.T.nolimit hg hobj hints (Nat.le_trans hlen hn2) hr y.2.2 y.1 (fun H hO hS => y.2.1 H a ns hlen hO hS) fun H e s' => hCX w H s1 e s'
end VT
namespace VT
open PySem L2
def asN (n k : Nat) : List Addr := mainGlobals :: List.range' (n - k) k
def obsR (k : Nat) (fss : List (List FB)) (fn : List He.FnD) (g : Addr → Option Obj) (n : Nat) : He.Al := obsF fss fn (He.frG g (asN n k))
def hookR (k : Nat) (fss : List (List FB)) (fn : List He.FnD) : PySem.W.Hook :=
  { α := He.Al
    obs := fun s => obsR k fss fn s.heap.get? s.heap.objs.size
    val := fun _ => He.valE fn
    says := fun _ h => ∃ K, PySem.W.Frag.In K h ∧ SaysF fss fn K
    of := fun _ _ e => ⟨_, He.frG_in, e⟩
    keeps := fun _ _ _ z k => z.elim fun K y => ⟨K, y.1.keeps k, y.2⟩ }
theorem obsR_eq {k : Nat} {fss : List (List FB)} {fn : List He.FnD} (s : PySem.W.SharedT) : obsR k fss fn (HandSHeadRun.getT s) s.n = (hookR k fss fn).obs s.abs := by
  show _ = obsR k fss fn s.abs.heap.get? s.abs.heap.objs.size
  rw [show s.abs.heap.objs.size = s.n from PySem.W.absHeap_size _ _ _, show HandSHeadRun.getT s = s.abs.heap.get? from funext (HandSHeadRun.getT_eq s)]
/-- the end's looks apart -/
theorem run_split {E : Option PySem.W.SharedT} {β γ : Type} {f1 : PySem.W.SharedT → Bool} {f2 : PySem.W.SharedT → β} {t c : PySem.W.SharedT → Bool} {o : PySem.W.SharedT → γ} {b : β} {v : γ} (h1 : E.map f1 = some true) (h2 : E.map f2 = some b) (h3 : E.map t = some true) (h4 : E.map (fun s => (c s, o s)) = some (true, v)) :
    E.map (fun s => (f1 s, f2 s, (t s && c s, o s))) = some (true, b, (true, v)) := by
  cases E with
  | none => cases h1
  | some s =>
    have e1 : f1 s = true := Option.some.inj h1
    have e2 : f2 s = b := Option.some.inj h2
    have e3 : t s = true := Option.some.inj h3
    have e4 : (c s, o s) = (true, v) := Option.some.inj h4
    have e5 : c s = true := congrArg Prod.fst e4
    have e6 : o s = v := congrArg Prod.snd e4
    show some (f1 s, f2 s, (t s && c s, o s)) = _
    rw [e1, e2, e3, e5, e6]
    try rfl
end VT
namespace K23
open PySem L2
def top (i : Nat) : Stmt := PySem.Challenge.pw_leafcall_k23_numbers_and_pages_read.main.body.getD i (.Pass ⟨0, 0, 0, 0⟩)
abbrev s_read_number : Stmt := top 19
abbrev s_read_signed : Stmt := top 20
abbrev s_read_pages : Stmt := top 21
abbrev s_law_bag : Stmt := top 23
abbrev s_law_take : Stmt := top 24
abbrev s_law_whole : Stmt := top 25
abbrev s_law_kinds : Stmt := top 26
abbrev s_law_figures : Stmt := top 27
abbrev s_law_text : Stmt := top 28
abbrev s_law_spoilt : Stmt := top 29
abbrev s_law_number : Stmt := top 30
abbrev s_law_due : Stmt := top 31
abbrev s_law_tried : Stmt := top 32
abbrev s_law_right : Stmt := top 33
abbrev s_law : Stmt := top 34
end K23
namespace K23
open PySem L2 VT
def fs0 : List FB := [fun K => He.eqO (PySem.W.nsIn K mainGlobals "NoCall") (some (some (.ref (He.ga K "NoCall")))),
  fun K => decide (PySem.W.typeIn K (.ref (He.ga K "NoCall")) = some (.type "type")),
  fun K => PySem.W.isClsIn K (He.ga K "NoCall"),
  fun K => He.eqO (PySem.W.nsIn K mainGlobals "Here") (some (some (.ref (He.ga K "Here")))),
  fun K => decide (PySem.W.typeIn K (.ref (He.ga K "Here")) = some (.type "type")),
  fun K => PySem.W.isClsIn K (He.ga K "Here"),
  fun K => He.eqO (PySem.W.nsIn K mainGlobals "Asleep") (some (some (.ref (He.ga K "Asleep")))),
  fun K => decide (PySem.W.typeIn K (.ref (He.ga K "Asleep")) = some (.type "type")),
  fun K => PySem.W.isClsIn K (He.ga K "Asleep"),
  fun K => He.eqO (PySem.W.nsIn K mainGlobals "NoPage") (some (some (.ref (He.ga K "NoPage")))),
  fun K => decide (PySem.W.typeIn K (.ref (He.ga K "NoPage")) = some (.type "type")),
  fun K => PySem.W.isClsIn K (He.ga K "NoPage"),
  fun K => He.eqO (PySem.W.nsIn K mainGlobals "NoLeaf") (some (some (.ref (He.ga K "NoLeaf")))),
  fun K => decide (PySem.W.typeIn K (.ref (He.ga K "NoLeaf")) = some (.type "type")),
  fun K => PySem.W.isClsIn K (He.ga K "NoLeaf"),
  fun K => He.eqO (PySem.W.nsIn K mainGlobals "NoHand") (some (some (.ref (He.ga K "NoHand")))),
  fun K => decide (PySem.W.typeIn K (.ref (He.ga K "NoHand")) = some (.type "type")),
  fun K => PySem.W.isClsIn K (He.ga K "NoHand"),
  fun K => He.eqO (PySem.W.nsIn K mainGlobals "NoDeed") (some (some (.ref (He.ga K "NoDeed")))),
  fun K => decide (PySem.W.typeIn K (.ref (He.ga K "NoDeed")) = some (.type "type")),
  fun K => PySem.W.isClsIn K (He.ga K "NoDeed"),
  fun K => He.eqO (PySem.W.nsIn K mainGlobals "Taken") (some (some (.ref (He.ga K "Taken")))),
  fun K => decide (PySem.W.typeIn K (.ref (He.ga K "Taken")) = some (.type "type")),
  fun K => PySem.W.isClsIn K (He.ga K "Taken"),
  fun K => He.eqO (PySem.W.nsIn K mainGlobals "NoSpace") (some (some (.ref (He.ga K "NoSpace")))),
  fun K => decide (PySem.W.typeIn K (.ref (He.ga K "NoSpace")) = some (.type "type")),
  fun K => PySem.W.isClsIn K (He.ga K "NoSpace"),
  fun K => He.eqO (PySem.W.nsIn K mainGlobals "NoRoom") (some (some (.ref (He.ga K "NoRoom")))),
  fun K => decide (PySem.W.typeIn K (.ref (He.ga K "NoRoom")) = some (.type "type")),
  fun K => PySem.W.isClsIn K (He.ga K "NoRoom")]
def fs1 : List FB := [fun K => He.eqO (PySem.W.nsIn K mainGlobals "NoRight") (some (some (.ref (He.ga K "NoRight")))),
  fun K => decide (PySem.W.typeIn K (.ref (He.ga K "NoRight")) = some (.type "type")),
  fun K => PySem.W.isClsIn K (He.ga K "NoRight"),
  fun K => He.eqO (PySem.W.nsIn K mainGlobals "Waits") (some (some (.ref (He.ga K "Waits")))),
  fun K => decide (PySem.W.typeIn K (.ref (He.ga K "Waits")) = some (.type "type")),
  fun K => PySem.W.isClsIn K (He.ga K "Waits"),
  fun K => He.eqO (PySem.W.nsIn K mainGlobals "CallError") (some (some (.ref (He.ga K "CallError")))),
  fun K => decide (PySem.W.typeIn K (.ref (He.ga K "CallError")) = some (.type "type")),
  fun K => decide (PySem.W.subIn K (.ref (He.ga K "CallError")) (.type "BaseException") = some true),
  fun K => PySem.W.hasDictIn K (He.ga K "CallError"),
  fun K => He.eqO (PySem.W.nsIn K mainGlobals "BadRow") (some (some (.ref (He.ga K "BadRow")))),
  fun K => PySem.W.excIn K (He.ga K "BadRow") [.type "ValueError", .type "Exception", .type "BaseException", .type "object"] "ValueError.__new__",
  fun K => PySem.W.keepIn K (.ref (He.ga K "BadRow")),
  fun K => decide (PySem.W.subIn K (.ref (He.ga K "BadRow")) (.type "BaseException") = some true),
  fun K => decide (PySem.W.typeIn K (.ref (He.ga K "BadRow")) = some (.type "type")),
  fun K => He.eqO (PySem.W.findIn K (.ref (He.ga K "BadRow")) "__getattribute__") (some (some (.builtin "BaseException.__getattribute__"))),
  fun K => He.eqO (PySem.W.findIn K (.ref (He.ga K "BadRow")) "__getattr__") (some none),
  fun K => PySem.W.hasDictIn K (He.ga K "BadRow"),
  fun K => He.eqO (PySem.W.findIn K (.ref (He.ga K "BadRow")) "__class__") (some (some (.builtin "object.__class__"))),
  fun K => He.eqO (PySem.W.specialIn K (.builtin "object.__class__") "__get__") (some (some (.builtin "getset_descriptor.__get__"))),
  fun K => decide (PySem.W.takesIn K (.builtin "object.__class__") = some true),
  fun K => decide (PySem.W.mroIn K (He.ga K "BadRow") (.type "object") = some true),
  fun K => PySem.W.isClsIn K (He.ga K "BadRow"),
  fun K => decide (PySem.W.subIn K (.ref (He.ga K "BadRow")) (.ref (He.ga K "BadRow")) = some true),
  fun K => decide (PySem.W.subIn K (.ref (He.ga K "BadRow")) (.ref (He.ga K "NoCall")) = some false),
  fun K => decide (PySem.W.subIn K (.ref (He.ga K "BadRow")) (.ref (He.ga K "Here")) = some false),
  fun K => decide (PySem.W.subIn K (.ref (He.ga K "BadRow")) (.ref (He.ga K "Asleep")) = some false),
  fun K => decide (PySem.W.subIn K (.ref (He.ga K "BadRow")) (.ref (He.ga K "NoPage")) = some false),
  fun K => decide (PySem.W.subIn K (.ref (He.ga K "BadRow")) (.ref (He.ga K "NoLeaf")) = some false),
  fun K => decide (PySem.W.subIn K (.ref (He.ga K "BadRow")) (.ref (He.ga K "NoHand")) = some false)]
def fs2 : List FB := [fun K => decide (PySem.W.subIn K (.ref (He.ga K "BadRow")) (.ref (He.ga K "NoDeed")) = some false),
  fun K => decide (PySem.W.subIn K (.ref (He.ga K "BadRow")) (.ref (He.ga K "Taken")) = some false),
  fun K => decide (PySem.W.subIn K (.ref (He.ga K "BadRow")) (.ref (He.ga K "NoSpace")) = some false),
  fun K => decide (PySem.W.subIn K (.ref (He.ga K "BadRow")) (.ref (He.ga K "NoRoom")) = some false),
  fun K => decide (PySem.W.subIn K (.ref (He.ga K "BadRow")) (.ref (He.ga K "NoRight")) = some false),
  fun K => decide (PySem.W.subIn K (.ref (He.ga K "BadRow")) (.type "ValueError") = some true),
  fun K => decide (PySem.W.subIn K (.ref (He.ga K "BadRow")) (.ref (He.ga K "Waits")) = some false),
  fun K => decide (PySem.W.subIn K (.ref (He.ga K "BadRow")) (.ref (He.ga K "CallError")) = some true),
  fun K => He.eqO (PySem.W.nsIn K mainGlobals "_law_kinds") (some (some (.ref (He.ga K "_law_kinds")))),
  fun K => PySem.W.keepIn K (.ref (He.ga K "_law_kinds")),
  fun K => He.eqO (PySem.W.nsIn K mainGlobals "read_number") (some (some (.ref (He.ga K "read_number")))),
  fun K => PySem.W.keepIn K (.ref (He.ga K "read_number")),
  fun K => He.eqO (PySem.W.nsIn K mainGlobals "read_signed") (some (some (.ref (He.ga K "read_signed")))),
  fun K => PySem.W.keepIn K (.ref (He.ga K "read_signed")),
  fun K => He.eqO (PySem.W.nsIn K mainGlobals "read_pages") (some (some (.ref (He.ga K "read_pages")))),
  fun K => PySem.W.keepIn K (.ref (He.ga K "read_pages")),
  fun K => He.eqO (PySem.W.nsIn K mainGlobals "_law_bag") (some (some (.ref (He.ga K "_law_bag")))),
  fun K => PySem.W.keepIn K (.ref (He.ga K "_law_bag")),
  fun K => He.eqO (PySem.W.nsIn K mainGlobals "_law_take") (some (some (.ref (He.ga K "_law_take")))),
  fun K => PySem.W.keepIn K (.ref (He.ga K "_law_take")),
  fun K => He.eqO (PySem.W.nsIn K mainGlobals "_law_whole") (some (some (.ref (He.ga K "_law_whole")))),
  fun K => PySem.W.keepIn K (.ref (He.ga K "_law_whole")),
  fun K => He.eqO (PySem.W.nsIn K mainGlobals "_law_figures") (some (some (.ref (He.ga K "_law_figures")))),
  fun K => PySem.W.keepIn K (.ref (He.ga K "_law_figures")),
  fun K => He.eqO (PySem.W.nsIn K mainGlobals "_law_text") (some (some (.ref (He.ga K "_law_text")))),
  fun K => PySem.W.keepIn K (.ref (He.ga K "_law_text")),
  fun K => He.eqO (PySem.W.nsIn K mainGlobals "_law_spoilt") (some (some (.ref (He.ga K "_law_spoilt")))),
  fun K => PySem.W.keepIn K (.ref (He.ga K "_law_spoilt")),
  fun K => He.eqO (PySem.W.nsIn K mainGlobals "_law_number") (some (some (.ref (He.ga K "_law_number")))),
  fun K => PySem.W.keepIn K (.ref (He.ga K "_law_number"))]
def fs3 : List FB := [fun K => He.eqO (PySem.W.nsIn K mainGlobals "_law_due") (some (some (.ref (He.ga K "_law_due")))),
  fun K => PySem.W.keepIn K (.ref (He.ga K "_law_due")),
  fun K => He.eqO (PySem.W.nsIn K mainGlobals "_law_tried") (some (some (.ref (He.ga K "_law_tried")))),
  fun K => PySem.W.keepIn K (.ref (He.ga K "_law_tried")),
  fun K => He.eqO (PySem.W.nsIn K mainGlobals "_law_right") (some (some (.ref (He.ga K "_law_right")))),
  fun K => PySem.W.keepIn K (.ref (He.ga K "_law_right")),
  fun K => He.eqO (PySem.W.nsIn K mainGlobals "law") (some (some (.ref (He.ga K "law")))),
  fun K => PySem.W.keepIn K (.ref (He.ga K "law")),
  fun K => (He.Fa.int "MOST_FIGURES" 40).ok K,
  fun K => (He.Fa.str "FIGURES" "0123456789").ok K,
  fun K => (He.Fa.int "MOST_PAGES" 40).ok K,
  fun K => He.eqO (PySem.W.nsIn K mainGlobals "ValueError") (some none),
  fun K => He.eqO (PySem.W.nsIn K mainGlobals "bool") (some none),
  fun K => He.eqO (PySem.W.nsIn K mainGlobals "int") (some none),
  fun K => He.eqO (PySem.W.nsIn K mainGlobals "isinstance") (some none),
  fun K => He.eqO (PySem.W.nsIn K mainGlobals "len") (some none),
  fun K => He.eqO (PySem.W.nsIn K mainGlobals "min") (some none),
  fun K => He.eqO (PySem.W.nsIn K mainGlobals "range") (some none),
  fun K => He.eqO (PySem.W.nsIn K mainGlobals "set") (some none),
  fun K => He.eqO (PySem.W.nsIn K mainGlobals "str") (some none)]
def fss : List (List FB) := [fs0, fs1, fs2, fs3]
def fd0 : He.FnD := ⟨("read_number", none), "read_number", "read_number", defArgs s_read_number, defBody s_read_number, defScope s_read_number⟩
def fd1 : He.FnD := ⟨("read_signed", none), "read_signed", "read_signed", defArgs s_read_signed, defBody s_read_signed, defScope s_read_signed⟩
def fd2 : He.FnD := ⟨("read_pages", none), "read_pages", "read_pages", defArgs s_read_pages, defBody s_read_pages, defScope s_read_pages⟩
def fd3 : He.FnD := ⟨("_law_bag", none), "_law_bag", "_law_bag", defArgs s_law_bag, defBody s_law_bag, defScope s_law_bag⟩
def fd4 : He.FnD := ⟨("_law_take", none), "_law_take", "_law_take", defArgs s_law_take, defBody s_law_take, defScope s_law_take⟩
def fd5 : He.FnD := ⟨("_law_whole", none), "_law_whole", "_law_whole", defArgs s_law_whole, defBody s_law_whole, defScope s_law_whole⟩
def fd6 : He.FnD := ⟨("_law_figures", none), "_law_figures", "_law_figures", defArgs s_law_figures, defBody s_law_figures, defScope s_law_figures⟩
def fd7 : He.FnD := ⟨("_law_text", none), "_law_text", "_law_text", defArgs s_law_text, defBody s_law_text, defScope s_law_text⟩
def fd8 : He.FnD := ⟨("_law_spoilt", none), "_law_spoilt", "_law_spoilt", defArgs s_law_spoilt, defBody s_law_spoilt, defScope s_law_spoilt⟩
def fd9 : He.FnD := ⟨("_law_number", none), "_law_number", "_law_number", defArgs s_law_number, defBody s_law_number, defScope s_law_number⟩
def fd10 : He.FnD := ⟨("_law_due", none), "_law_due", "_law_due", defArgs s_law_due, defBody s_law_due, defScope s_law_due⟩
def fd11 : He.FnD := ⟨("_law_tried", none), "_law_tried", "_law_tried", defArgs s_law_tried, defBody s_law_tried, defScope s_law_tried⟩
def fd12 : He.FnD := ⟨("_law_right", none), "_law_right", "_law_right", defArgs s_law_right, defBody s_law_right, defScope s_law_right⟩
def fd13 : He.FnD := ⟨("law", none), "law", "law", defArgs s_law, defBody s_law, defScope s_law⟩
def fdK : He.FnD := ⟨("_law_kinds", none), "_law_kinds", "_law_kinds", defArgs s_law_kinds, defBody s_law_kinds, defScope s_law_kinds⟩
def fn0 : List He.FnD := [fd0, fd1, fd2, fd3, fd4, fd5, fd6, fd7, fd8, fd9, fd10, fd11, fd12, fd13, fdK]
def fns : List He.FnD := fn0
def gl0 : List PySem.Str := ["CallError", "NoSpace", "NoPage", "NoHand", "NoRight", "NoLeaf", "NoRoom", "NoCall", "NoDeed", "Taken", "Waits", "Here", "Asleep", "BadRow", "FIGURES", "MOST_FIGURES", "MOST_PAGES", "read_number", "read_signed", "read_pages", "_law_bag", "_law_take", "_law_whole", "_law_kinds", "_law_figures", "_law_text", "_law_spoilt", "_law_number", "_law_due", "_law_tried"]
def gl1 : List PySem.Str := ["_law_right"]
def gls : List PySem.Str := gl0 ++ (gl1)
abbrev RR : PySem.W.OpenRow := PySem.W.OpenLaw.row PySem.Challenge.rw_leafcall_k23_numbers_and_pages_read
abbrev hk : PySem.W.Hook := hookR 1200 fss fns
def ob (s : PySem.W.SharedT) : He.Al := obsR 1200 fss fns (HandSHeadRun.getT s) s.n
theorem ob_eq (s : PySem.W.SharedT) : ob s = hk.obs s.abs := obsR_eq s
theorem run_l (w : World) (os : OsState) : (HandSHeadRun.endF (HandSHeadRun.stepQ (HandSHeadRun.denQ HandSHeadRun.tabQ) RR.prog w) 8000 RR.prog w os).map (fun s => HandSHeadRun.looksF RR.prog (PySem.W.boot_heap w.params) s.abs) = some true := by
  kernel_rfl
theorem run_s (w : World) (os : OsState) : (HandSHeadRun.endF (HandSHeadRun.stepQ (HandSHeadRun.denQ HandSHeadRun.tabQ) RR.prog w) 8000 RR.prog w os).map (fun s => HandSHeadRun.seenQ (PySem.W.view RR.prog [34]) gls (importedModules RR.prog.main.body) (fun s => PySem.W.xlAt (PySem.W.view RR.prog [34]) [] s && PySem.W.recOk RR.toRowW.records s) s.abs) = some (PySem.W.openGood (PySem.W.view RR.prog [34]) gls) := by
  kernel_rfl
theorem run_t (w : World) (os : OsState) : (HandSHeadRun.endF (HandSHeadRun.stepQ (HandSHeadRun.denQ HandSHeadRun.tabQ) RR.prog w) 8000 RR.prog w os).map (fun s => fss.all (fun fs => fs.all fun f => f (He.frG (HandSHeadRun.getT s) (asN s.n 1200)))) = some true := by
  kernel_rfl
theorem run_f (w : World) (os : OsState) : (HandSHeadRun.endF (HandSHeadRun.stepQ (HandSHeadRun.denQ HandSHeadRun.tabQ) RR.prog w) 8000 RR.prog w os).map (fun s => (fns.all (fun d => (He.Fa.code d.at_ d.qual).ok (He.frG (HandSHeadRun.getT s) (asN s.n 1200))), fns.map fun d => He.fnObs (He.frG (HandSHeadRun.getT s) (asN s.n 1200)) d.at_)) = some (He.valE fns) := by
  kernel_rfl
theorem run (w : World) : HandSHeadRun.RunEq RR (PySem.W.view RR.prog [34]) hk ob 8000 gls w := fun os => run_split (run_l w os) (run_s w os) (run_t w os) (run_f w os)
end K23
section
open PySem PySem.W PySem.Calls PyProof.Rows
theorem K23.hold_of (HC : ∀ (q : PySem.Challenge.rw_leafcall_k23_numbers_and_pages_read.row.wellSaid = true), WalkO (view PySem.Challenge.rw_leafcall_k23_numbers_and_pages_read.row.prog [34]) K23.gls (XL (view PySem.Challenge.rw_leafcall_k23_numbers_and_pages_read.row.prog [34]) []) K23.hk.says PySem.Challenge.rw_leafcall_k23_numbers_and_pages_read.row.toRowW (HandSHeadRun.topDef PySem.Challenge.rw_leafcall_k23_numbers_and_pages_read.row.prog 34) [] fun f vs => call f vs) : PySem.Challenge.rw_leafcall_k23_numbers_and_pages_read.Holds := by
  w_on; o_law
  refine HandSHeadRun.head_any (r := OpenLaw.row PySem.Challenge.rw_leafcall_k23_numbers_and_pages_read) (q := view (OpenLaw.row PySem.Challenge.rw_leafcall_k23_numbers_and_pages_read).prog [34]) (H := K23.hk) (ob := K23.ob) (M := 8000) (loose := K23.gls) (d := HandSHeadRun.topDef (OpenLaw.row PySem.Challenge.rw_leafcall_k23_numbers_and_pages_read).prog 34) (kwd := []) K23.ob_eq
    (by kernel_rfl) (fun s => by kernel_rfl) K23.run (by kernel_rfl) (by kernel_rfl) (by kernel_rfl) (by rfl) (by first | assumption | decide +kernel) (by decide +kernel) ⟨rfl, rfl, rfl, rfl, rfl, by decide +kernel⟩ ?hw ?hc
  case hw => w_witness2
  case hc => exact HC (by assumption)
end
namespace VT
open PySem L2
inductive Kd where
  | tup | lst | fz
  | dK (ks : List Key) | dT (ks : List (List Key))
  | obj (c : Nat) (ns : List Str)
inductive T where
  | non | bl (b : Bool) | int (i : Int) | str (x : Str)
  | nd (k : Kd) (ts : List T)
abbrev FP := Addr → Prop
abbrev FE : FP := fun _ => False
abbrev FU (F G : FP) : FP := fun a => F a ∨ G a
def Kd.mu : Kd → Bool
  | .tup => false
  | .fz => false
  | _ => true
structure Gx where
  K : PySem.W.Frag
  cl : Nat → Addr
  ct : Nat → List Str
  ok : ∀ c f, f ∈ ct c → Cls K (cl c) ∧ NoAttr K (cl c) f
def RoL (K : PySem.W.Frag) (H : Hp) (a : Addr) (vs : List V) : Prop := (∃ o, H a = some (.frz o (.lst vs))) ∨ ∀ H' : Hp, SqL K H' a vs
def At (Γ : Gx) (H : Hp) (k : Kd) (a : Addr) (vs : List V) : Prop := match k with
  | .tup => H a = some (.tup vs)
  | .lst => H a = some (.lst vs)
  | .fz => RoL Γ.K H a vs
  | .dK ks => ks.length = vs.length ∧ H a = some (.dK (ks.zip vs))
  | .dT ks => ks.length = vs.length ∧ H a = some (.dT (ks.zip vs))
  | .obj c ns => ns.length = vs.length ∧ ∃ dx, H a = some (.ins (Γ.cl c) dx (ns.zip vs))
/-- what never changes -/
def Im : HO → Prop
  | .lst _ => False
  | .dK _ => False
  | .dT _ => False
  | .set _ _ => False
  | .ins _ _ _ => False
  | _ => True
/-- outside F all is as it was -/
structure Ke (H H' : Hp) (F : FP) : Prop where
  keep : ∀ b o, H b = some o → ¬ F b → H' b = some o
  imm : ∀ b o, Im o → H b = some o → H' b = some o
/-- F became F' -/
structure Upd (H H' : Hp) (F F' : FP) : Prop extends Ke H H' F where
  new : ∀ a, F' a → F a ∨ H a = none
theorem Ke.refl (H : Hp) (F : FP) : Ke H H F := ⟨fun _ _ e _ => e, fun _ _ _ e => e⟩
theorem Upd.refl (H : Hp) (F : FP) : Upd H H F F := ⟨Ke.refl H F, fun _ h => .inl h⟩
theorem Ke.of_same {H H' : Hp} (F : FP) (s : Same H H') : Ke H H' F := ⟨fun b o e _ => s b o e, fun b o _ e => s b o e⟩
theorem Upd.of_same {H H' : Hp} {F : FP} (s : Same H H') : Upd H H' F F := ⟨Ke.of_same F s, fun _ h => .inl h⟩
theorem Ke.free {H H' : Hp} {F : FP} (k : Ke H H' F) {a : Addr} (h : H' a = none) (hf : ¬ F a) : H a = none := by
  cases e : H a with
  | none => rfl
  | some o => rw [k.keep a o e hf] at h; cases h
theorem Upd.trans {H H1 H2 : Hp} {F F1 F2 : FP} (a : Upd H H1 F F1) (b : Upd H1 H2 F1 F2) : Upd H H2 F F2 := by
  refine ⟨⟨fun x o e nf => ?_, fun x o i e => b.imm x o i (a.imm x o i e)⟩, fun x hx => ?_⟩
  · refine b.keep x o (a.keep x o e nf) fun h1 => ?_
    rcases a.new x h1 with h | h
    · exact nf h
    · rw [e] at h; cases h
  · rcases b.new x hx with h | h
    · exact a.new x h
    · by_cases hf : F x
      · exact .inl hf
      · exact .inr (a.toKe.free h hf)
/-- more that is not touched -/
theorem Upd.more {H H' : Hp} {F F' G : FP} (u : Upd H H' F F') : Upd H H' (FU F G) (FU F' G) :=
  ⟨⟨fun b o e n => u.keep b o e fun h => n (.inl h), u.imm⟩, fun a h => h.elim (fun h => (u.new a h).elim (fun z => .inl (.inl z)) .inr) fun h => .inl (.inr h)⟩
theorem Upd.sub {H H' : Hp} {F F' G : FP} (u : Upd H H' F F') (h : ∀ a, G a → F' a) : Upd H H' F G := ⟨u.toKe, fun a g => u.new a (h a g)⟩
theorem RoL.keep {K : PySem.W.Frag} {H H' : Hp} {a : Addr} {vs : List V} (im : ∀ b o, Im o → H b = some o → H' b = some o) (h : RoL K H a vs) : RoL K H' a vs := by
  rcases h with ⟨o, h⟩ | h
  · exact .inl ⟨o, im _ _ (by trivial) h⟩
  · exact .inr h
theorem RoL.sq {K : PySem.W.Frag} {H : Hp} {a : Addr} {vs : List V} (h : RoL K H a vs) : SqL K H a vs := by
  rcases h with ⟨o, h⟩ | h
  · exact .inl (.inr ⟨o, h⟩)
  · exact h H
theorem At.keep {Γ : Gx} {H H' : Hp} {k : Kd} {a : Addr} {vs : List V} (h : At Γ H k a vs) (hk : k.mu = true → ∀ o, H a = some o → H' a = some o) (im : ∀ b o, Im o → H b = some o → H' b = some o) : At Γ H' k a vs := by
  cases k with
  | tup => exact im _ _ trivial h
  | lst => exact hk rfl _ h
  | fz => exact RoL.keep im h
  | dK ks => exact ⟨h.1, hk rfl _ h.2⟩
  | dT ks => exact ⟨h.1, hk rfl _ h.2⟩
  | obj c ns =>
    obtain ⟨l, dx, e⟩ := h
    exact ⟨l, dx, hk rfl _ e⟩
inductive Rep (Γ : Gx) (H : Hp) : V → T → FP → Prop
  | non {F : FP} : Rep Γ H .non .non F
  | bl {F : FP} (b : Bool) : Rep Γ H (.bl b) (.bl b) F
  | int {F : FP} (i : Int) : Rep Γ H (.int i) (.int i) F
  | str {F : FP} (x : Str) : Rep Γ H (.str x) (.str x) F
  | nd {F : FP} {k : Kd} {a : Addr} {vs : List V} {ts : List T} {Fs : Nat → FP} (hat : At Γ H k a vs) (hl : vs.length = ts.length) (hm : k.mu = true → F a ∧ ∀ i, ¬ Fs i a)
      (hk : ∀ i v t, vs[i]? = some v → ts[i]? = some t → Rep Γ H v t (Fs i)) (hd : ∀ i j a, i ≠ j → Fs i a → Fs j a → False) (hs : ∀ i a, Fs i a → F a) : Rep Γ H (.ref a) (.nd k ts) F
variable {Γ : Gx}
theorem Rep.frame {H H' : Hp} {v : V} {t : T} {F : FP} (h : Rep Γ H v t F) (k : ∀ a o, F a → H a = some o → H' a = some o) (im : ∀ b o, Im o → H b = some o → H' b = some o) : Rep Γ H' v t F := by
  induction h with
  | non => exact .non
  | bl b => exact .bl b
  | int i => exact .int i
  | str x => exact .str x
  | nd hat hl hm hk hd hs ih =>
    exact .nd (hat.keep (fun m o e => k _ _ (hm m).1 e) im) hl hm (fun i v t e1 e2 => ih i v t e1 e2 fun a o fa e => k a o (hs i a fa) e) hd hs
theorem Rep.same {H H' : Hp} {v : V} {t : T} {F : FP} (h : Rep Γ H v t F) (s : Same H H') : Rep Γ H' v t F := h.frame (fun a o _ e => s a o e) fun b o _ e => s b o e
theorem Rep.mono {H : Hp} {v : V} {t : T} {F G : FP} (h : Rep Γ H v t F) (s : ∀ a, F a → G a) : Rep Γ H v t G := by
  cases h with
  | non => exact .non
  | bl b => exact .bl b
  | int i => exact .int i
  | str x => exact .str x
  | nd hat hl hm hk hd hs => exact .nd hat hl (fun m => ⟨s _ (hm m).1, (hm m).2⟩) hk hd fun i a q => s a (hs i a q)
/-- what lies outside of what changes -/
theorem Rep.ke {H H' : Hp} {v : V} {t : T} {F G : FP} (h : Rep Γ H v t F) (k : Ke H H' G) (d : ∀ a, F a → G a → False) : Rep Γ H' v t F :=
  h.frame (fun a o fa e => k.keep a o e fun g => d a fa g) k.imm
mutual
def T.im : T → Bool
  | .nd .tup ts => T.imAll ts
  | .nd .fz ts => T.imAll ts
  | .nd _ _ => false
  | _ => true
def T.imAll : List T → Bool
  | [] => true
  | t :: ts => t.im && T.imAll ts
end
theorem imAll_iff : ∀ {ts : List T}, T.imAll ts = true ↔ ∀ (i : Nat) (t : T), ts[i]? = some t → t.im = true
  | [] => by simp [T.imAll]
  | t :: ts => by
    rw [T.imAll, Bool.and_eq_true, imAll_iff (ts := ts)]
    constructor
    · rintro ⟨h1, h2⟩ i u e
      cases i with
      | zero => simp at e; subst e; exact h1
      | succ i => exact h2 i u (by simpa using e)
    · intro h
      exact ⟨h 0 t rfl, fun i u e => h (i + 1) u (by simpa using e)⟩
theorem imAll_mem {ts : List T} : T.imAll ts = true ↔ ∀ t ∈ ts, t.im = true := by
  rw [imAll_iff]
  constructor
  · intro h t ht
    obtain ⟨i, e⟩ := List.getElem?_of_mem ht
    exact h i t e
  · intro h i t e
    exact h t (List.mem_of_getElem? e)
theorem Rep.im {H : Hp} {v : V} {t : T} {F : FP} (h : Rep Γ H v t F) (hi : t.im = true) (G : FP) : Rep Γ H v t G := by
  induction h generalizing G with
  | non => exact .non
  | bl b => exact .bl b
  | int i => exact .int i
  | str x => exact .str x
  | @nd F k a vs ts Fs hat hl hm hk hd hs ih =>
    have q : k.mu = false ∧ T.imAll ts = true := by
      cases k <;> simp_all [T.im, Kd.mu]
    refine .nd (Fs := fun _ => FE) hat hl (fun m => by rw [q.1] at m; cases m) (fun i v t e1 e2 => ih i v t e1 e2 (imAll_iff.mp q.2 i t e2) FE) (fun _ _ _ _ z _ => z) fun _ _ z => z.elim
def kids : HO → List V
  | .lst xs => xs
  | .dK kvs => kvs.map (·.2)
  | .dT kvs => kvs.map (·.2)
  | .ins _ _ fs => fs.map (·.2)
  | _ => []
theorem zip_snd {α β : Type} : ∀ {xs : List α} {ys : List β}, xs.length = ys.length → (xs.zip ys).map (·.2) = ys
  | [], [], _ => rfl
  | x :: xs, y :: ys, h => by
    show y :: (xs.zip ys).map (·.2) = y :: ys
    rw [zip_snd (by simpa using h)]
  | [], _ :: _, h => by simp at h
  | _ :: _, [], h => by simp at h
theorem At.kids {H : Hp} {k : Kd} {a : Addr} {vs : List V} (h : At Γ H k a vs) (hm : k.mu = true) : ∃ o, H a = some o ∧ VT.kids o = vs := by
  cases k with
  | tup => cases hm
  | fz => cases hm
  | lst => exact ⟨_, h, rfl⟩
  | dK ks => exact ⟨_, h.2, zip_snd h.1⟩
  | dT ks => exact ⟨_, h.2, zip_snd h.1⟩
  | obj c ns =>
    obtain ⟨l, dx, e⟩ := h
    exact ⟨_, e, zip_snd l⟩
def vAt (H : Hp) : List Nat → V → Option V
  | [], v => some v
  | i :: p, .ref a => (H a).bind fun o => (VT.kids o)[i]?.bind fun v => vAt H p v
  | _ :: _, _ => none
def tAt : List Nat → T → Option T
  | [], t => some t
  | i :: p, .nd k ts => if k.mu = true then ts[i]?.bind fun t => tAt p t else none
  | _ :: _, _ => none
def tPut : List Nat → T → T → T
  | [], _, s => s
  | i :: p, .nd k ts, s => .nd k (ts.set i (tPut p (ts.getD i .non) s))
  | _ :: _, t, _ => t
theorem vAt_same {H H' : Hp} (s : Same H H') : ∀ {p : List Nat} {v w : V}, vAt H p v = some w → vAt H' p v = some w
  | [], v, w, h => h
  | i :: p, .ref a, w, h => by
    simp only [vAt] at h ⊢
    cases e : H a with
    | none => rw [e] at h; cases h
    | some o =>
      rw [e] at h
      rw [s a o e]
      simp only [Option.bind_some] at h ⊢
      cases q : (VT.kids o)[i]? with
      | none => rw [q] at h; cases h
      | some u =>
        rw [q] at h
        exact vAt_same s h
  | _ :: _, .non, _, h => by cases h
  | _ :: _, .bl _, _, h => by cases h
  | _ :: _, .int _, _, h => by cases h
  | _ :: _, .str _, _, h => by cases h
  | _ :: _, .byt _, _, h => by cases h
  | _ :: _, .flt _, _, h => by cases h
  | _ :: _, .ty _, _, h => by cases h
/-- what is in F but not in G is as it was -/
structure KeIn (H H' : Hp) (F G : FP) : Prop where
  keep : ∀ b o, F b → ¬ G b → H b = some o → H' b = some o
  imm : ∀ b o, Im o → H b = some o → H' b = some o
theorem Ke.kin {H H' : Hp} {F G : FP} (k : Ke H H' G) : KeIn H H' F G := ⟨fun b o _ n e => k.keep b o e n, k.imm⟩
theorem focus {H : Hp} : ∀ (p : List Nat) {v : V} {t t1 : T} {F : FP}, Rep Γ H v t F → tAt p t = some t1 →
    ∃ v1 G, vAt H p v = some v1 ∧ Rep Γ H v1 t1 G ∧ (∀ a, G a → F a) ∧
      ∀ H' t2 G', KeIn H H' F G → (∀ a, G' a → G a ∨ ¬ F a) → Rep Γ H' v1 t2 G' → Rep Γ H' v (tPut p t t2) (fun a => (F a ∧ ¬ G a) ∨ G' a)
  | [], v, t, t1, F, h, e => by
    have e' : t = t1 := Option.some.inj e
    subst e'
    exact ⟨v, F, rfl, h, fun _ z => z, fun H' t2 G' _ _ r => r.mono fun a g => .inr g⟩
  | i :: p, v, t, t1, F, h, e => by
    cases h with
    | non => cases e
    | bl b => cases e
    | int j => cases e
    | str x => cases e
    | @nd _ k a vs ts Fs hat hl hm hk hd hs =>
      simp only [tAt] at e
      by_cases mu : k.mu = true
      · rw [if_pos mu] at e
        cases eu : ts[i]? with
        | none => rw [eu] at e; cases e
        | some u =>
          rw [eu] at e
          have e1 : tAt p u = some t1 := e
          have hi : i < ts.length := (List.getElem?_eq_some_iff.mp eu).1
          obtain ⟨vi, ev⟩ : ∃ vi, vs[i]? = some vi := ⟨vs[i]'(by omega), List.getElem?_eq_getElem (by omega)⟩
          obtain ⟨v1, G, hv, hr, hg, back⟩ := focus p (hk i vi u ev eu) e1
          obtain ⟨o, ho, hko⟩ := hat.kids mu
          have nGa : ¬ G a := fun z => (hm mu).2 i (hg a z)
          refine ⟨v1, G, ?_, hr, fun b z => hs i b (hg b z), fun H' t2 G' ke nw r => ?_⟩
          · show (H a).bind _ = _
            rw [ho]
            show (VT.kids o)[i]?.bind _ = _
            rw [hko, ev]
            exact hv
          · have nG'a : ¬ G' a := fun z => (nw a z).elim nGa fun q => q (hm mu).1
            have eg : ts.getD i .non = u := by rw [List.getD_eq_getElem?_getD, eu]; rfl
            show Rep Γ H' (.ref a) (.nd k (ts.set i (tPut p (ts.getD i .non) t2))) _
            rw [eg]
            refine .nd (Fs := fun j => if j = i then (fun b => (Fs i b ∧ ¬ G b) ∨ G' b) else Fs j) (hat.keep (fun _ o' e' => ke.keep a o' (hm mu).1 nGa e') ke.imm) (by rw [List.length_set]; exact hl) (fun _ => ⟨.inl ⟨(hm mu).1, nGa⟩, fun j => ?_⟩) (fun j w s e1 e2 => ?_) (fun j j' b ne z z' => ?_) fun j b z => ?_
            · by_cases hj : j = i
              · rw [if_pos hj]
                rintro (z | z)
                · exact (hm mu).2 i z.1
                · exact nG'a z
              · rw [if_neg hj]
                exact (hm mu).2 j
            · by_cases hj : j = i
              · subst hj
                rw [if_pos rfl]
                rw [List.getElem?_set_self hi] at e2
                have ew : w = vi := Option.some.inj (e1.symm.trans ev)
                subst ew
                have es : tPut p u t2 = s := Option.some.inj e2
                rw [← es]
                exact back H' t2 G' ⟨fun b o f n q => ke.keep b o (hs j b f) n q, ke.imm⟩ (fun b z => (nw b z).elim .inl fun q => .inr fun f => q (hs j b f)) r
              · rw [if_neg hj]
                rw [List.getElem?_set_ne (Ne.symm hj)] at e2
                exact (hk j w s e1 e2).frame (fun b o f q => ke.keep b o (hs j b f) (fun g => hd j i b hj f (hg b g)) q) ke.imm
            · have aux : ∀ m, m ≠ i → ((Fs i b ∧ ¬ G b) ∨ G' b) → Fs m b → False := fun m hmi y y' => by
                rcases y with y | y
                · exact hd i m b (Ne.symm hmi) y.1 y'
                · rcases nw b y with g | g
                  · exact hd i m b (Ne.symm hmi) (hg b g) y'
                  · exact g (hs m b y')
              by_cases hj : j = i
              · by_cases hj' : j' = i
                · exact ne (hj.trans hj'.symm)
                · rw [if_pos hj] at z
                  rw [if_neg hj'] at z'
                  exact aux j' hj' z z'
              · rw [if_neg hj] at z
                by_cases hj' : j' = i
                · rw [if_pos hj'] at z'
                  exact aux j hj z' z
                · rw [if_neg hj'] at z'
                  exact hd j j' b ne z z'
            · by_cases hj : j = i
              · rw [if_pos hj] at z
                rcases z with z | z
                · exact .inl ⟨hs i b z.1, z.2⟩
                · exact .inr z
              · rw [if_neg hj] at z
                exact .inl ⟨hs j b z, fun g => hd j i b hj z (hg b g)⟩
      · rw [if_neg mu] at e
        cases e
abbrev TSt := List (Option T)
/-- slots that hold what they hold -/
abbrev Fx := Nat → Option V
structure RepS (Γ : Gx) (ar : Fx) (H : Hp) (σ : St) (S : TSt) (F : FP) : Prop where
  len : S.length = σ.length
  arg : ∀ (i : Nat) (v : V), ar i = some v → σ[i]? = some (some v)
  fam : ∃ Fs : Nat → FP, (∀ (i : Nat) (t : T), S[i]? = some (some t) → ∃ v, σ[i]? = some (some v) ∧ Rep Γ H v t (Fs i)) ∧ (∀ i j a, i ≠ j → Fs i a → Fs j a → False) ∧ ∀ i a, Fs i a → F a
  al : ∀ a, F a → H a ≠ none
theorem Ke.al {H H' : Hp} {F : FP} (k : Ke H H' F) {a : Addr} (h : H a ≠ none) (n : ¬ F a) : H' a ≠ none := by
  cases e : H a with
  | none => exact absurd e h
  | some o => rw [k.keep a o e n]; exact fun z => nomatch z
theorem same_al {H H' : Hp} (s : Same H H') {a : Addr} (h : H a ≠ none) : H' a ≠ none := by
  cases e : H a with
  | none => exact absurd e h
  | some o => rw [s a o e]; exact fun z => nomatch z
theorem RepS.same {ar : Fx} {H H' : Hp} {σ : St} {S : TSt} {F : FP} (h : RepS Γ ar H σ S F) (s : Same H H') : RepS Γ ar H' σ S F := by
  obtain ⟨len, arg, ⟨Fs, h1, h2, h3⟩, al⟩ := h
  refine ⟨len, arg, ⟨Fs, fun i t e => ?_, h2, h3⟩, fun a fa => same_al s (al a fa)⟩
  obtain ⟨v, e1, r⟩ := h1 i t e
  exact ⟨v, e1, r.same s⟩
/-- what else there is changes -/
theorem RepS.ke {ar : Fx} {H H' : Hp} {σ : St} {S : TSt} {F G : FP} (h : RepS Γ ar H σ S F) (k : Ke H H' G) (d : ∀ a, F a → G a → False) : RepS Γ ar H' σ S F := by
  obtain ⟨len, arg, ⟨Fs, h1, h2, h3⟩, al⟩ := h
  refine ⟨len, arg, ⟨Fs, fun i t e => ?_, h2, h3⟩, fun a fa => k.al (al a fa) fun g => d a fa g⟩
  obtain ⟨v, e1, r⟩ := h1 i t e
  exact ⟨v, e1, r.ke k fun a f g => d a (h3 i a f) g⟩
theorem RepS.slot {ar : Fx} {H : Hp} {σ : St} {S : TSt} {F : FP} (h : RepS Γ ar H σ S F) {i : Nat} {t : T} (e : S[i]? = some (some t)) : ∃ v, σ[i]? = some (some v) ∧ Rep Γ H v t F := by
  obtain ⟨_, _, ⟨Fs, h1, h2, h3⟩, _⟩ := h
  obtain ⟨v, e1, r⟩ := h1 i t e
  exact ⟨v, e1, r.mono (h3 i)⟩
/-- the thing in a slot taken out; it may come back, changed -/
theorem RepS.take {ar : Fx} {H : Hp} {σ : St} {S : TSt} {F : FP} {i : Nat} {t : T} (h : RepS Γ ar H σ S F) (e : S[i]? = some (some t)) :
    ∃ v F' G, σ[i]? = some (some v) ∧ Rep Γ H v t G ∧ RepS Γ ar H σ (S.set i none) F' ∧ (∀ a, F' a → G a → False) ∧ (∀ a, F' a → F a) ∧ ∀ a, G a → F a := by
  obtain ⟨len, arg, ⟨Fs, h1, h2, h3⟩, al⟩ := h
  obtain ⟨v, ev, r⟩ := h1 i t e
  refine ⟨v, fun a => ∃ j, j ≠ i ∧ Fs j a, Fs i, ev, r, ⟨by rw [List.length_set]; exact len, arg, ⟨fun j => if j = i then FE else Fs j, fun j u eu => ?_, fun j j' b ne z z' => ?_, fun j b z => ?_⟩, fun a ⟨j, _, z⟩ => al a (h3 j a z)⟩, fun a ⟨j, nj, z⟩ g => h2 j i a nj z g, fun a ⟨j, _, z⟩ => h3 j a z, h3 i⟩
  · by_cases hj : j = i
    · subst hj
      have hlt : j < S.length := (List.getElem?_eq_some_iff.mp e).1
      rw [List.getElem?_set_self hlt] at eu
      cases eu
    · rw [List.getElem?_set_ne (Ne.symm hj)] at eu
      simp only [if_neg hj]
      exact h1 j u eu
  · by_cases hj : j = i
    · simp only [if_pos hj] at z
      exact z.elim
    · by_cases hj' : j' = i
      · simp only [if_pos hj'] at z'
        exact z'.elim
      · simp only [if_neg hj] at z
        simp only [if_neg hj'] at z'
        exact h2 j j' b ne z z'
  · by_cases hj : j = i
    · simp only [if_pos hj] at z
      exact z.elim
    · simp only [if_neg hj] at z
      exact ⟨j, hj, z⟩
/-- a slot is stored -/
theorem RepS.put {ar : Fx} {H : Hp} {σ : St} {S : TSt} {F G : FP} {i : Nat} {v : V} {t : T} (h : RepS Γ ar H σ S F) (hi : ar i = none) (r : Rep Γ H v t G) (d : ∀ a, F a → G a → False) (alG : ∀ a, G a → H a ≠ none) :
    RepS Γ ar H (σ.set i (some v)) (S.set i (some t)) (FU F G) := by
  obtain ⟨len, arg, ⟨Fs, h1, h2, h3⟩, al⟩ := h
  refine ⟨by rw [List.length_set, List.length_set]; exact len, fun j w e => ?_, ⟨fun j => if j = i then G else Fs j, fun j u eu => ?_, fun j j' b ne z z' => ?_, fun j b z => ?_⟩, fun a z => z.elim (al a) (alG a)⟩
  · have hj : i ≠ j := fun z => by rw [← z, hi] at e; cases e
    rw [List.getElem?_set_ne hj]
    exact arg j w e
  · by_cases hj : j = i
    · subst hj
      by_cases hlt : j < S.length
      · rw [List.getElem?_set_self hlt] at eu
        have eu' : t = u := Option.some.inj (Option.some.inj eu)
        subst eu'
        simp only [if_pos rfl]
        exact ⟨v, List.getElem?_set_self (by omega), r⟩
      · rw [List.getElem?_eq_none (by rw [List.length_set]; omega)] at eu
        cases eu
    · rw [List.getElem?_set_ne (Ne.symm hj)] at eu
      simp only [if_neg hj, List.getElem?_set_ne (Ne.symm hj)]
      exact h1 j u eu
  · by_cases hj : j = i
    · by_cases hj' : j' = i
      · exact ne (hj.trans hj'.symm)
      · simp only [if_pos hj] at z
        simp only [if_neg hj'] at z'
        exact d b (h3 j' b z') z
    · simp only [if_neg hj] at z
      by_cases hj' : j' = i
      · simp only [if_pos hj'] at z'
        exact d b (h3 j b z) z'
      · simp only [if_neg hj'] at z'
        exact h2 j j' b ne z z'
  · by_cases hj : j = i
    · simp only [if_pos hj] at z
      exact .inr z
    · simp only [if_neg hj] at z
      exact .inl (h3 j b z)
/-- a slot whose thing is beside gets it back -/
theorem RepS.give {ar : Fx} {H : Hp} {σ : St} {S : TSt} {F G : FP} {i : Nat} {v : V} {t : T} (h : RepS Γ ar H σ S F) (hv : σ[i]? = some (some v)) (r : Rep Γ H v t G) (d : ∀ a, F a → G a → False) (alG : ∀ a, G a → H a ≠ none) :
    RepS Γ ar H σ (S.set i (some t)) (FU F G) := by
  obtain ⟨len, arg, ⟨Fs, h1, h2, h3⟩, al⟩ := h
  refine ⟨by rw [List.length_set]; exact len, arg, ⟨fun j => if j = i then G else Fs j, fun j u eu => ?_, fun j j' b ne z z' => ?_, fun j b z => ?_⟩, fun a z => z.elim (al a) (alG a)⟩
  · by_cases hj : j = i
    · subst hj
      by_cases hlt : j < S.length
      · rw [List.getElem?_set_self hlt] at eu
        have eu' : t = u := Option.some.inj (Option.some.inj eu)
        subst eu'
        simp only [if_true]
        exact ⟨v, hv, r⟩
      · rw [List.getElem?_eq_none (by rw [List.length_set]; omega)] at eu
        cases eu
    · rw [List.getElem?_set_ne (Ne.symm hj)] at eu
      simp only [if_neg hj]
      exact h1 j u eu
  · by_cases hj : j = i
    · by_cases hj' : j' = i
      · exact ne (hj.trans hj'.symm)
      · simp only [if_pos hj] at z
        simp only [if_neg hj'] at z'
        exact d b (h3 j' b z') z
    · simp only [if_neg hj] at z
      by_cases hj' : j' = i
      · simp only [if_pos hj'] at z'
        exact d b (h3 j b z) z'
      · simp only [if_neg hj'] at z'
        exact h2 j j' b ne z z'
  · by_cases hj : j = i
    · simp only [if_pos hj] at z
      exact .inr z
    · simp only [if_neg hj] at z
      exact .inl (h3 j b z)
end VT
namespace VT
open PySem L2
inductive Rs (α : Type) where
  | ok (a : α) | ex (c : Nat)
inductive Fl where
  | nx | rt (t : T) | bk | ct | ex (c : Nat)
abbrev BF := TSt → Option T
abbrev PF := TSt → Option (Nat × List Nat)
abbrev EF := TSt → Option (Rs T × TSt)
abbrev SF := TSt → Option (Fl × TSt)
def sl (S : TSt) (i : Nat) : Option T := (S[i]?).getD none
theorem sl_some {S : TSt} {i : Nat} {t : T} : sl S i = some t ↔ S[i]? = some (some t) := by
  unfold sl
  cases h : S[i]? with
  | none => simp
  | some o => simp
abbrev New (H H' : Hp) (G : FP) : Prop := (∀ a, G a → H a = none) ∧ ∀ a, G a → H' a ≠ none
theorem New.back {H H1 H2 : Hp} {G : FP} (s : Same H H1) (n : New H1 H2 G) : New H H2 G := ⟨fun a g => s.free (n.1 a g), n.2⟩
theorem new_FE {H H' : Hp} : New H H' FE := ⟨fun _ z => z.elim, fun _ z => z.elim⟩
section
variable (Γ : Gx) (ar : Fx) (W : WX)
def rdP (pl : PF) : TE := fun σ H Q => ∃ S F i p t t1, RepS Γ ar H σ S F ∧ pl S = some (i, p) ∧ sl S i = some t ∧ tAt p t = some t1 ∧
  ∀ v0 v H', σ[i]? = some (some v0) → vAt H p v0 = some v → Same H H' → Q v H'
def rdB (g : BF) : TE := fun σ H Q => ∃ S F t, RepS Γ ar H σ S F ∧ g S = some t ∧ ∀ v H' G, Same H H' → Rep Γ H' v t G → Q v H'
def rdN (g : BF) : TE := fun σ H Q => ∃ S F t, RepS Γ ar H σ S F ∧ g S = some t ∧ ∀ v H' G, Same H H' → Rep Γ H' v t G → New H H' G → Q v H'
/-- what is known behind an expression that has given t -/
structure Own (H : Hp) (F : FP) (σ : St) (S' : TSt) (v : V) (t : T) (H' : Hp) (F' G : FP) : Prop where
  rs : RepS Γ ar H' σ S' F'
  r : Rep Γ H' v t G
  d : ∀ a, F' a → G a → False
  al : ∀ a, G a → H' a ≠ none
  u : Upd H H' F (FU F' G)
def PostE (H : Hp) (F : FP) (σ : St) (S' : TSt) (Q : VK) : Rs T → Prop
  | .ok t => ∀ v H' F' G, Own Γ ar H F σ S' v t H' F' G → Q v H'
  | .ex c => ∀ H' F', RepS Γ ar H' σ S' F' → Upd H H' F F' → W (.ref (Γ.cl c)) none σ H'
def rdE (f : EF) : TE := fun σ H Q => ∃ S F r S', RepS Γ ar H σ S F ∧ f S = some (r, S') ∧ PostE Γ ar W H F σ S' Q r
def FlP (D : Ends) (H : Hp) (F : FP) (fl : Fl) (S' : TSt) : Prop := match fl with
  | .nx => ∀ σ' H' F', RepS Γ ar H' σ' S' F' → Upd H H' F F' → D.nx σ' H'
  | .bk => ∀ σ' H' F', RepS Γ ar H' σ' S' F' → Upd H H' F F' → D.bk σ' H'
  | .ct => ∀ σ' H' F', RepS Γ ar H' σ' S' F' → Upd H H' F F' → D.ct σ' H'
  | .rt t => ∀ v σ' H' F' G, Own Γ ar H F σ' S' v t H' F' G → D.rt v H'
  | .ex c => ∀ σ' H' F', RepS Γ ar H' σ' S' F' → Upd H H' F F' → W (.ref (Γ.cl c)) none σ' H'
def rdS (s : SF) : TS := fun D σ H => ∃ S F fl S', RepS Γ ar H σ S F ∧ s S = some (fl, S') ∧ FlP Γ ar W D H F fl S'
end
theorem PE.imp {X : Cx} {e : Expr} {t t' : TE} (h : PE X e t) (k : ∀ σ H Q, t' σ H Q → t σ H Q) : PE X e t' := ⟨fun pins s σ H Q I q => h.run pins s σ H Q I (k σ H Q q)⟩
theorem PS.imp {X : Cx} {st : Stmt} {t t' : TS} (h : PS X st t) (k : ∀ D σ H, t' D σ H → t D σ H) : PS X st t' := ⟨fun pins s σ H D I q => h.run pins s σ H D I (k D σ H q)⟩
theorem PSs.imp {X : Cx} {st : List Stmt} {t t' : TS} (h : PSs X st t) (k : ∀ D σ H, t' D σ H → t D σ H) : PSs X st t' := ⟨fun pins s σ H D I q => h.run pins s σ H D I (k D σ H q)⟩
theorem PT.imp {X : Cx} {e : Expr} {t t' : TT} (h : PT X e t) (k : ∀ σ H Q, t' σ H Q → t σ H Q) : PT X e t' := ⟨fun pins s σ H Q I q => h.run pins s σ H Q I (k σ H Q q)⟩
theorem PA.imp {X : Cx} {es : List Expr} {t t' : TA} (h : PA X es t) (k : ∀ σ H Q, t' σ H Q → t σ H Q) : PA X es t' := ⟨fun pos pins s σ H Q I q => h.run pos pins s σ H Q I (k σ H Q q)⟩
section
variable {Γ : Gx} {ar : Fx} {W : WX} {X : Cx}
theorem Own.same {H : Hp} {F : FP} {σ : St} {S' : TSt} {v : V} {t : T} {H' H'' : Hp} {F' G : FP} (o : Own Γ ar H F σ S' v t H' F' G) (s : Same H' H'') : Own Γ ar H F σ S' v t H'' F' G :=
  ⟨o.rs.same s, o.r.same s, o.d, fun a g => same_al s (o.al a g), ⟨⟨fun b u e n => s b u (o.u.keep b u e n), fun b u i e => s b u (o.u.imm b u i e)⟩, o.u.new⟩⟩
/-- a thing made anew beside -/
theorem own_new {H H' : Hp} {F G : FP} {σ : St} {S : TSt} {v : V} {t : T} (R : RepS Γ ar H σ S F) (s : Same H H') (r : Rep Γ H' v t G) (n : New H H' G) : Own Γ ar H F σ S v t H' F G :=
  ⟨R.same s, r, fun a f g => R.al a f (n.1 a g), n.2, ⟨Ke.of_same F s, fun a h => h.elim .inl fun g => .inr (n.1 a g)⟩⟩
/-- .. behind a change -/
theorem own_after {H H1 H' : Hp} {F F1 G : FP} {σ : St} {S : TSt} {v : V} {t : T} (U : Upd H H1 F F1) (R : RepS Γ ar H1 σ S F1) (s : Same H1 H') (r : Rep Γ H' v t G) (n : New H1 H' G) : Own Γ ar H F σ S v t H' F1 G :=
  let o := own_new R s r n
  ⟨o.rs, o.r, o.d, o.al, U.trans o.u⟩
def bOfP (pl : PF) : BF := fun S => (pl S).bind fun ip => (sl S ip.1).bind fun t => tAt ip.2 t
theorem pe_bp {e : Expr} {pl : PF} (h : PE X e (rdP Γ ar pl)) : PE X e (rdB Γ ar (bOfP pl)) := by
  refine PE.imp h fun σ H Q q => ?_
  obtain ⟨S, F, t, R, e, k⟩ := q
  unfold bOfP at e
  cases e1 : pl S with
  | none => rw [e1] at e; cases e
  | some ip =>
    obtain ⟨i, p⟩ := ip
    rw [e1] at e
    simp only [Option.bind_some] at e
    cases e2 : sl S i with
    | none => rw [e2] at e; cases e
    | some t0 =>
      rw [e2] at e
      simp only [Option.bind_some] at e
      refine ⟨S, F, i, p, t0, t, R, e1, e2, e, fun v0 v H' h1 h2 s => ?_⟩
      obtain ⟨v', a1, r0⟩ := R.slot (sl_some.mp e2)
      obtain ⟨v1, G, a2, a3, _, _⟩ := VT.focus p r0 e
      rw [h1] at a1
      have ev : v0 = v' := Option.some.inj (Option.some.inj a1)
      subst ev
      rw [h2] at a2
      have ev : v = v1 := Option.some.inj a2
      subst ev
      exact k v H' G s (a3.same s)
theorem pe_bn {e : Expr} {g : BF} (h : PE X e (rdN Γ ar g)) : PE X e (rdB Γ ar g) := by
  refine PE.imp h fun σ H Q q => ?_
  obtain ⟨S, F, t, R, e, k⟩ := q
  exact ⟨S, F, t, R, e, fun v H' G s r _ => k v H' G s r⟩
def imO (t : T) : Option T := if t.im = true then some t else none
/-- read, and it never changes -/
def nOfB (g : BF) : BF := fun S => (g S).bind imO
theorem pe_nb {e : Expr} {g : BF} (h : PE X e (rdB Γ ar g)) : PE X e (rdN Γ ar (nOfB g)) := by
  refine PE.imp h fun σ H Q q => ?_
  obtain ⟨S, F, t, R, e, k⟩ := q
  unfold nOfB at e
  cases e1 : g S with
  | none => rw [e1] at e; cases e
  | some u =>
    rw [e1] at e
    have e2 : imO u = some t := e
    unfold imO at e2
    by_cases hi : u.im = true
    · rw [if_pos hi] at e2
      have e3 : u = t := Option.some.inj e2
      subst e3
      exact ⟨S, F, u, R, e1, fun v H' G s r => k v H' FE s (r.im hi FE) new_FE⟩
    · rw [if_neg hi] at e2; cases e2
def eOfN (g : BF) : EF := fun S => (g S).bind fun t => some (.ok t, S)
theorem pe_en {e : Expr} {g : BF} (h : PE X e (rdN Γ ar g)) : PE X e (rdE Γ ar W (eOfN g)) := by
  refine PE.imp h fun σ H Q q => ?_
  obtain ⟨S, F, r, S', R, e, k⟩ := q
  unfold eOfN at e
  cases e1 : g S with
  | none => rw [e1] at e; cases e
  | some t =>
    rw [e1] at e
    have e2 : (Rs.ok t, S) = (r, S') := Option.some.inj e
    cases e2
    exact ⟨S, F, t, R, e1, fun v H' G s r n => k v H' F G (own_new R s r n)⟩
def pVar (i : Nat) : PF := fun S => (sl S i).bind fun _ => some (i, [])
theorem pp_var (i : Nat) {x : Str} {pos : Pos} (hN : X.N[i]? = some x := by rfl) (hv : Vis X.env.scope x := by first | exact Or.inl rfl | exact Or.inr (Or.inl rfl) | exact Or.inr (Or.inr rfl)) (hd : (x == ("__debug__" : Str)) = false := by decide)
    (hcd : (x == ("__classdict__" : Str)) = false := by decide) : PE X (.Name x pos) (rdP Γ ar (pVar i)) := by
  refine PE.imp (pe_var hN hv hd hcd) fun σ H Q q => ?_
  obtain ⟨S, F, j, p, t, t1, R, e, e1, e2, k⟩ := q
  unfold pVar at e
  cases e0 : sl S i with
  | none => rw [e0] at e; cases e
  | some t0 =>
    rw [e0] at e
    have e3 : (i, ([] : List Nat)) = (j, p) := Option.some.inj e
    cases e3
    obtain ⟨v, ev, _⟩ := R.slot (sl_some.mp e1)
    exact ⟨v, ev, k v v H ev rfl (Same.refl H)⟩
/-- a name whose thing is handed on: a copy, or the thing itself, which the name loses -/
def eVar (i : Nat) : EF := fun S => (sl S i).bind fun t => if t.im = true then some (.ok t, S) else some (.ok t, S.set i none)
theorem pe_evar (i : Nat) {x : Str} {pos : Pos} (hN : X.N[i]? = some x := by rfl) (hv : Vis X.env.scope x := by first | exact Or.inl rfl | exact Or.inr (Or.inl rfl) | exact Or.inr (Or.inr rfl)) (hd : (x == ("__debug__" : Str)) = false := by decide)
    (hcd : (x == ("__classdict__" : Str)) = false := by decide) : PE X (.Name x pos) (rdE Γ ar W (eVar i)) := by
  refine PE.imp (pe_var hN hv hd hcd) fun σ H Q q => ?_
  obtain ⟨S, F, r, S', R, e, k⟩ := q
  unfold eVar at e
  cases e0 : sl S i with
  | none => rw [e0] at e; cases e
  | some t =>
    rw [e0] at e
    simp only [Option.bind_some] at e
    by_cases hi : t.im = true
    · rw [if_pos hi] at e
      have e2 : (Rs.ok t, S) = (r, S') := Option.some.inj e
      cases e2
      obtain ⟨v, ev, rv⟩ := R.slot (sl_some.mp e0)
      exact ⟨v, ev, k v H F FE (own_new R (Same.refl H) (rv.im hi FE) new_FE)⟩
    · rw [if_neg hi] at e
      have e2 : (Rs.ok t, S.set i none) = (r, S') := Option.some.inj e
      cases e2
      obtain ⟨v, F', G, ev, rv, R', d, s1, s2⟩ := R.take (sl_some.mp e0)
      exact ⟨v, ev, k v H F' G ⟨R', rv, d, fun a g => R.al a (s2 a g), ⟨Ke.refl H F, fun a z => z.elim (fun z => .inl (s1 a z)) fun z => .inl (s2 a z)⟩⟩⟩
def nC (t : T) : BF := fun _ => some t
theorem pe_c {e : Expr} {v : V} {t : T} (h : PE X e (tC v)) (r : ∀ H, Rep Γ H v t FE) : PE X e (rdN Γ ar (nC t)) := by
  refine PE.imp h fun σ H Q q => ?_
  obtain ⟨S, F, u, R, e, k⟩ := q
  have e1 : t = u := Option.some.inj e
  subst e1
  exact k v H FE (Same.refl H) (r H) new_FE
theorem n_int {i : Int} {j pos} : PE X (.Constant (.int i) j pos) (rdN Γ ar (nC (.int i))) := pe_c pe_int fun _ => .int i
theorem n_str {x : Str} {j pos} : PE X (.Constant (.str x) j pos) (rdN Γ ar (nC (.str x))) := pe_c pe_str fun _ => .str x
theorem n_bl {b : Bool} {j pos} : PE X (.Constant (.bool b) j pos) (rdN Γ ar (nC (.bl b))) := pe_c pe_bl fun _ => .bl b
theorem n_non {j pos} : PE X (.Constant .none j pos) (rdN Γ ar (nC .non)) := pe_c pe_non fun _ => .non
/-- r does on values what f does on trees; what it makes is new -/
def OpT (Γ : Gx) (r : R2) (f : T → T → Option T) : Prop := ∀ (H : Hp) (x y : V) (t1 t2 t : T) (G1 G2 : FP) (Q : VK), Rep Γ H x t1 G1 → Rep Γ H y t2 G2 → f t1 t2 = some t →
  (∀ v H' G, Same H H' → Rep Γ H' v t G → New H H' G → Q v H') → r x y H Q
def UnT (Γ : Gx) (r : V → Hp → VK → Prop) (f : T → Option T) : Prop := ∀ (H : Hp) (x : V) (t1 t : T) (G1 : FP) (Q : VK), Rep Γ H x t1 G1 → f t1 = some t →
  (∀ v H' G, Same H H' → Rep Γ H' v t G → New H H' G → Q v H') → r x H Q
def bOp (f : T → T → Option T) (ga gb : BF) : BF := fun S => (ga S).bind fun x => (gb S).bind fun y => f x y
def bUn (f : T → Option T) (ga : BF) : BF := fun S => (ga S).bind f
def eOp (f : T → T → Option T) (fa fb : EF) : EF := fun S => (fa S).bind fun rx => match rx with
  | (.ex c, S1) => some (.ex c, S1)
  | (.ok x, S1) => (fb S1).bind fun ry => match ry with
    | (.ex c, S2) => some (.ex c, S2)
    | (.ok y, S2) => (f x y).bind fun z => some (.ok z, S2)
def eUn (f : T → Option T) (fa : EF) : EF := fun S => (fa S).bind fun rx => match rx with
  | (.ex c, S1) => some (.ex c, S1)
  | (.ok x, S1) => (f x).bind fun z => some (.ok z, S1)
theorem tOp_b {r : R2} {f : T → T → Option T} {ga gb : BF} (h : OpT Γ r f) (σ : St) (H : Hp) (Q : VK) (q : rdN Γ ar (bOp f ga gb) σ H Q) : tOp r (rdB Γ ar ga) (rdB Γ ar gb) σ H Q := by
  obtain ⟨S, F, t, R, e, k⟩ := q
  unfold bOp at e
  cases e1 : ga S with
  | none => rw [e1] at e; cases e
  | some t1 =>
    rw [e1] at e
    simp only [Option.bind_some] at e
    cases e2 : gb S with
    | none => rw [e2] at e; cases e
    | some t2 =>
      rw [e2] at e
      refine ⟨S, F, t1, R, e1, fun x H1 G1 s1 r1 => ⟨S, F, t2, R.same s1, e2, fun y H2 G2 s2 r2 => ?_⟩⟩
      exact h H2 x y t1 t2 t G1 G2 Q (r1.same s2) r2 e fun v H3 G s3 r3 n => k v H3 G ((s1.trans s2).trans s3) r3 (n.back (s1.trans s2))
theorem tUn_b {r : V → Hp → VK → Prop} {f : T → Option T} {ga : BF} (h : UnT Γ r f) (σ : St) (H : Hp) (Q : VK) (q : rdN Γ ar (bUn f ga) σ H Q) : rdB Γ ar ga σ H (fun x H1 => r x H1 Q) := by
  obtain ⟨S, F, t, R, e, k⟩ := q
  unfold bUn at e
  cases e1 : ga S with
  | none => rw [e1] at e; cases e
  | some t1 =>
    rw [e1] at e
    refine ⟨S, F, t1, R, e1, fun x H1 G1 s1 r1 => ?_⟩
    exact h H1 x t1 t G1 Q r1 e fun v H3 G s3 r3 n => k v H3 G (s1.trans s3) r3 (n.back s1)
/-- two with effects, one behind the other: both are there at the end -/
theorem two_e {fa fb : EF} {σ : St} {H : Hp} {S : TSt} {F : FP} {Q : V → V → Hp → Prop} (R : RepS Γ ar H σ S F) {x : T} {S1 : TSt} (e1 : fa S = some (.ok x, S1))
    {r2 : Rs T} {S2 : TSt} (e2 : fb S1 = some (r2, S2)) (hx : ∀ c, r2 = .ex c → ∀ H' F', RepS Γ ar H' σ S2 F' → Upd H H' F F' → W (.ref (Γ.cl c)) none σ H')
    (hk : ∀ y v w H' F' G1 G2, r2 = .ok y → RepS Γ ar H' σ S2 F' → Rep Γ H' v x G1 → Rep Γ H' w y G2 → (∀ a, F' a → G1 a → False) → (∀ a, F' a → G2 a → False) → (∀ a, G1 a → G2 a → False) → (∀ a, G1 a → H' a ≠ none) → (∀ a, G2 a → H' a ≠ none) →
      Upd H H' F (FU F' (FU G1 G2)) → Q v w H') :
    rdE Γ ar W fa σ H fun v H1 => rdE Γ ar W fb σ H1 fun w H2 => Q v w H2 := by
  refine ⟨S, F, .ok x, S1, R, e1, fun v H1 F1 G1 o1 => ⟨S1, F1, r2, S2, o1.rs, e2, ?_⟩⟩
  have up : ∀ {H2 : Hp} {F2 : FP}, Upd H1 H2 F1 F2 → Upd H H2 F (FU F2 G1) := fun u => o1.u.trans u.more
  cases r2 with
  | ex c => exact fun H2 F2 R2 u2 => hx c rfl H2 F2 R2 ((up u2).sub fun a z => .inl z)
  | ok y =>
    intro w H2 F2 G2 o2
    have dG : ∀ a, G1 a → G2 a → False := fun a g1 g2 => (o2.u.new a (.inr g2)).elim (fun z => o1.d a z g1) fun z => o1.al a g1 z
    have dF : ∀ a, F2 a → G1 a → False := fun a f2 g1 => (o2.u.new a (.inl f2)).elim (fun z => o1.d a z g1) fun z => o1.al a g1 z
    exact hk y v w H2 F2 G1 G2 rfl o2.rs (o1.r.ke o2.u.toKe fun a g f => o1.d a f g) o2.r dF o2.d dG (fun a g => o2.u.toKe.al (o1.al a g) fun f => o1.d a f g) o2.al
      ((up o2.u).sub fun a z => z.elim (fun z => .inl (.inl z)) fun z => z.elim .inr fun z => .inl (.inr z))
theorem tOp_e {r : R2} {f : T → T → Option T} {fa fb : EF} (h : OpT Γ r f) (σ : St) (H : Hp) (Q : VK) (q : rdE Γ ar W (eOp f fa fb) σ H Q) : tOp r (rdE Γ ar W fa) (rdE Γ ar W fb) σ H Q := by
  obtain ⟨S, F, rr, S', R, e, k⟩ := q
  unfold eOp at e
  cases e1 : fa S with
  | none => rw [e1] at e; cases e
  | some o1 =>
    obtain ⟨r1, S1⟩ := o1
    rw [e1] at e
    simp only [Option.bind_some] at e
    cases r1 with
    | ex c =>
      have e2 : (Rs.ex c, S1) = (rr, S') := Option.some.inj e
      cases e2
      exact ⟨S, F, .ex c, _, R, e1, k⟩
    | ok x =>
      simp only at e
      cases e2 : fb S1 with
      | none => rw [e2] at e; cases e
      | some o2 =>
        obtain ⟨r2, S2⟩ := o2
        rw [e2] at e
        simp only [Option.bind_some] at e
        refine two_e R e1 e2 (fun c ec H' F' R' u => ?_) fun y v w H' F' G1 G2 ey R' rv rw_ d1 d2 d12 a1 a2 u => ?_
        · subst ec
          have e3 : (Rs.ex c, S2) = (rr, S') := Option.some.inj e
          cases e3
          exact k H' F' R' u
        · subst ey
          simp only at e
          cases e3 : f x y with
          | none => rw [e3] at e; cases e
          | some z =>
            rw [e3] at e
            have e4 : (Rs.ok z, S2) = (rr, S') := Option.some.inj e
            cases e4
            exact h H' v w x y z G1 G2 Q rv rw_ e3 fun v3 H3 G s3 r3 n => k v3 H3 F' G (own_after (u.sub fun a z => .inl z) R' s3 r3 n)
theorem tUn_e {r : V → Hp → VK → Prop} {f : T → Option T} {fa : EF} (h : UnT Γ r f) (σ : St) (H : Hp) (Q : VK) (q : rdE Γ ar W (eUn f fa) σ H Q) : rdE Γ ar W fa σ H (fun x H1 => r x H1 Q) := by
  obtain ⟨S, F, rr, S', R, e, k⟩ := q
  unfold eUn at e
  cases e1 : fa S with
  | none => rw [e1] at e; cases e
  | some o1 =>
    obtain ⟨r1, S1⟩ := o1
    rw [e1] at e
    simp only [Option.bind_some] at e
    cases r1 with
    | ex c =>
      have e2 : (Rs.ex c, S1) = (rr, S') := Option.some.inj e
      cases e2
      exact ⟨S, F, .ex c, _, R, e1, k⟩
    | ok x =>
      simp only at e
      cases e3 : f x with
      | none => rw [e3] at e; cases e
      | some z =>
        rw [e3] at e
        have e4 : (Rs.ok z, S1) = (rr, S') := Option.some.inj e
        cases e4
        exact ⟨S, F, .ok x, _, R, e1, fun v H1 F1 G1 o1 => h H1 v x z G1 Q o1.r e3 fun v3 H3 G s3 r3 n => k v3 H3 F1 G (own_after (o1.u.sub fun a z => .inl z) o1.rs s3 r3 n)⟩
end
end VT
namespace VT
open PySem L2
section
variable {Γ : Gx} {ar : Fx} {W : WX} {X : Cx}
theorem Rep.list {H : Hp} {x : V} {k : Kd} {ts : List T} {G : FP} (h : Rep Γ H x (.nd k ts) G) (hk : k = .lst ∨ k = .fz) :
    ∃ a vs, x = .ref a ∧ SqL Γ.K H a vs ∧ vs.length = ts.length ∧ ∀ (i : Nat) (v : V) (t : T), vs[i]? = some v → ts[i]? = some t → Rep Γ H v t G := by
  cases h with
  | @nd _ _ a vs _ Fs hat hl hm hc hd hs =>
    refine ⟨a, vs, rfl, ?_, hl, fun i v t e1 e2 => (hc i v t e1 e2).mono (hs i)⟩
    rcases hk with rfl | rfl
    · exact .inl (.inl hat)
    · exact RoL.sq hat
theorem Rep.tupl {H : Hp} {x : V} {ts : List T} {G : FP} (h : Rep Γ H x (.nd .tup ts) G) :
    ∃ a vs, x = .ref a ∧ SqT Γ.K H a vs ∧ vs.length = ts.length ∧ ∀ (i : Nat) (v : V) (t : T), vs[i]? = some v → ts[i]? = some t → Rep Γ H v t G := by
  cases h with
  | @nd _ _ a vs _ Fs hat hl hm hc hd hs => exact ⟨a, vs, rfl, .inl (.inl hat), hl, fun i v t e1 e2 => (hc i v t e1 e2).mono (hs i)⟩
/-- a new list, a new tuple of things that never change -/
theorem new_lst {H : Hp} {p : Addr} {vs : List V} {ts : List T} {G : FP} (hp : H p = none) (hl : vs.length = ts.length) (hc : ∀ (i : Nat) (v : V) (t : T), vs[i]? = some v → ts[i]? = some t → Rep Γ H v t G) (im : T.imAll ts = true) :
    Same H (upd H p (.lst vs)) ∧ Rep Γ (upd H p (.lst vs)) (.ref p) (.nd .lst ts) (fun a => a = p) ∧ New H (upd H p (.lst vs)) (fun a => a = p) := by
  have s : Same H (upd H p (.lst vs)) := fun b o e => by rw [upd_ne (ne_of_none e hp)]; exact e
  refine ⟨s, .nd (Fs := fun _ => FE) upd_same hl (fun _ => ⟨rfl, fun _ z => z⟩) (fun i v t e1 e2 => ((hc i v t e1 e2).same s).im (imAll_iff.mp im i t e2) FE) (fun _ _ _ _ z _ => z) (fun _ _ z => z.elim), fun a e => by rw [e]; exact hp, fun a e => by rw [e, upd_same]; exact fun z => nomatch z⟩
theorem new_tup {H : Hp} {p : Addr} {vs : List V} {ts : List T} {G : FP} (hp : H p = none) (hl : vs.length = ts.length) (hc : ∀ (i : Nat) (v : V) (t : T), vs[i]? = some v → ts[i]? = some t → Rep Γ H v t G) (im : T.imAll ts = true) :
    Same H (upd H p (.tup vs)) ∧ Rep Γ (upd H p (.tup vs)) (.ref p) (.nd .tup ts) FE ∧ New H (upd H p (.tup vs)) FE := by
  have s : Same H (upd H p (.tup vs)) := fun b o e => by rw [upd_ne (ne_of_none e hp)]; exact e
  exact ⟨s, .nd (Fs := fun _ => FE) upd_same hl (fun m => nomatch m) (fun i v t e1 e2 => ((hc i v t e1 e2).same s).im (imAll_iff.mp im i t e2) FE) (fun _ _ _ _ z _ => z) (fun _ _ z => z.elim), new_FE⟩
mutual
def dat : T → PyData
  | .non => .none
  | .bl b => .bool b
  | .int i => .int i
  | .str x => .str x
  | .nd .tup ts => .tuple (datAll ts)
  | .nd .lst ts => .list (datAll ts)
  | .nd .fz ts => .list (datAll ts)
  | .nd _ _ => .dict []
def datAll : List T → List PyData
  | [] => []
  | t :: ts => dat t :: datAll ts
end
theorem dpAll {K : PySem.W.Frag} {H : Hp} : ∀ {vs : List V} {ts : List T}, vs.length = ts.length → (∀ (i : Nat) (v : V) (t : T), vs[i]? = some v → ts[i]? = some t → Dp K H v (dat t)) → DpAll K H vs (datAll ts)
  | [], [], _, _ => .nil
  | v :: vs, t :: ts, hl, h => .cons (h 0 v t rfl rfl) (dpAll (by simpa using hl) fun i v t e1 e2 => h (i + 1) v t (by simpa using e1) (by simpa using e2))
  | [], _ :: _, hl, _ => by simp at hl
  | _ :: _, [], hl, _ => by simp at hl
theorem layAll_get : ∀ {ts : List T} {i : Nat} {t : T}, PyData.canLayAll0 (datAll ts) = true → ts[i]? = some t → (dat t).canLay0 = true
  | [], _, _, _, e => by simp at e
  | u :: ts, i, t, h, e => by
    rw [datAll, PyData.canLayAll0, Bool.and_eq_true] at h
    cases i with
    | zero => simp at e; subst e; exact h.1
    | succ i => exact layAll_get h.2 (by simpa using e)
theorem Rep.dp {H : Hp} {v : V} {t : T} {F : FP} (h : Rep Γ H v t F) (hc : (dat t).canLay0 = true) : Dp Γ.K H v (dat t) := by
  induction h with
  | non => exact .non
  | bl b => exact .bl b
  | int i => exact .int i
  | str x => exact .str x
  | @nd F k a vs ts Fs hat hl hm hk hd hs ih =>
    cases k with
    | tup => exact .tup (.inl (.inl hat)) (dpAll hl fun i v t e1 e2 => ih i v t e1 e2 (layAll_get hc e2))
    | lst => exact .lst (.inl (.inl hat)) (dpAll hl fun i v t e1 e2 => ih i v t e1 e2 (layAll_get hc e2))
    | fz => exact .lst (RoL.sq hat) (dpAll hl fun i v t e1 e2 => ih i v t e1 e2 (layAll_get hc e2))
    | dK ks => cases hc
    | dT ks => cases hc
    | obj c ns => cases hc
def shT (t : T) : Bool := SeqAt.shaped (dat t)
theorem shT_lay {t : T} (h : shT t = true) : (dat t).canLay0 = true := SeqAt.canLay_of_shaped h
theorem or_OpR {f : Value → Value → Sem Value} {r r' : R2} (h : OpR X f r) (h' : OpR X f r') : OpR X f (fun x y H Q => r x y H Q ∨ r' x y H Q) := by
  intro pins s σ H x y v u Q I rx ry q
  rcases q with q | q
  · exact h pins s σ H x y v u Q I rx ry q
  · exact h' pins s σ H x y v u Q I rx ry q
theorem or_CallR {f : Value} {r r' : List V → Hp → VK → Prop} (h : CallR X f r) (h' : CallR X f r') : CallR X f (fun x H Q => r x H Q ∨ r' x H Q) := by
  intro pins s σ H x v Q I rx k
  rcases k with k | k
  · exact h pins s σ H x v Q I rx k
  · exact h' pins s σ H x v Q I rx k
theorem opT_int {r : R2} {f : T → T → Option T} {C : Int → Int → Prop} {g : Int → Int → V} {gt : Int → Int → T} (hr : ∀ i j H Q, C i j → Q (g i j) H → r (.int i) (.int j) H Q) (hg : ∀ i j H, Rep Γ H (g i j) (gt i j) FE)
    (hf : ∀ t1 t2 t, f t1 t2 = some t → ∃ i j, t1 = .int i ∧ t2 = .int j ∧ C i j ∧ t = gt i j) : OpT Γ r f := by
  intro H x y t1 t2 t G1 G2 Q r1 r2 e k
  obtain ⟨i, j, rfl, rfl, c, rfl⟩ := hf t1 t2 t e
  cases r1
  cases r2
  exact hr i j H Q c (k _ H FE (Same.refl H) (hg i j H) new_FE)
/-- a dec. condition ahead of a value -/
def gd (c : Prop) [Decidable c] (t : T) : Option T := if c then some t else none
theorem gd_some {c : Prop} [Decidable c] {t u : T} : gd c t = some u ↔ c ∧ t = u := by
  unfold gd
  by_cases h : c
  · simp [h]
  · simp [h]
def subT : T → T → Option T
  | .int i, .int j => some (.int (i - j))
  | _, _ => none
def modT : T → T → Option T
  | .int i, .int j => gd (0 < j) (.int (i % j))
  | _, _ => none
def fdivT : T → T → Option T
  | .int i, .int j => gd (0 < j ∧ j < 1073741824) (.int (i / j))
  | _, _ => none
def powT : T → T → Option T
  | .int i, .int j => gd (0 ≤ j ∧ j ≤ 1000000 ∧ i.natAbs < 18446744073709551616) (.int (i ^ j.toNat))
  | _, _ => none
def ltT : T → T → Option T
  | .int i, .int j => some (.bl (decide (i < j)))
  | _, _ => none
def gtT : T → T → Option T
  | .int i, .int j => some (.bl (decide (j < i)))
  | _, _ => none
theorem subT_ok : OpT Γ (rI0 fun i j => .int (i - j)) subT := opT_int (C := fun _ _ => True) (gt := fun i j => .int (i - j)) (fun i j H Q _ q => ⟨i, j, rfl, rfl, q⟩) (fun i j H => .int _) fun t1 t2 t e => by
  unfold subT at e
  split at e
  · cases e; exact ⟨_, _, rfl, rfl, trivial, rfl⟩
  · cases e
theorem modT_ok : OpT Γ (rI (fun _ j => 0 < j) fun i j => .int (i % j)) modT := opT_int (gt := fun i j => .int (i % j)) (fun i j H Q c q => ⟨i, j, rfl, rfl, c, q⟩) (fun i j H => .int _) fun t1 t2 t e => by
  unfold modT at e
  split at e
  · obtain ⟨c, rfl⟩ := gd_some.mp e; exact ⟨_, _, rfl, rfl, c, rfl⟩
  · cases e
theorem fdivT_ok : OpT Γ (rI CDiv fun i j => .int (i / j)) fdivT := opT_int (gt := fun i j => .int (i / j)) (fun i j H Q c q => ⟨i, j, rfl, rfl, c, q⟩) (fun i j H => .int _) fun t1 t2 t e => by
  unfold fdivT at e
  split at e
  · obtain ⟨c, rfl⟩ := gd_some.mp e; exact ⟨_, _, rfl, rfl, c, rfl⟩
  · cases e
theorem powT_ok : OpT Γ (rI CPow fun i j => .int (i ^ j.toNat)) powT := opT_int (C := fun i j => 0 ≤ j ∧ j ≤ 1000000 ∧ i.natAbs < 18446744073709551616) (gt := fun i j => .int (i ^ j.toNat)) (fun i j H Q c q => ⟨i, j, rfl, rfl, ⟨c.1, c.2.1, by have e64 : (2 : Nat) ^ 64 = 18446744073709551616 := (by decide); rw [e64]; exact c.2.2⟩, q⟩) (fun i j H => .int _) fun t1 t2 t e => by
  unfold powT at e
  split at e
  · obtain ⟨c, rfl⟩ := gd_some.mp e; exact ⟨_, _, rfl, rfl, c, rfl⟩
  · cases e
theorem ltT_ok : OpT Γ (rI0 fun i j => .bl (decide (i < j))) ltT := opT_int (C := fun _ _ => True) (gt := fun i j => .bl (decide (i < j))) (fun i j H Q _ q => ⟨i, j, rfl, rfl, q⟩) (fun i j H => .bl _) fun t1 t2 t e => by
  unfold ltT at e
  split at e
  · cases e; exact ⟨_, _, rfl, rfl, trivial, rfl⟩
  · cases e
theorem gtT_ok : OpT Γ (rI0 fun i j => .bl (decide (j < i))) gtT := opT_int (C := fun _ _ => True) (gt := fun i j => .bl (decide (j < i))) (fun i j H Q _ q => ⟨i, j, rfl, rfl, q⟩) (fun i j H => .bl _) fun t1 t2 t e => by
  unfold gtT at e
  split at e
  · cases e; exact ⟨_, _, rfl, rfl, trivial, rfl⟩
  · cases e
theorem sz5 {n : Nat} (h : n ≤ 100000) : n ≤ sizeLine := Nat.le_trans h (by decide)
theorem sz5' {n : Nat} (h : n < 100000) : n < sizeLine := Nat.lt_of_lt_of_le h (by decide)
theorem app_kids {H : Hp} {G1 G2 : FP} {vs ws : List V} {ts us : List T} (hl : vs.length = ts.length) (hc : ∀ (i : Nat) (v : V) (t : T), vs[i]? = some v → ts[i]? = some t → Rep Γ H v t G1) (hd : ∀ (i : Nat) (v : V) (t : T), ws[i]? = some v → us[i]? = some t → Rep Γ H v t G2) :
    ∀ (i : Nat) (v : V) (t : T), (vs ++ ws)[i]? = some v → (ts ++ us)[i]? = some t → Rep Γ H v t (FU G1 G2) := fun i v t e1 e2 => by
  by_cases h : i < vs.length
  · rw [List.getElem?_append_left h] at e1
    rw [List.getElem?_append_left (by omega)] at e2
    exact (hc i v t e1 e2).mono fun _ z => .inl z
  · rw [List.getElem?_append_right (by omega)] at e1
    rw [List.getElem?_append_right (by omega), ← hl] at e2
    exact (hd _ v t e1 e2).mono fun _ z => .inr z
theorem Rep.lstAt {H : Hp} {x : V} {ts : List T} {G : FP} (h : Rep Γ H x (.nd .lst ts) G) :
    ∃ a vs, x = .ref a ∧ H a = some (.lst vs) ∧ vs.length = ts.length ∧ ∀ (i : Nat) (v : V) (t : T), vs[i]? = some v → ts[i]? = some t → Rep Γ H v t G := by
  cases h with
  | @nd _ _ a vs _ Fs hat hl hm hc hd hs => exact ⟨a, vs, rfl, hat, hl, fun i v t e1 e2 => (hc i v t e1 e2).mono (hs i)⟩
/-- a * b: numbers, one of them small; a list and a number -/
def mulT : T → T → Option T
  | .int i, .int j => gd ((-18446744073709551616 < i ∧ i < 18446744073709551616) ∨ (-18446744073709551616 < j ∧ j < 18446744073709551616)) (.int (i * j))
  | .nd .lst [u], .int j => gd (0 ≤ j ∧ j ≤ 100000 ∧ u.im = true) (.nd .lst (List.replicate j.toNat u))
  | _, _ => none
def rMulT : R2 := fun x y H Q => rI CMul (fun i j => .int (i * j)) x y H Q ∨ rRep x y H Q
theorem op_mulT : OpR X (binaryOp .Mult) rMulT := or_OpR op_mul op_rep
theorem imAll_rep {u : T} (h : u.im = true) : ∀ n, T.imAll (List.replicate n u) = true := fun n => imAll_mem.mpr fun t ht => by rw [List.eq_of_mem_replicate ht]; exact h
theorem flat1 {α : Type} (x : α) : ∀ n : Nat, (List.replicate n [x]).flatten = List.replicate n x
  | 0 => rfl
  | n + 1 => by rw [List.replicate_succ, List.flatten_cons, flat1 x n, List.replicate_succ]; rfl
theorem mulT_ok : OpT Γ rMulT mulT := by
  intro H x y t1 t2 t G1 G2 Q r1 r2 e k
  unfold mulT at e
  split at e
  · obtain ⟨c, rfl⟩ := gd_some.mp e
    cases r1
    cases r2
    have e64 : (2 : Int) ^ 64 = 18446744073709551616 := by decide
    refine .inl ⟨_, _, rfl, rfl, ?_, k _ H FE (Same.refl H) (.int _) new_FE⟩
    unfold CMul
    rw [e64]
    exact c
  · rename_i u j
    obtain ⟨⟨c1, c2, c3⟩, rfl⟩ := gd_some.mp e
    obtain ⟨a, vs, rfl, ha, hl, hc⟩ := r1.lstAt
    cases r2
    have hl1 : vs.length = 1 := hl
    obtain ⟨v, rfl⟩ : ∃ v, vs = [v] := by
      match vs, hl1 with
      | [v], _ => exact ⟨v, rfl⟩
    refine .inr ⟨a, j, [v], rfl, rfl, ha, by omega, by omega, ?_, fun p hp => ?_⟩
    · show 1 * j.toNat ≤ sizeLine
      rw [Nat.one_mul]
      exact sz5 (by omega)
    · rw [flat1]
      have hv := hc 0 v u rfl rfl
      obtain ⟨s, r, n⟩ := new_lst (Γ := Γ) (vs := List.replicate j.toNat v) (ts := List.replicate j.toNat u) hp (by rw [List.length_replicate, List.length_replicate]) (fun i w t e1 e2 => by
        have z1 := List.eq_of_mem_replicate (List.mem_of_getElem? e1)
        have z2 := List.eq_of_mem_replicate (List.mem_of_getElem? e2)
        rw [z1, z2]
        exact hv) (imAll_rep c3 _)
      exact k _ _ _ s r n
  · cases e
def eqT (t1 t2 : T) : Option T := gd (shT t1 = true ∧ shT t2 = true) (.bl (PyData.eqv (dat t1) (dat t2)))
def neT (t1 t2 : T) : Option T := gd (shT t1 = true ∧ shT t2 = true) (.bl (!PyData.eqv (dat t1) (dat t2)))
theorem eqT_ok : OpT Γ (rEqD Γ.K) eqT := by
  intro H x y t1 t2 t G1 G2 Q r1 r2 e k
  obtain ⟨⟨c1, c2⟩, rfl⟩ := gd_some.mp e
  exact ⟨_, _, r1.dp (shT_lay c1), r2.dp (shT_lay c2), c1, c2, k _ H FE (Same.refl H) (.bl _) new_FE⟩
theorem neT_ok : OpT Γ (rNeD Γ.K) neT := by
  intro H x y t1 t2 t G1 G2 Q r1 r2 e k
  obtain ⟨⟨c1, c2⟩, rfl⟩ := gd_some.mp e
  exact ⟨_, _, r1.dp (shT_lay c1), r2.dp (shT_lay c2), c1, c2, k _ H FE (Same.refl H) (.bl _) new_FE⟩
def T.isN : T → Bool
  | .non => true
  | _ => false
theorem Rep.isN {H : Hp} {v : V} {t : T} {F : FP} (h : Rep Γ H v t F) : decide (v = .non) = t.isN := by cases h <;> rfl
/-- flat things (no bools, no ints beside bools): as values -/
def flT : T → Bool
  | .nd _ _ => false
  | _ => true
/-- x in a list (data), in a tuple (flat things) -/
def inB (t1 : T) (ts : List T) : Bool := ts.any fun z => PyData.eqv (dat z) (dat t1)
def inO (t1 t2 : T) : Option Bool := match t2 with
  | .nd .lst ts => if shT t1 = true ∧ shT (.nd .lst ts) = true then some (inB t1 ts) else none
  | .nd .fz ts => if shT t1 = true ∧ shT (.nd .lst ts) = true then some (inB t1 ts) else none
  | .nd .tup ts => if flT t1 = true ∧ ts.all flT = true then some (inB t1 ts) else none
  | _ => none
def inT (t1 t2 : T) : Option T := (inO t1 t2).map .bl
def rInT (K : PySem.W.Frag) (neg : Bool) : R2 := fun x y H Q => (∃ d ds, Dp K H x d ∧ Dp K H y (.list ds) ∧ SeqAt.shaped d = true ∧ SeqAt.shaped (.list ds) = true ∧ Q (.bl (if neg then !ds.any fun z => PyData.eqv z d else ds.any fun z => PyData.eqv z d)) H) ∨ rIn K neg x y H Q
theorem op_inT (hu : X.A.units + 65 < cLine) : OpR X (compareOp .In) (rInT X.K false) := or_OpR (op_inD hu) op_in_seq
theorem any_datAll {p : PyData → Bool} : ∀ ts : List T, (datAll ts).any p = ts.any fun z => p (dat z)
  | [] => rfl
  | t :: ts => by rw [datAll, List.any_cons, List.any_cons, any_datAll ts]
theorem Rep.flat {H : Hp} {v : V} {t : T} {F : FP} (h : Rep Γ H v t F) (hf : flT t = true) : flatV v = true := by
  cases h with
  | nd => cases hf
  | _ => rfl
theorem Rep.eqV {H : Hp} {v w : V} {t u : T} {F G : FP} (h : Rep Γ H v t F) (k : Rep Γ H w u G) (hf : flT t = true) (hg : flT u = true) : L2.eqV v w = PyData.eqv (dat t) (dat u) := by
  cases h with
  | nd => cases hf
  | _ =>
    cases k with
    | nd => cases hg
    | _ => simp only [L2.eqV, dat, PyData.eqv]
theorem inV_eq {H : Hp} {x : V} {t : T} {F : FP} (h : Rep Γ H x t F) (hf : flT t = true) : ∀ {vs : List V} {ts : List T}, vs.length = ts.length → (∀ (i : Nat) (v : V) (t : T), vs[i]? = some v → ts[i]? = some t → Rep Γ H v t F) → ts.all flT = true →
    inV x vs = inB t ts ∧ vs.all flatV = true
  | [], [], _, _, _ => ⟨rfl, rfl⟩
  | v :: vs, u :: ts, hl, hc, ha => by
    rw [List.all_cons, Bool.and_eq_true] at ha
    have h0 := hc 0 v u rfl rfl
    obtain ⟨e1, e2⟩ := inV_eq h hf (vs := vs) (ts := ts) (by simpa using hl) (fun i v t q1 q2 => hc (i + 1) v t (by simpa using q1) (by simpa using q2)) ha.2
    constructor
    · unfold inV inB at e1 ⊢
      rw [List.any_cons, List.any_cons, e1, h0.eqV h ha.1 hf]
    · rw [List.all_cons, h0.flat ha.1, e2]; rfl
  | [], _ :: _, hl, _, _ => by simp at hl
  | _ :: _, [], hl, _, _ => by simp at hl
theorem inO_ok {neg : Bool} {H : Hp} {x y : V} {t1 t2 : T} {b : Bool} {G1 G2 : FP} {Q : VK} (r1 : Rep Γ H x t1 G1) (r2 : Rep Γ H y t2 G2) (e : inO t1 t2 = some b) (k : Q (.bl (if neg then !b else b)) H) : rInT Γ.K neg x y H Q := by
  unfold inO at e
  split at e
  · rename_i ts
    by_cases c : shT t1 = true ∧ shT (.nd .lst ts) = true
    · rw [if_pos c] at e
      cases e
      refine .inl ⟨_, datAll ts, r1.dp (shT_lay c.1), r2.dp (shT_lay c.2), c.1, c.2, ?_⟩
      rw [any_datAll]
      exact k
    · rw [if_neg c] at e; cases e
  · rename_i ts
    by_cases c : shT t1 = true ∧ shT (.nd .lst ts) = true
    · rw [if_pos c] at e
      cases e
      refine .inl ⟨_, datAll ts, r1.dp (shT_lay c.1), r2.dp (t := .nd .fz ts) (shT_lay (t := .nd .lst ts) c.2), c.1, c.2, ?_⟩
      rw [any_datAll]
      exact k
    · rw [if_neg c] at e; cases e
  · rename_i ts
    by_cases c : flT t1 = true ∧ ts.all flT = true
    · rw [if_pos c] at e
      cases e
      obtain ⟨a, vs, rfl, hq, hl, hc⟩ := r2.tupl
      obtain ⟨e1, e2⟩ := inV_eq (F := FU G1 G2) (r1.mono fun _ z => .inl z) c.1 hl (fun i v t q1 q2 => (hc i v t q1 q2).mono fun _ z => .inr z) c.2
      refine .inr ⟨a, vs, rfl, .inr hq, r1.flat c.1, e2, ?_⟩
      rw [e1]
      exact k
    · rw [if_neg c] at e; cases e
  · cases e
theorem atI_map {vs : List V} {ts : List T} {i : Int} {t : T} (hl : vs.length = ts.length) (e : atI ts i = some t) : ∃ (v : V) (j : Nat), atI vs i = some v ∧ vs[j]? = some v ∧ ts[j]? = some t := by
  unfold atI at e ⊢
  rw [hl]
  cases e1 : ixN ts.length i with
  | none => rw [e1] at e; cases e
  | some j =>
    rw [e1] at e
    have e2 : ts[j]? = some t := e
    have hj : j < ts.length := (List.getElem?_eq_some_iff.mp e2).1
    exact ⟨vs[j]'(by omega), j, List.getElem?_eq_getElem (by omega), List.getElem?_eq_getElem (by omega), e2⟩
def ixT : T → T → Option T
  | .nd .lst ts, .int i => (atI ts i).bind imO
  | .nd .fz ts, .int i => (atI ts i).bind imO
  | .nd .tup ts, .int i => (atI ts i).bind imO
  | .str z, .int i => if z.length ≤ 100000 then (atI z.cps.toList i).bind fun c => some (.str ⟨#[c]⟩) else none
  | _, _ => none
theorem bind_im {o : Option T} {t : T} (h : o.bind imO = some t) : o = some t ∧ t.im = true := by
  cases o with
  | none => cases h
  | some u =>
    have h' : imO u = some t := h
    unfold imO at h'
    by_cases hi : u.im = true
    · rw [if_pos hi] at h'; cases h'; exact ⟨rfl, hi⟩
    · rw [if_neg hi] at h'; cases h'
theorem ixT_ok : OpT Γ (rIx Γ.K) ixT := by
  intro H x y t1 t2 t G1 G2 Q r1 r2 e k
  unfold ixT at e
  split at e
  · obtain ⟨e1, hi⟩ := bind_im e
    obtain ⟨a, vs, rfl, hq, hl, hc⟩ := r1.list (.inl rfl)
    cases r2
    obtain ⟨v, j, q1, q2, q3⟩ := atI_map hl e1
    exact .inl ⟨a, vs, _, v, rfl, rfl, hq, q1, k v H FE (Same.refl H) ((hc j v t q2 q3).im hi FE) new_FE⟩
  · obtain ⟨e1, hi⟩ := bind_im e
    obtain ⟨a, vs, rfl, hq, hl, hc⟩ := r1.list (.inr rfl)
    cases r2
    obtain ⟨v, j, q1, q2, q3⟩ := atI_map hl e1
    exact .inl ⟨a, vs, _, v, rfl, rfl, hq, q1, k v H FE (Same.refl H) ((hc j v t q2 q3).im hi FE) new_FE⟩
  · obtain ⟨e1, hi⟩ := bind_im e
    obtain ⟨a, vs, rfl, hq, hl, hc⟩ := r1.tupl
    cases r2
    obtain ⟨v, j, q1, q2, q3⟩ := atI_map hl e1
    exact .inr (.inl ⟨a, vs, _, v, rfl, rfl, hq, q1, k v H FE (Same.refl H) ((hc j v t q2 q3).im hi FE) new_FE⟩)
  · rename_i z i
    by_cases hz : z.length ≤ 100000
    · rw [if_pos hz] at e
      cases e1 : atI z.cps.toList i with
      | none => rw [e1] at e; cases e
      | some c =>
        rw [e1] at e
        cases e
        cases r1
        cases r2
        exact .inr (.inr ⟨z, i, c, rfl, rfl, sz5 hz, e1, k _ H FE (Same.refl H) (.str _) new_FE⟩)
    · rw [if_neg hz] at e; cases e
  · cases e
end
end VT
namespace VT
open PySem L2
section
variable {Γ : Gx} {ar : Fx} {W : WX} {X : Cx} {a b e : Expr} {pos p : Pos} {ga gb : BF} {fa fb : EF}
theorem nOp {op : Operator} {r : R2} {f : T → T → Option T} (ho : OpR X (binaryOp op) r) (hf : OpT Γ r f) (ha : PE X a (rdB Γ ar ga)) (hb : PE X b (rdB Γ ar gb)) : PE X (.BinOp a op b pos) (rdN Γ ar (bOp f ga gb)) := PE.imp (pe_op ho ha hb) (tOp_b hf)
theorem eOp' {op : Operator} {r : R2} {f : T → T → Option T} (ho : OpR X (binaryOp op) r) (hf : OpT Γ r f) (ha : PE X a (rdE Γ ar W fa)) (hb : PE X b (rdE Γ ar W fb)) : PE X (.BinOp a op b pos) (rdE Γ ar W (eOp f fa fb)) := PE.imp (pe_op ho ha hb) (tOp_e hf)
theorem nCmp {op : CmpOp} {r : R2} {f : T → T → Option T} (ho : OpR X (compareOp op) r) (hf : OpT Γ r f) (ha : PE X a (rdB Γ ar ga)) (hb : PE X b (rdB Γ ar gb)) (hm : behindInMarks op b = false) : PE X (.Compare a [op] [b] pos) (rdN Γ ar (bOp f ga gb)) := PE.imp (pe_cmpR ho ha hb hm) (tOp_b hf)
theorem nIx (ha : PE X a (rdB Γ ar ga)) (hb : PE X b (rdB Γ ar gb)) (hs : PlainIx b) (hK : X.K = Γ.K := by rfl) : PE X (.Subscript a b pos) (rdN Γ ar (bOp ixT ga gb)) := PE.imp (pe_ix (hK ▸ ix_seq) ha hb hs) (tOp_b ixT_ok)
def rdT (Γ : Gx) (ar : Fx) (W : WX) (f : EF) : TT := fun σ H Q => rdE Γ ar W f σ H fun x H' => ∃ k, x = .bl k ∧ Q k H'
theorem t_val (h : PE X e (rdE Γ ar W fa)) (he : ∀ whole, isTrue e X.env whole = (do let v ← whole; standAt e.pos; holding [v] (truthy v)) := by intro _; rfl) : PT X e (rdT Γ ar W fa) := PT.imp (pt_val h he) fun _ _ _ q => q
def eNot (fa : EF) : EF := fun S => (fa S).bind fun rx => match rx with
  | (.ex c, S1) => some (.ex c, S1)
  | (.ok (.bl b), S1) => some (.ok (.bl (!b)), S1)
  | _ => none
def eAnd (fa fb : EF) : EF := fun S => (fa S).bind fun rx => match rx with
  | (.ex c, S1) => some (.ex c, S1)
  | (.ok (.bl true), S1) => fb S1
  | (.ok (.bl false), S1) => some (.ok (.bl false), S1)
  | _ => none
def eOr (fa fb : EF) : EF := fun S => (fa S).bind fun rx => match rx with
  | (.ex c, S1) => some (.ex c, S1)
  | (.ok (.bl false), S1) => fb S1
  | (.ok (.bl true), S1) => some (.ok (.bl true), S1)
  | _ => none
/-- a test, then what hangs on it -/
theorem bool_then {σ : St} {H : Hp} {S : TSt} {F : FP} {S1 : TSt} {k : Bool} {P : Bool → Hp → Prop} (R : RepS Γ ar H σ S F) (e1 : fa S = some (.ok (.bl k), S1))
    (h : ∀ H1 F1, RepS Γ ar H1 σ S1 F1 → Upd H H1 F F1 → P k H1) : rdE Γ ar W fa σ H fun x H1 => ∃ c, x = .bl c ∧ P c H1 := by
  refine ⟨S, F, .ok (.bl k), S1, R, e1, fun v H1 F1 G o => ?_⟩
  cases o.r
  exact ⟨k, rfl, h H1 F1 o.rs (o.u.sub fun a z => .inl z)⟩
theorem rdE_after {σ : St} {H H1 : Hp} {F F1 : FP} {S1 : TSt} {r : Rs T} {S' : TSt} {Q : VK} (R1 : RepS Γ ar H1 σ S1 F1) (u : Upd H H1 F F1) (e : fb S1 = some (r, S'))
    (k : PostE Γ ar W H F σ S' Q r) : rdE Γ ar W fb σ H1 Q := by
  refine ⟨S1, F1, r, S', R1, e, ?_⟩
  cases r with
  | ok t => exact fun v H' F' G o => k v H' F' G ⟨o.rs, o.r, o.d, o.al, u.trans o.u⟩
  | ex c => exact fun H' F' R' u' => k H' F' R' (u.trans u')
theorem eNot_ok {σ : St} {H : Hp} {Q : VK} (q : rdE Γ ar W (eNot fa) σ H Q) : rdE Γ ar W fa σ H fun x H1 => ∃ c, x = .bl c ∧ Q (.bl (!c)) H1 := by
  obtain ⟨S, F, r, S', R, e, k⟩ := q
  unfold eNot at e
  cases e1 : fa S with
  | none => rw [e1] at e; cases e
  | some o =>
    rw [e1] at e
    simp only [Option.bind_some] at e
    split at e
    · cases e
      exact ⟨S, F, _, _, R, e1, k⟩
    · cases e
      exact bool_then R e1 fun H1 F1 R1 u => k _ H1 F1 FE ⟨R1, .bl _, fun _ _ z => z, fun _ z => z.elim, u.sub fun a z => z.elim id fun z => z.elim⟩
    · cases e
theorem eAnd_ok {σ : St} {H : Hp} {Q : VK} (q : rdE Γ ar W (eAnd fa fb) σ H Q) : rdE Γ ar W fa σ H fun x H1 => ∃ c, x = .bl c ∧ if c = true then rdE Γ ar W fb σ H1 Q else Q (.bl false) H1 := by
  obtain ⟨S, F, r, S', R, e, k⟩ := q
  unfold eAnd at e
  cases e1 : fa S with
  | none => rw [e1] at e; cases e
  | some o =>
    rw [e1] at e
    simp only [Option.bind_some] at e
    split at e
    · cases e
      exact ⟨S, F, _, _, R, e1, k⟩
    · exact bool_then R e1 fun H1 F1 R1 u => iteT (rdE_after R1 u e k)
    · cases e
      exact bool_then R e1 fun H1 F1 R1 u => iteF (k _ H1 F1 FE ⟨R1, .bl _, fun _ _ z => z, fun _ z => z.elim, u.sub fun a z => z.elim id fun z => z.elim⟩)
    · cases e
theorem eOr_ok {σ : St} {H : Hp} {Q : VK} (q : rdE Γ ar W (eOr fa fb) σ H Q) : rdE Γ ar W fa σ H fun x H1 => ∃ c, x = .bl c ∧ if c = true then Q (.bl true) H1 else rdE Γ ar W fb σ H1 Q := by
  obtain ⟨S, F, r, S', R, e, k⟩ := q
  unfold eOr at e
  cases e1 : fa S with
  | none => rw [e1] at e; cases e
  | some o =>
    rw [e1] at e
    simp only [Option.bind_some] at e
    split at e
    · cases e
      exact ⟨S, F, _, _, R, e1, k⟩
    · exact bool_then R e1 fun H1 F1 R1 u => iteF (rdE_after R1 u e k)
    · cases e
      exact bool_then R e1 fun H1 F1 R1 u => iteT (k _ H1 F1 FE ⟨R1, .bl _, fun _ _ z => z, fun _ z => z.elim, u.sub fun a z => z.elim id fun z => z.elim⟩)
    · cases e
theorem e_and {rest : List Expr} (ha : PE X a (rdE Γ ar W fa)) (hb : PE X (.BoolOp .And (b :: rest) pos) (rdE Γ ar W fb)) : PE X (.BoolOp .And (a :: b :: rest) pos) (rdE Γ ar W (eAnd fa fb)) := PE.imp (pe_and ha hb) fun _ _ _ q => eAnd_ok q
theorem e_or {rest : List Expr} (ha : PE X a (rdE Γ ar W fa)) (hb : PE X (.BoolOp .Or (b :: rest) pos) (rdE Γ ar W fb)) : PE X (.BoolOp .Or (a :: b :: rest) pos) (rdE Γ ar W (eOr fa fb)) := PE.imp (pe_or ha hb) fun _ _ _ q => eOr_ok q
theorem t_not (ha : PT X a (rdT Γ ar W fa)) : PT X (.UnaryOp .Not a pos) (rdT Γ ar W (eNot fa)) := PT.imp (pt_not ha) fun σ H Q q => by
  obtain ⟨S, F, r, S', R, e, k⟩ := eNot_ok q
  refine ⟨S, F, r, S', R, e, ?_⟩
  cases r with
  | ex c => exact k
  | ok t =>
    intro v H' F' G o
    obtain ⟨c, ev, c', ec, q⟩ := k v H' F' G o
    cases ec
    exact ⟨c, ev, q⟩
theorem PW.imp {t t' : TT} (h : PW X e t) (k : ∀ σ H Q, t' σ H Q → t σ H Q) : PW X e t' := ⟨fun whole pins s σ H Q I q => h.run whole pins s σ H Q I (k σ H Q q)⟩
theorem rdE_mono {σ : St} {H : Hp} {Q Q' : VK} (q : rdE Γ ar W fa σ H Q) (k : ∀ v H', Q v H' → Q' v H') : rdE Γ ar W fa σ H Q' := by
  obtain ⟨S, F, r, S', R, e, h⟩ := q
  refine ⟨S, F, r, S', R, e, ?_⟩
  cases r with
  | ex c => exact h
  | ok t => exact fun v H' F' G o => k v H' (h v H' F' G o)
theorem w_and {rest : List Expr} (ha : PT X a (rdT Γ ar W fa)) (hb : PW X (.BoolOp .And (b :: rest) pos) (rdT Γ ar W fb)) : PW X (.BoolOp .And (a :: b :: rest) pos) (rdT Γ ar W (eAnd fa fb)) := PW.imp (pw_and ha hb) fun σ H Q q => by
  refine rdE_mono (eAnd_ok q) fun v H' ⟨c, ev, h⟩ => ⟨c, ev, ?_⟩
  cases c with
  | true => exact h
  | false =>
    obtain ⟨k, ek, hk⟩ : ∃ k, V.bl false = V.bl k ∧ Q k H' := h
    cases ek
    exact hk
theorem w_or {rest : List Expr} (ha : PT X a (rdT Γ ar W fa)) (hb : PW X (.BoolOp .Or (b :: rest) pos) (rdT Γ ar W fb)) : PW X (.BoolOp .Or (a :: b :: rest) pos) (rdT Γ ar W (eOr fa fb)) := PW.imp (pw_or ha hb) fun σ H Q q => by
  refine rdE_mono (eOr_ok q) fun v H' ⟨c, ev, h⟩ => ⟨c, ev, ?_⟩
  cases c with
  | false => exact h
  | true =>
    obtain ⟨k, ek, hk⟩ : ∃ k, V.bl true = V.bl k ∧ Q k H' := h
    cases ek
    exact hk
theorem w_one_and (ha : PT X a (rdT Γ ar W fa)) : PW X (.BoolOp .And [a] pos) (rdT Γ ar W fa) := PW.imp (pw_and1 ha) fun _ _ _ q => q
theorem w_one_or (ha : PT X a (rdT Γ ar W fa)) : PW X (.BoolOp .Or [a] pos) (rdT Γ ar W fa) := PW.imp (pw_or1 ha) fun _ _ _ q => q
inductive Arg where
  | val (t : T) | pth (i : Nat) (p : List Nat)
abbrev AF := TSt → Option (Rs (List Arg) × TSt)
structure ArgsP (Γ : Gx) (H : Hp) (σ : St) (vs : List V) (as : List Arg) (G : FP) : Prop where
  len : vs.length = as.length
  fam : ∃ Gs : Nat → FP, (∀ (j : Nat) (v : V) (t : T), vs[j]? = some v → as[j]? = some (.val t) → Rep Γ H v t (Gs j)) ∧ (∀ (j : Nat) (v : V) (i : Nat) (p : List Nat), vs[j]? = some v → as[j]? = some (.pth i p) → ∃ v0, σ[i]? = some (some v0) ∧ vAt H p v0 = some v) ∧
    (∀ i j a, i ≠ j → Gs i a → Gs j a → False) ∧ ∀ i a, Gs i a → G a
def rdA (Γ : Gx) (ar : Fx) (W : WX) (fs : AF) : TA := fun σ H Q => ∃ S F r S', RepS Γ ar H σ S F ∧ fs S = some (r, S') ∧ (match r with
  | .ok as => ∀ vs H' F' G, RepS Γ ar H' σ S' F' → ArgsP Γ H' σ vs as G → (∀ a, F' a → G a → False) → (∀ a, G a → H' a ≠ none) → Upd H H' F (FU F' G) → Q vs H'
  | .ex c => ∀ H' F', RepS Γ ar H' σ S' F' → Upd H H' F F' → W (.ref (Γ.cl c)) none σ H')
theorem argsP_nil {H : Hp} {σ : St} : ArgsP Γ H σ [] [] FE := ⟨rfl, fun _ => FE, fun j v t e => by simp at e, fun j v i p e => by simp at e, fun _ _ _ _ z => z.elim, fun _ _ z => z⟩
theorem ArgsP.val {H : Hp} {σ : St} {vs : List V} {as : List Arg} {G G1 : FP} {v : V} {t : T} (h : ArgsP Γ H σ vs as G) (r : Rep Γ H v t G1) (d : ∀ a, G1 a → G a → False) : ArgsP Γ H σ (v :: vs) (.val t :: as) (FU G1 G) := by
  obtain ⟨len, Gs, h1, h2, h3, h4⟩ := h
  refine ⟨by simp [len], fun j => match j with | 0 => G1 | j + 1 => Gs j, fun j w u e1 e2 => ?_, fun j w i p e1 e2 => ?_, fun i j a ne z z' => ?_, fun i a z => ?_⟩
  · cases j with
    | zero =>
      simp at e1 e2
      subst e1 e2
      exact r
    | succ j => exact h1 j w u (by simpa using e1) (by simpa using e2)
  · cases j with
    | zero => simp at e2
    | succ j => exact h2 j w i p (by simpa using e1) (by simpa using e2)
  · cases i with
    | zero =>
      cases j with
      | zero => exact ne rfl
      | succ j => exact d a z (h4 j a z')
    | succ i =>
      cases j with
      | zero => exact d a z' (h4 i a z)
      | succ j => exact h3 i j a (fun e => ne (by rw [e])) z z'
  · cases i with
    | zero => exact .inl z
    | succ i => exact .inr (h4 i a z)
theorem ArgsP.ref {H : Hp} {σ : St} {vs : List V} {as : List Arg} {G : FP} {v v0 : V} {i : Nat} {p : List Nat} (h : ArgsP Γ H σ vs as G) (e : σ[i]? = some (some v0)) (e' : vAt H p v0 = some v) : ArgsP Γ H σ (v :: vs) (.pth i p :: as) G := by
  obtain ⟨len, Gs, h1, h2, h3, h4⟩ := h
  refine ⟨by simp [len], fun j => match j with | 0 => FE | j + 1 => Gs j, fun j w u e1 e2 => ?_, fun j w i p e1 e2 => ?_, fun i j a ne z z' => ?_, fun i a z => ?_⟩
  · cases j with
    | zero => simp at e2
    | succ j => exact h1 j w u (by simpa using e1) (by simpa using e2)
  · cases j with
    | zero =>
      simp at e1 e2
      obtain ⟨rfl, rfl⟩ := e2
      subst e1
      exact ⟨v0, e, e'⟩
    | succ j => exact h2 j w i p (by simpa using e1) (by simpa using e2)
  · cases i with
    | zero => exact z
    | succ i =>
      cases j with
      | zero => exact z'
      | succ j => exact h3 i j a (fun e => ne (by rw [e])) z z'
  · cases i with
    | zero => exact z.elim
    | succ i => exact h4 i a z
def aNil : AF := fun S => some (.ok [], S)
def aVal (f : EF) (fs : AF) : AF := fun S => (f S).bind fun rx => match rx with
  | (.ex c, S1) => some (.ex c, S1)
  | (.ok t, S1) => (fs S1).bind fun ry => match ry with
    | (.ex c, S2) => some (.ex c, S2)
    | (.ok l, S2) => some (.ok (.val t :: l), S2)
def argOf (S : TSt) (i : Nat) : Option Arg := (sl S i).bind fun t => if t.im = true then some (.val t) else some (.pth i [])
def aRef (i : Nat) (fs : AF) : AF := fun S => (argOf S i).bind fun x => (fs S).bind fun ry => match ry with
  | (.ex c, S2) => some (.ex c, S2)
  | (.ok l, S2) => some (.ok (x :: l), S2)
theorem a_nil : PA X [] (rdA Γ ar W aNil) := PA.imp pa_nil fun σ H Q q => by
  obtain ⟨S, F, r, S', R, e, k⟩ := q
  cases e
  exact k [] H F FE R argsP_nil (fun _ _ z => z) (fun _ z => z.elim) ((Upd.refl H F).sub fun a z => z.elim id fun z => z.elim)
theorem a_val {es : List Expr} {f : EF} {fs : AF} (ha : PE X e (rdE Γ ar W f)) (hr : PA X es (rdA Γ ar W fs)) (hs : starEach (e :: es) X.env = (false, eval e X.env) :: starEach es X.env := by rfl) : PA X (e :: es) (rdA Γ ar W (aVal f fs)) :=
  PA.imp (pa_cons ha hr hs) fun σ H Q q => by
    obtain ⟨S, F, r, S', R, ee, k⟩ := q
    unfold aVal at ee
    cases e1 : f S with
    | none => rw [e1] at ee; cases ee
    | some o1 =>
      obtain ⟨r1, S1⟩ := o1
      rw [e1] at ee
      simp only [Option.bind_some] at ee
      cases r1 with
      | ex c => cases ee; exact ⟨S, F, .ex c, _, R, e1, k⟩
      | ok t =>
        simp only at ee
        cases e2 : fs S1 with
        | none => rw [e2] at ee; cases ee
        | some o2 =>
          obtain ⟨r2, S2⟩ := o2
          rw [e2] at ee
          simp only [Option.bind_some] at ee
          refine ⟨S, F, .ok t, S1, R, e1, fun v H1 F1 G1 o1 => ⟨S1, F1, r2, S2, o1.rs, e2, ?_⟩⟩
          have up : ∀ {H2 : Hp} {F2 : FP}, Upd H1 H2 F1 F2 → Upd H H2 F (FU F2 G1) := fun u => o1.u.trans u.more
          cases r2 with
          | ex c =>
            cases ee
            exact fun H2 F2 R2 u2 => k H2 F2 R2 ((up u2).sub fun a z => .inl z)
          | ok l =>
            cases ee
            intro vs H2 F2 G2 R2 A2 d2 al2 u2
            have dG : ∀ a, G1 a → G2 a → False := fun a g1 g2 => (u2.new a (.inr g2)).elim (fun z => o1.d a z g1) fun z => o1.al a g1 z
            have dF : ∀ a, F2 a → G1 a → False := fun a f2 g1 => (u2.new a (.inl f2)).elim (fun z => o1.d a z g1) fun z => o1.al a g1 z
            exact k (v :: vs) H2 F2 (FU G1 G2) R2 (A2.val (o1.r.ke u2.toKe fun a g f => o1.d a f g) dG) (fun a f g => g.elim (dF a f) (d2 a f)) (fun a g => g.elim (fun g => u2.toKe.al (o1.al a g) fun f => o1.d a f g) (al2 a))
              ((up u2).sub fun a z => z.elim (fun z => .inl (.inl z)) fun z => z.elim .inr fun z => .inl (.inr z))
theorem a_ref (i : Nat) {x : Str} {es : List Expr} {fs : AF} (hr : PA X es (rdA Γ ar W fs)) (hN : X.N[i]? = some x := by rfl) (hv : Vis X.env.scope x := by first | exact Or.inl rfl | exact Or.inr (Or.inl rfl) | exact Or.inr (Or.inr rfl)) (hd : (x == ("__debug__" : Str)) = false := by decide)
    (hcd : (x == ("__classdict__" : Str)) = false := by decide) (hs : starEach (.Name x pos :: es) X.env = (false, eval (.Name x pos) X.env) :: starEach es X.env := by rfl) : PA X (.Name x pos :: es) (rdA Γ ar W (aRef i fs)) :=
  PA.imp (pa_cons (pe_var hN hv hd hcd) hr hs) fun σ H Q q => by
    obtain ⟨S, F, r, S', R, ee, k⟩ := q
    unfold aRef argOf at ee
    cases e0 : sl S i with
    | none => rw [e0] at ee; cases ee
    | some t =>
      rw [e0] at ee
      simp only [Option.bind_some] at ee
      obtain ⟨v, ev, rv⟩ := R.slot (sl_some.mp e0)
      refine ⟨v, ev, ?_⟩
      cases e2 : fs S with
      | none => by_cases hi : t.im = true <;> simp [hi, e2] at ee
      | some o2 =>
        obtain ⟨r2, S2⟩ := o2
        refine ⟨S, F, r2, S2, R, e2, ?_⟩
        cases r2 with
        | ex c => by_cases hi : t.im = true <;> (simp [hi, e2] at ee; obtain ⟨rfl, rfl⟩ := ee; exact k)
        | ok l =>
          intro vs H2 F2 G2 R2 A2 d2 al2 u2
          by_cases hi : t.im = true
          · simp [hi, e2] at ee
            obtain ⟨rfl, rfl⟩ := ee
            exact k (v :: vs) H2 F2 (FU FE G2) R2 (A2.val ((rv.im hi FE).ke u2.toKe fun _ z => z.elim) fun _ z => z.elim) (fun a f g => g.elim (fun z => z) (d2 a f)) (fun a g => g.elim (fun z => z.elim) (al2 a)) (u2.sub fun a z => z.elim .inl fun z => z.elim (fun z => z.elim) .inr)
          · simp [hi, e2] at ee
            obtain ⟨rfl, rfl⟩ := ee
            exact k (v :: vs) H2 F2 G2 R2 (A2.ref ev rfl) d2 al2 u2
/-- .. read only -/
abbrev BAF := TSt → Option (List Arg)
def rdBA (Γ : Gx) (ar : Fx) (gs : BAF) : TA := fun σ H Q => ∃ S F as, RepS Γ ar H σ S F ∧ gs S = some as ∧ ∀ vs H' G, Same H H' → ArgsP Γ H' σ vs as G → New H H' G → Q vs H'
def baNil : BAF := fun _ => some []
def baVal (g : BF) (gs : BAF) : BAF := fun S => (g S).bind fun t => (gs S).bind fun l => some (.val t :: l)
def baRef (i : Nat) (gs : BAF) : BAF := fun S => (argOf S i).bind fun x => (gs S).bind fun l => some (x :: l)
theorem ArgsP.same {H H' : Hp} {σ : St} {vs : List V} {as : List Arg} {G : FP} (h : ArgsP Γ H σ vs as G) (s : Same H H') : ArgsP Γ H' σ vs as G := by
  obtain ⟨len, Gs, h1, h2, h3, h4⟩ := h
  exact ⟨len, Gs, fun j v t e1 e2 => (h1 j v t e1 e2).same s, fun j v i p e1 e2 => let ⟨v0, q1, q2⟩ := h2 j v i p e1 e2; ⟨v0, q1, vAt_same s q2⟩, h3, h4⟩
theorem ba_nil : PA X [] (rdBA Γ ar baNil) := PA.imp pa_nil fun σ H Q q => by
  obtain ⟨S, F, as, R, e, k⟩ := q
  cases e
  exact k [] H FE (Same.refl H) argsP_nil new_FE
theorem ba_val {es : List Expr} {g : BF} {gs : BAF} (ha : PE X e (rdN Γ ar g)) (hr : PA X es (rdBA Γ ar gs)) (hs : starEach (e :: es) X.env = (false, eval e X.env) :: starEach es X.env := by rfl) : PA X (e :: es) (rdBA Γ ar (baVal g gs)) :=
  PA.imp (pa_cons ha hr hs) fun σ H Q q => by
    obtain ⟨S, F, as, R, ee, k⟩ := q
    unfold baVal at ee
    cases e1 : g S with
    | none => rw [e1] at ee; cases ee
    | some t =>
      rw [e1] at ee
      simp only [Option.bind_some] at ee
      cases e2 : gs S with
      | none => rw [e2] at ee; cases ee
      | some l =>
        rw [e2] at ee
        cases ee
        refine ⟨S, F, t, R, e1, fun v H1 G1 s1 r1 n1 => ⟨S, F, l, R.same s1, e2, fun vs H2 G2 s2 A2 n2 => ?_⟩⟩
        exact k (v :: vs) H2 (FU G1 G2) (s1.trans s2) (A2.val (r1.same s2) fun a g1 g2 => n1.2 a g1 (n2.1 a g2)) ⟨fun a g => g.elim (n1.1 a) fun g => s1.free (n2.1 a g), fun a g => g.elim (fun g => same_al s2 (n1.2 a g)) (n2.2 a)⟩
theorem ba_ref (i : Nat) {x : Str} {es : List Expr} {gs : BAF} (hr : PA X es (rdBA Γ ar gs)) (hN : X.N[i]? = some x := by rfl) (hv : Vis X.env.scope x := by first | exact Or.inl rfl | exact Or.inr (Or.inl rfl) | exact Or.inr (Or.inr rfl)) (hd : (x == ("__debug__" : Str)) = false := by decide)
    (hcd : (x == ("__classdict__" : Str)) = false := by decide) (hs : starEach (.Name x pos :: es) X.env = (false, eval (.Name x pos) X.env) :: starEach es X.env := by rfl) : PA X (.Name x pos :: es) (rdBA Γ ar (baRef i gs)) :=
  PA.imp (pa_cons (pe_var hN hv hd hcd) hr hs) fun σ H Q q => by
    obtain ⟨S, F, as, R, ee, k⟩ := q
    unfold baRef argOf at ee
    cases e0 : sl S i with
    | none => rw [e0] at ee; cases ee
    | some t =>
      rw [e0] at ee
      simp only [Option.bind_some] at ee
      obtain ⟨v, ev, rv⟩ := R.slot (sl_some.mp e0)
      refine ⟨v, ev, ?_⟩
      cases e2 : gs S with
      | none => by_cases hi : t.im = true <;> simp [hi, e2] at ee
      | some l =>
        refine ⟨S, F, l, R, e2, fun vs H2 G2 s2 A2 n2 => ?_⟩
        by_cases hi : t.im = true
        · simp [hi, e2] at ee
          subst ee
          exact k (v :: vs) H2 (FU FE G2) s2 (A2.val ((rv.im hi FE).same s2) fun _ z => z.elim) ⟨fun a g => g.elim (fun z => z.elim) (n2.1 a), fun a g => g.elim (fun z => z.elim) (n2.2 a)⟩
        · simp [hi, e2] at ee
          subst ee
          exact k (v :: vs) H2 G2 s2 (A2.ref ev rfl) n2
def valsOf : List Arg → Option (List T)
  | [] => some []
  | .val t :: l => (valsOf l).bind fun ts => some (t :: ts)
  | .pth _ _ :: _ => none
theorem valsOf_get : ∀ {as : List Arg} {ts : List T}, valsOf as = some ts → as.length = ts.length ∧ ∀ (j : Nat) (t : T), ts[j]? = some t → as[j]? = some (.val t)
  | [], ts, e => by cases e; exact ⟨rfl, fun j t h => by simp at h⟩
  | .val u :: l, ts, e => by
    unfold valsOf at e
    cases e1 : valsOf l with
    | none => rw [e1] at e; cases e
    | some us =>
      rw [e1] at e
      cases e
      obtain ⟨h1, h2⟩ := valsOf_get e1
      refine ⟨by simp [h1], fun j t h => ?_⟩
      cases j with
      | zero => simp at h ⊢; exact h
      | succ j => simp at h ⊢; exact h2 j t h
  | .pth _ _ :: _, ts, e => by cases e
theorem ArgsP.vals {H : Hp} {σ : St} {vs : List V} {as : List Arg} {ts : List T} {G : FP} (h : ArgsP Γ H σ vs as G) (e : valsOf as = some ts) :
    vs.length = ts.length ∧ ∃ Gs : Nat → FP, (∀ (j : Nat) (v : V) (t : T), vs[j]? = some v → ts[j]? = some t → Rep Γ H v t (Gs j)) ∧ (∀ i j a, i ≠ j → Gs i a → Gs j a → False) ∧ ∀ i a, Gs i a → G a := by
  obtain ⟨len, Gs, h1, h2, h3, h4⟩ := h
  obtain ⟨e1, e2⟩ := valsOf_get e
  exact ⟨len.trans e1, Gs, fun j v t q1 q2 => h1 j v t q1 (e2 j t q2), h3, h4⟩
def eDisp (k : Kd) (fs : AF) : EF := fun S => (fs S).bind fun rx => match rx with
  | (.ex c, S1) => some (.ex c, S1)
  | (.ok l, S1) => (valsOf l).bind fun ts => if ts.length ≤ 100000 then some (.ok (.nd k ts), S1) else none
theorem upd_new {H : Hp} {p : Addr} {o : HO} (hp : H p = none) : Same H (upd H p o) := fun b u e => by rw [upd_ne (ne_of_none e hp)]; exact e
theorem disp_ok {k : Kd} {mk : List V → HO} (hk : ∀ H a vs, H a = some (mk vs) → At Γ H k a vs) {fs : AF} {σ : St} {H : Hp} {Q : VK} (q : rdE Γ ar W (eDisp k fs) σ H Q) :
    rdA Γ ar W fs σ H fun xs H1 => xs.length ≤ sizeLine ∧ ∀ p, H1 p = none → Q (.ref p) (upd H1 p (mk xs)) := by
  obtain ⟨S, F, r, S', R, e, kk⟩ := q
  unfold eDisp at e
  cases e1 : fs S with
  | none => rw [e1] at e; cases e
  | some o =>
    obtain ⟨r1, S1⟩ := o
    rw [e1] at e
    simp only [Option.bind_some] at e
    cases r1 with
    | ex c => cases e; exact ⟨S, F, _, _, R, e1, kk⟩
    | ok l =>
      simp only at e
      cases e2 : valsOf l with
      | none => rw [e2] at e; cases e
      | some ts =>
        rw [e2] at e
        simp only [Option.bind_some] at e
        by_cases hl : ts.length ≤ 100000
        · rw [if_pos hl] at e
          cases e
          refine ⟨S, F, _, _, R, e1, fun vs H1 F1 G1 R1 A1 d1 al1 u1 => ?_⟩
          obtain ⟨len, Gs, h1, h3, h4⟩ := A1.vals e2
          refine ⟨sz5 (by omega), fun p hp => ?_⟩
          have s := upd_new (o := mk vs) hp
          have npG : ¬ G1 p := fun g => al1 p g hp
          refine kk _ _ F1 (FU (fun a => a = p) G1) ⟨R1.same s, .nd (Fs := Gs) (hk _ p vs upd_same) len (fun _ => ⟨.inl rfl, fun i z => npG (h4 i p z)⟩) (fun i v t q1 q2 => (h1 i v t q1 q2).same s) h3 fun i a z => .inr (h4 i a z), ?_, ?_, ?_⟩
          · rintro a f (z | z)
            · rw [z] at f; exact R1.al p f hp
            · exact d1 a f z
          · rintro a (z | z)
            · rw [z, upd_same]; exact fun q => nomatch q
            · exact same_al s (al1 a z)
          · refine u1.trans ⟨Ke.of_same _ s, fun a z => ?_⟩
            rcases z with z | z | z
            · exact .inl (.inl z)
            · exact .inr (by rw [z]; exact hp)
            · exact .inl (.inr z)
        · rw [if_neg hl] at e; cases e
theorem e_lst {es : List Expr} {fs : AF} (h : PA X es (rdA Γ ar W fs)) : PE X (.List es pos) (rdE Γ ar W (eDisp .lst fs)) := PE.imp (pe_lst h) fun _ _ _ q => disp_ok (k := .lst) (mk := HO.lst) (fun _ _ _ e => e) q
def nTup (gs : BAF) : BF := fun S => (gs S).bind fun l => (valsOf l).bind fun ts => gd (ts.length ≤ 100000 ∧ T.imAll ts = true) (.nd .tup ts)
theorem n_tup {es : List Expr} {x1} {gs : BAF} (h : PA X es (rdBA Γ ar gs)) : PE X (.Tuple es x1 pos) (rdN Γ ar (nTup gs)) := PE.imp (pe_tup h) fun σ H Q q => by
  obtain ⟨S, F, t, R, e, k⟩ := q
  unfold nTup at e
  cases e1 : gs S with
  | none => rw [e1] at e; cases e
  | some l =>
    rw [e1] at e
    simp only [Option.bind_some] at e
    cases e2 : valsOf l with
    | none => rw [e2] at e; cases e
    | some ts =>
      rw [e2] at e
      obtain ⟨⟨c1, c2⟩, rfl⟩ := gd_some.mp e
      refine ⟨S, F, l, R, e1, fun vs H1 G1 s1 A1 n1 => ?_⟩
      obtain ⟨len, Gs, h1, h3, h4⟩ := A1.vals e2
      refine ⟨sz5 (by omega), fun p hp => ?_⟩
      obtain ⟨s, r, n⟩ := new_tup (Γ := Γ) (G := G1) hp len (fun i v t q1 q2 => (h1 i v t q1 q2).mono (h4 i)) c2
      exact k _ _ FE (s1.trans s) r (n.back s1)
end
end VT
namespace VT
open PySem L2
section
variable {Γ : Gx} {ar : Fx} {W : WX} {X : Cx} {a b e : Expr} {pos p : Pos} {ga gb : BF} {fa fb : EF}
def argTrees : TSt → List Arg → Option (List T)
  | _, [] => some []
  | S, .val t :: as => (argTrees S as).bind fun ts => some (t :: ts)
  | S, .pth i p :: as => (sl S i).bind fun t => (tAt p t).bind fun u => (argTrees (S.set i none) as).bind fun ts => some (u :: ts)
def putBack : TSt → List Arg → List T → TSt
  | S, [], _ => S
  | S, .val _ :: as, ts => putBack S as ts.tail
  | S, .pth i p :: as, ts => match sl S i, ts.head? with
    | some t, some u => (putBack (S.set i none) as ts.tail).set i (some (tPut p t u))
    | _, _ => putBack (S.set i none) as ts.tail
theorem RepS.mono {H : Hp} {σ : St} {S : TSt} {F F' : FP} (h : RepS Γ ar H σ S F) (s : ∀ a, F a → F' a) (al : ∀ a, F' a → H a ≠ none) : RepS Γ ar H σ S F' := by
  obtain ⟨len, arg, ⟨Fs, h1, h2, h3⟩, _⟩ := h
  exact ⟨len, arg, ⟨Fs, h1, h2, fun i a z => s a (h3 i a z)⟩, al⟩
theorem got {H : Hp} {σ : St} : ∀ (as : List Arg) {S : TSt} {F : FP} {vs : List V} {ts : List T}, RepS Γ ar H σ S F → vs.length = as.length →
    (∀ (j : Nat) (v : V) (i : Nat) (p : List Nat), vs[j]? = some v → as[j]? = some (.pth i p) → ∃ v0, σ[i]? = some (some v0) ∧ vAt H p v0 = some v) → argTrees S as = some ts →
    ∃ Ps : Nat → FP, ts.length = as.length ∧ (∀ (j : Nat) (u : T), as[j]? = some (.val u) → ts[j]? = some u) ∧
      (∀ (j : Nat) (v : V) (t : T) (i : Nat) (p : List Nat), vs[j]? = some v → ts[j]? = some t → as[j]? = some (.pth i p) → Rep Γ H v t (Ps j)) ∧ (∀ i j a, i ≠ j → Ps i a → Ps j a → False) ∧ (∀ j a, Ps j a → F a) ∧
      ∀ H' (ts' : List T) (Qs : Nat → FP), ts'.length = as.length → (∀ b o, F b → (∀ j, ¬ Ps j b) → H b = some o → H' b = some o) → (∀ b o, Im o → H b = some o → H' b = some o) →
        (∀ (j : Nat) (v : V) (t : T) (i : Nat) (p : List Nat), vs[j]? = some v → ts'[j]? = some t → as[j]? = some (.pth i p) → Rep Γ H' v t (Qs j)) → (∀ i j a, i ≠ j → Qs i a → Qs j a → False) →
        (∀ j a, Qs j a → (∃ m, Ps m a) ∨ ¬ F a) → (∀ j a, Qs j a → H' a ≠ none) →
        ∃ F', RepS Γ ar H' σ (putBack S as ts') F' ∧ ∀ a, F' a → (F a ∧ ∀ j, ¬ Ps j a) ∨ ∃ j, Qs j a
  | [], S, F, vs, ts, R, hl, hp, e => by
    cases e
    refine ⟨fun _ => FE, rfl, fun j u z => by simp at z, fun j v t i p _ z => by simp at z, fun _ _ _ _ z => z.elim, fun _ _ z => z.elim, fun H' ts' Qs l2 kp im r d nw al => ⟨F, ?_, fun a f => .inl ⟨f, fun _ z => z⟩⟩⟩
    obtain ⟨len, arg, ⟨Fs, h1, h2, h3⟩, al0⟩ := R
    refine ⟨len, arg, ⟨Fs, fun i t q => ?_, h2, h3⟩, fun a f => ?_⟩
    · obtain ⟨v, ev, rv⟩ := h1 i t q
      exact ⟨v, ev, rv.frame (fun a o f q => kp a o (h3 i a f) (fun _ z => z) q) im⟩
    · cases q : H a with
      | none => exact absurd q (al0 a f)
      | some o => rw [kp a o f (fun _ z => z) q]; exact fun z => nomatch z
  | .val u :: as, S, F, vs, ts, R, hl, hp, e => by
    unfold argTrees at e
    cases e1 : argTrees S as with
    | none => rw [e1] at e; cases e
    | some ts1 =>
      rw [e1] at e
      cases e
      match vs, hl with
      | v :: vs, hl =>
        obtain ⟨Ps, l1, a0, a1, a2, a3, back⟩ := got as R (vs := vs) (by simpa using hl) (fun j w i p q1 q2 => hp (j + 1) w i p (by simpa using q1) (by simpa using q2)) e1
        refine ⟨fun j => match j with | 0 => FE | j + 1 => Ps j, by simp [l1], fun j w q => ?_, fun j w t i p q1 q2 q3 => ?_, fun i j a ne z z' => ?_, fun j a z => ?_, fun H' ts' Qs l2 kp im r d nw al => ?_⟩
        · cases j with
          | zero => simp at q ⊢; exact q
          | succ j => simp at q ⊢; exact a0 j w q
        · cases j with
          | zero => simp at q3
          | succ j => exact a1 j w t i p (by simpa using q1) (by simpa using q2) (by simpa using q3)
        · cases i with
          | zero => exact z
          | succ i =>
            cases j with
            | zero => exact z'
            | succ j => exact a2 i j a (fun q => ne (by rw [q])) z z'
        · cases j with
          | zero => exact z.elim
          | succ j => exact a3 j a z
        · match ts', l2 with
          | t' :: ts', l2 =>
            obtain ⟨F', R', sub⟩ := back H' ts' (fun j => Qs (j + 1)) (by simpa using l2) (fun b o f n q => kp b o f (fun j => match j with | 0 => fun z => z | j + 1 => n j) q) im (fun j w t i p q1 q2 q3 => r (j + 1) w t i p (by simpa using q1) (by simpa using q2) (by simpa using q3))
              (fun i j a ne z z' => d (i + 1) (j + 1) a (by omega) z z') (fun j a z => (nw (j + 1) a z).elim (fun ⟨m, z⟩ => match m, z with | 0, z => z.elim | m + 1, z => .inl ⟨m, z⟩) .inr) fun j a z => al (j + 1) a z
            refine ⟨F', R', fun a f => (sub a f).elim (fun ⟨f, n⟩ => .inl ⟨f, fun j => match j with | 0 => fun z => z | j + 1 => n j⟩) fun ⟨j, z⟩ => .inr ⟨j + 1, z⟩⟩
  | .pth i p :: as, S, F, vs, ts, R, hl, hp, e => by
    unfold argTrees at e
    cases e0 : sl S i with
    | none => rw [e0] at e; cases e
    | some t0 =>
      rw [e0] at e
      simp only [Option.bind_some] at e
      cases e1 : tAt p t0 with
      | none => rw [e1] at e; cases e
      | some u0 =>
        rw [e1] at e
        simp only [Option.bind_some] at e
        cases e2 : argTrees (S.set i none) as with
        | none => rw [e2] at e; cases e
        | some ts1 =>
          rw [e2] at e
          cases e
          match vs, hl with
          | v :: vs, hl =>
            obtain ⟨v0, F1, Gi, ev, rv, R1, d1, s1, s2⟩ := R.take (sl_some.mp e0)
            obtain ⟨v1, G, b1, b2, b3, bk⟩ := VT.focus p rv e1
            obtain ⟨v0', q1, q2⟩ := hp 0 v i p rfl rfl
            have ee : v0 = v0' := Option.some.inj (Option.some.inj (ev.symm.trans q1))
            subst ee
            have ee : v1 = v := Option.some.inj (b1.symm.trans q2)
            subst ee
            obtain ⟨Ps, l1, a0, a1, a2, a3, back⟩ := got as R1 (vs := vs) (by simpa using hl) (fun j w i p q1 q2 => hp (j + 1) w i p (by simpa using q1) (by simpa using q2)) e2
            refine ⟨fun j => match j with | 0 => G | j + 1 => Ps j, by simp [l1], fun j w q => ?_, fun j w t i' p' q1 q2 q3 => ?_, fun i' j a ne z z' => ?_, fun j a z => ?_, fun H' ts' Qs l2 kp im r d nw al => ?_⟩
            · cases j with
              | zero => simp at q
              | succ j => simp at q ⊢; exact a0 j w q
            · cases j with
              | zero =>
                simp at q1 q2
                subst q1 q2
                exact b2
              | succ j => exact a1 j w t i' p' (by simpa using q1) (by simpa using q2) (by simpa using q3)
            · cases i' with
              | zero =>
                cases j with
                | zero => exact ne rfl
                | succ j => exact d1 a (a3 j a z') (b3 a z)
              | succ i' =>
                cases j with
                | zero => exact d1 a (a3 i' a z) (b3 a z')
                | succ j => exact a2 i' j a (fun q => ne (by rw [q])) z z'
            · cases j with
              | zero => exact s2 a (b3 a z)
              | succ j => exact s1 a (a3 j a z)
            · match ts', l2 with
              | t' :: ts', l2 =>
                have kpF1 : ∀ b o, F1 b → (∀ j, ¬ Ps j b) → H b = some o → H' b = some o := fun b o f n q => kp b o (s1 b f) (fun j => match j with | 0 => fun z => d1 b f (b3 b z) | j + 1 => n j) q
                obtain ⟨F', R', sub⟩ := back H' ts' (fun j => Qs (j + 1)) (by simpa using l2) kpF1 im (fun j w t i p q1 q2 q3 => r (j + 1) w t i p (by simpa using q1) (by simpa using q2) (by simpa using q3))
                  (fun i j a ne z z' => d (i + 1) (j + 1) a (by omega) z z') (fun j a z => (nw (j + 1) a z).elim (fun ⟨m, z⟩ => match m, z with | 0, z => .inr fun f => d1 a f (b3 a z) | m + 1, z => .inl ⟨m, z⟩) fun z => .inr fun f => z (s1 a f)) fun j a z => al (j + 1) a z
                have rb := bk H' t' (Qs 0) ⟨fun b o f n q => kp b o (s2 b f) (fun j => match j with | 0 => n | j + 1 => fun z => d1 b (a3 j b z) f) q, im⟩
                  (fun a z => (nw 0 a z).elim (fun ⟨m, z⟩ => match m, z with | 0, z => .inl z | m + 1, z => .inr fun f => d1 a (a3 m a z) f) fun z => .inr fun f => z (s2 a f)) (r 0 v1 t' i p rfl rfl rfl)
                have nP : ∀ a, Gi a → ∀ m, ¬ Ps m a := fun a g m z => d1 a (a3 m a z) g
                have dd : ∀ a, F' a → (Gi a ∧ ¬ G a) ∨ Qs 0 a → False := fun a f z => by
                  rcases sub a f with ⟨f, n⟩ | ⟨j, f⟩
                  · rcases z with z | z
                    · exact d1 a f z.1
                    · rcases nw 0 a z with ⟨m, y⟩ | y
                      · match m, y with
                        | 0, y => exact d1 a f (b3 a y)
                        | m + 1, y => exact n m y
                      · exact y (s1 a f)
                  · rcases z with z | z
                    · rcases nw (j + 1) a f with ⟨m, y⟩ | y
                      · match m, y with
                        | 0, y => exact z.2 y
                        | m + 1, y => exact nP a z.1 m y
                      · exact y (s2 a z.1)
                    · exact d 0 (j + 1) a (by omega) z f
                have alG : ∀ a, ((Gi a ∧ ¬ G a) ∨ Qs 0 a) → H' a ≠ none := fun a z => z.elim (fun z => by
                  cases q : H a with
                  | none => exact absurd q (R.al a (s2 a z.1))
                  | some o => rw [kp a o (s2 a z.1) (fun j => match j with | 0 => z.2 | j + 1 => nP a z.1 j) q]; exact fun y => nomatch y) (al 0 a)
                have Rg := R'.give ev rb dd alG
                refine ⟨fun a => F' a ∨ ((Gi a ∧ ¬ G a) ∨ Qs 0 a), ?_, fun a f => ?_⟩
                · show RepS Γ ar H' σ (putBack S (.pth i p :: as) (t' :: ts')) _
                  unfold putBack
                  rw [e0]
                  exact Rg
                · rcases f with f | f | f
                  · rcases sub a f with ⟨f, n⟩ | ⟨j, f⟩
                    · exact .inl ⟨s1 a f, fun j => match j with | 0 => fun z => d1 a f (b3 a z) | j + 1 => n j⟩
                    · exact .inr ⟨j + 1, f⟩
                  · exact .inl ⟨s2 a f.1, fun j => match j with | 0 => f.2 | j + 1 => nP a f.1 j⟩
                  · exact .inr ⟨0, f⟩
abbrev MF := List T → Option (Rs T × List T)
abbrev RepA (Γ : Gx) (H : Hp) (vs : List V) (ts : List T) (F : FP) : Prop := RepS Γ (fun i => vs[i]?) H (vs.map some) (ts.map some) F
def spT (Γ : Gx) (n : Nat) (m : MF) : Sp := fun vs H Q E => ∃ ts F r ts', vs.length = n ∧ RepA Γ H vs ts F ∧ m ts = some (r, ts') ∧ (match r with
  | .ok t => ∀ v H' F' G, RepA Γ H' vs ts' F' → Rep Γ H' v t G → (∀ a, F' a → G a → False) → (∀ a, G a → H' a ≠ none) → Upd H H' F (FU F' G) → Q v H'
  | .ex c => ∀ H' F', RepA Γ H' vs ts' F' → Upd H H' F F' → E (.ref (Γ.cl c)) none H')
theorem repA_get {H : Hp} {vs : List V} {ts : List T} {F : FP} (R : RepA Γ H vs ts F) : vs.length = ts.length ∧ ∃ Fs : Nat → FP, (∀ (j : Nat) (v : V) (t : T), vs[j]? = some v → ts[j]? = some t → Rep Γ H v t (Fs j)) ∧ (∀ i j a, i ≠ j → Fs i a → Fs j a → False) ∧ (∀ i a, Fs i a → F a) ∧ ∀ a, F a → H a ≠ none := by
  obtain ⟨len, arg, ⟨Fs, h1, h2, h3⟩, al⟩ := R
  refine ⟨by simpa using len.symm, Fs, fun j v t e1 e2 => ?_, h2, h3, al⟩
  obtain ⟨w, ew, r⟩ := h1 j t (by rw [List.getElem?_map, e2]; rfl)
  rw [List.getElem?_map, e1] at ew
  have q : v = w := Option.some.inj (Option.some.inj ew)
  rw [q]
  exact r
def Arg.isP : Arg → Bool
  | .val _ => false
  | .pth _ _ => true
/-- the heart of a call: the arguments' things ahead of it, and all behind it -/
theorem call_core {H : Hp} {σ : St} {S : TSt} {F Gv : FP} {vs : List V} {as : List Arg} {ts : List T} (R : RepS Γ ar H σ S F) (A : ArgsP Γ H σ vs as Gv) (d : ∀ a, F a → Gv a → False) (alv : ∀ a, Gv a → H a ≠ none) (e1 : argTrees S as = some ts) :
    ∃ Fa, RepA Γ H vs ts Fa ∧ (∀ a, Fa a → F a ∨ Gv a) ∧ ∀ {H' : Hp} {ts' : List T} {F' G : FP}, ts'.length = as.length → RepA Γ H' vs ts' F' → (∀ a, F' a → G a → False) → Upd H H' Fa (FU F' G) →
      ∃ (F'' : FP) (Fs' : Nat → FP), RepS Γ ar H' σ (putBack S as ts') F'' ∧ (∀ a, F'' a → G a → False) ∧ Upd H H' (FU F Gv) (FU (FU F'' G) (fun a => ∃ (j : Nat) (x : Arg), as[j]? = some x ∧ x.isP = false ∧ Fs' j a)) ∧
        (∀ (j : Nat) (v : V) (t : T), vs[j]? = some v → ts'[j]? = some t → Rep Γ H' v t (Fs' j)) ∧ (∀ i j a, i ≠ j → Fs' i a → Fs' j a → False) ∧ (∀ (j : Nat) (x : Arg) (a : Addr), as[j]? = some x → x.isP = false → Fs' j a → F'' a → False) ∧ (∀ j a, Fs' j a → G a → False) ∧ ∀ j a, Fs' j a → H' a ≠ none := by
  obtain ⟨len, Gs, g1, g2, g3, g4⟩ := A
  obtain ⟨Ps, l1, a0, a1, a2, a3, back⟩ := got as R len g2 e1
  have key : ∀ j v t, vs[j]? = some v → ts[j]? = some t → Rep Γ H v t (FU (Ps j) (Gs j)) := fun j v t q1 q2 => by
    have hj : j < as.length := by rw [← len]; exact (List.getElem?_eq_some_iff.mp q1).1
    cases q3 : as[j]? with
    | none => rw [List.getElem?_eq_none_iff] at q3; omega
    | some x =>
      cases x with
      | val u =>
        have q4 := a0 j u q3
        rw [q2] at q4
        cases q4
        exact (g1 j v t q1 q3).mono fun _ z => .inr z
      | pth i p => exact (a1 j v t i p q1 q2 q3).mono fun _ z => .inl z
  have hd : ∀ i j a, i ≠ j → FU (Ps i) (Gs i) a → FU (Ps j) (Gs j) a → False := fun i j a ne z z' => by
    rcases z with z | z <;> rcases z' with z' | z'
    · exact a2 i j a ne z z'
    · exact d a (a3 i a z) (g4 j a z')
    · exact d a (a3 j a z') (g4 i a z)
    · exact g3 i j a ne z z'
  refine ⟨fun a => ∃ j, FU (Ps j) (Gs j) a, ?_, fun a ⟨j, z⟩ => z.elim (fun z => .inl (a3 j a z)) fun z => .inr (g4 j a z), fun {H' ts' F' G} hlen R' dG u => ?_⟩
  · refine ⟨by rw [List.length_map, List.length_map, l1, len], fun i v q => by rw [List.getElem?_map, q]; rfl, ⟨fun j => FU (Ps j) (Gs j), fun j t q => ?_, hd, fun j a z => ⟨j, z⟩⟩, fun a ⟨j, z⟩ => z.elim (fun z => R.al a (a3 j a z)) fun z => alv a (g4 j a z)⟩
    rw [List.getElem?_map] at q
    cases q2 : ts[j]? with
    | none => rw [q2] at q; cases q
    | some t2 =>
      rw [q2] at q
      cases q
      have hj : j < vs.length := by rw [len, ← l1]; exact (List.getElem?_eq_some_iff.mp q2).1
      exact ⟨vs[j], by rw [List.getElem?_map, List.getElem?_eq_getElem hj]; rfl, key j _ _ (List.getElem?_eq_getElem hj) q2⟩
  · obtain ⟨lA, Fs', k1, k2, k3, k4⟩ := repA_get R'
    have nw : ∀ a, FU F' G a → (∃ m, Ps m a) ∨ ¬ F a := fun a z => by
      rcases u.new a z with ⟨m, z | z⟩ | z
      · exact .inl ⟨m, z⟩
      · exact .inr fun f => d a f (g4 m a z)
      · exact .inr fun f => R.al a f z
    obtain ⟨F'', R'', sub⟩ := back H' ts' (fun j a => (∃ x, as[j]? = some x ∧ x.isP = true) ∧ Fs' j a) hlen (fun b o f n q => u.keep b o q fun ⟨j, z⟩ => z.elim (n j) fun z => d b f (g4 j b z)) u.imm
      (fun j v t i p q1 q2 q3 => (k1 j v t q1 q2).mono fun a z => ⟨⟨_, q3, rfl⟩, z⟩) (fun i j a ne z z' => k2 i j a ne z.2 z'.2) (fun j a z => nw a (.inl (k3 j a z.2))) fun j a z => k4 a (k3 j a z.2)
    have aux : ∀ a, FU F' G a → FU F Gv a ∨ H a = none := fun a z => (u.new a z).elim (fun ⟨j, z⟩ => .inl (z.elim (fun z => .inl (a3 j a z)) fun z => .inr (g4 j a z))) .inr
    refine ⟨F'', Fs', R'', fun a f g => ?_, ⟨⟨fun b o q n => u.keep b o q fun ⟨j, z⟩ => n (z.elim (fun z => .inl (a3 j b z)) fun z => .inr (g4 j b z)), u.imm⟩, fun a z => ?_⟩, k1, k2, fun j x a q1 q2 z f => ?_, fun j a z g => dG a (k3 j a z) g, fun j a z => k4 a (k3 j a z)⟩
    · rcases sub a f with ⟨f, nn⟩ | ⟨j, f⟩
      · rcases nw a (.inr g) with ⟨m, z⟩ | z
        · exact nn m z
        · exact z f
      · exact dG a (k3 j a f.2) g
    · rcases z with (z | z) | ⟨j, x, _, _, z⟩
      · rcases sub a z with ⟨f, _⟩ | ⟨j, f⟩
        · exact .inl (.inl f)
        · exact aux a (.inl (k3 j a f.2))
      · exact aux a (.inr z)
      · exact aux a (.inl (k3 j a z))
    · rcases sub a f with ⟨f, nn⟩ | ⟨m, f⟩
      · rcases nw a (.inl (k3 j a z)) with ⟨m, y⟩ | y
        · exact nn m y
        · exact y f
      · by_cases hm : m = j
        · subst hm
          obtain ⟨⟨x', q3, q4⟩, _⟩ := f
          rw [q1] at q3
          cases q3
          rw [q2] at q4
          cases q4
        · exact k2 m j a hm f.2 z
def callR (m : MF) (n : Nat) (S : TSt) (as : List Arg) : Option (Rs T × TSt) := if as.length = n then (argTrees S as).bind fun ts => (m ts).bind fun rt => if rt.2.length = n then some (rt.1, putBack S as rt.2) else none else none
theorem call_ok {H : Hp} {σ : St} {S : TSt} {F Gv : FP} {vs : List V} {as : List Arg} {m : MF} {n : Nat} {r : Rs T} {S' : TSt} {Q : VK} {E : XK} (R : RepS Γ ar H σ S F) (A : ArgsP Γ H σ vs as Gv) (d : ∀ a, F a → Gv a → False) (alv : ∀ a, Gv a → H a ≠ none)
    (e : callR m n S as = some (r, S'))
    (hk : ∀ t, r = .ok t → ∀ v H' F' G, RepS Γ ar H' σ S' F' → Rep Γ H' v t G → (∀ a, F' a → G a → False) → (∀ a, G a → H' a ≠ none) → Upd H H' (FU F Gv) (FU F' G) → Q v H')
    (hx : ∀ c, r = .ex c → ∀ H' F', RepS Γ ar H' σ S' F' → Upd H H' (FU F Gv) F' → E (.ref (Γ.cl c)) none H') : spT Γ n m vs H Q E := by
  unfold callR at e
  by_cases hn : as.length = n
  · rw [if_pos hn] at e
    cases e1 : argTrees S as with
    | none => rw [e1] at e; cases e
    | some ts =>
      rw [e1] at e
      simp only [Option.bind_some] at e
      cases e2 : m ts with
      | none => rw [e2] at e; cases e
      | some rt =>
        obtain ⟨r0, ts'⟩ := rt
        rw [e2] at e
        simp only [Option.bind_some] at e
        by_cases hlen : ts'.length = n
        · rw [if_pos hlen] at e
          have e3 : (r0, putBack S as ts') = (r, S') := Option.some.inj e
          obtain ⟨Fa, RA, sA, fin⟩ := call_core R A d alv e1
          refine ⟨ts, Fa, r0, ts', A.len.trans hn, RA, e2, ?_⟩
          cases r0 with
          | ok t =>
            cases e3
            intro v H' F' G R' rv dG alG u
            obtain ⟨F'', Fs', R'', d'', u'', _⟩ := fin (hlen.trans hn.symm) R' dG u
            exact hk t rfl v H' F'' G R'' rv d'' alG (u''.sub fun a z => .inl z)
          | ex c =>
            cases e3
            intro H' F' R' u
            obtain ⟨F'', Fs', R'', d'', u'', _⟩ := fin (G := FE) (hlen.trans hn.symm) R' (fun _ _ z => z) (u.sub fun a z => z.elim id fun z => z.elim)
            exact hx c rfl H' F'' R'' (u''.sub fun a z => .inl (.inl z))
        · rw [if_neg hlen] at e; cases e
  · rw [if_neg hn] at e; cases e
def eCall (m : MF) (n : Nat) (fs : AF) : EF := fun S => (fs S).bind fun rx => match rx with
  | (.ex c, S1) => some (.ex c, S1)
  | (.ok as, S1) => callR m n S1 as
theorem tCall_ok {m : MF} {n : Nat} {fs : AF} {σ : St} {H : Hp} {Q : VK} (q : rdE Γ ar W (eCall m n fs) σ H Q) :
    rdA Γ ar W fs σ H fun vs H1 => spT Γ n m vs H1 Q (WE W σ) := by
  obtain ⟨S, F, r, S', R, e, k⟩ := q
  unfold eCall at e
  cases e1 : fs S with
  | none => rw [e1] at e; cases e
  | some o =>
    obtain ⟨r1, S1⟩ := o
    rw [e1] at e
    simp only [Option.bind_some] at e
    cases r1 with
    | ex c => cases e; exact ⟨S, F, _, _, R, e1, k⟩
    | ok as =>
      simp only at e
      refine ⟨S, F, _, _, R, e1, fun vs H1 F1 G1 R1 A1 d1 al1 u1 => ?_⟩
      refine call_ok R1 A1 d1 al1 e (fun t et v H' F' G R' rv d al u => ?_) fun c ec H' F' R' u => ?_
      · subst et
        exact k v H' F' G ⟨R', rv, d, al, u1.trans u⟩
      · subst ec
        exact k H' F' R' (u1.trans u)
structure DefOk (P : Program) (w : World) (Γ : Gx) (mg : Str → Option Value) (base : Heap) (k : Nat) (x : Str) (n : Nat) (m : MF) : Prop where
  ex : ∃ f fd ps, FnOk P w Γ.K mg base (L2N.CX P w) k f fd ps (spT Γ n m) ∧ mg x = some (.ref f) ∧ PySem.W.keepIn Γ.K (.ref f) = true ∧ Binds Γ.K fd ps []
theorem e_call {k n : Nat} {x : Str} {m : MF} {es : List Expr} {fs : AF} (D : DefOk X.prog X.w Γ X.mg X.base k x n m) (hr : Room k X.A) (tk : L2N.Takes X W) (ha : PA X (e :: es) (rdA Γ ar W fs)) (hK : X.K = Γ.K := by rfl) (hg : Gl X x := by rfl) (hdb : (x == ("__debug__" : Str)) = false := by decide)
    (he : starEach (e :: es) X.env = (false, eval e X.env) :: starEach es X.env := by rfl) (hpl : (backTo pos (starEach es X.env)).any (·.1) = false := by rfl) : PE X (.Call (.Name x p) (e :: es) [] pos) (rdE Γ ar W (eCall m n fs)) := by
  obtain ⟨f, fd, ps, F, hm, hk, hb⟩ := D.ex
  rw [← hK] at F hk hb
  exact PE.imp (pe_callS F hr hg hm hk hb (fun σ => L2N.passAt tk σ) ha hdb he hpl) fun σ H Q q => tCall_ok q
end
end VT
namespace VT
open PySem L2
section
variable {Γ : Gx} {ar : Fx} {W : WX} {X : Cx} {a b e o : Expr} {pos p apos : Pos} {ga gb : BF} {fa fb : EF} {es : List Expr}
/-- an instance stands there -/
theorem Rep.ins {H : Hp} {x : V} {c : Nat} {ns : List Str} {ts : List T} {G : FP} (h : Rep Γ H x (.nd (.obj c ns) ts) G) : ∃ a dx vs, x = .ref a ∧ H a = some (.ins (Γ.cl c) dx (ns.zip vs)) ∧ ns.length = vs.length := by
  cases h with
  | nd hat hl hm hc hd hs =>
    obtain ⟨l, dx, e⟩ := hat
    exact ⟨_, dx, _, rfl, e, l⟩
def sSeq (s u : SF) : SF := fun S => (s S).bind fun rx => match rx with
  | (.nx, S1) => u S1
  | (fl, S1) => some (fl, S1)
theorem rdS_after {σ : St} {H H1 : Hp} {F F1 : FP} {S1 : TSt} {u : SF} {fl : Fl} {S' : TSt} {D : Ends} (R1 : RepS Γ ar H1 σ S1 F1) (up : Upd H H1 F F1) (e : u S1 = some (fl, S')) (k : FlP Γ ar W D H F fl S') : rdS Γ ar W u D σ H1 := by
  refine ⟨S1, F1, fl, S', R1, e, ?_⟩
  cases fl with
  | nx => exact fun σ' H' F' R' u' => k σ' H' F' R' (up.trans u')
  | bk => exact fun σ' H' F' R' u' => k σ' H' F' R' (up.trans u')
  | ct => exact fun σ' H' F' R' u' => k σ' H' F' R' (up.trans u')
  | ex c => exact fun σ' H' F' R' u' => k σ' H' F' R' (up.trans u')
  | rt t => exact fun v σ' H' F' G o => k v σ' H' F' G ⟨o.rs, o.r, o.d, o.al, up.trans o.u⟩
variable {st : Stmt} {rest : List Stmt} {s u : SF}
theorem seq_ok {D : Ends} {σ : St} {H : Hp} (q : rdS Γ ar W (sSeq s u) D σ H) : rdS Γ ar W s { D with nx := rdS Γ ar W u D } σ H := by
  obtain ⟨S, F, fl, S', R, e, k⟩ := q
  unfold sSeq at e
  cases e1 : s S with
  | none => rw [e1] at e; cases e
  | some o =>
    obtain ⟨fl1, S1⟩ := o
    rw [e1] at e
    simp only [Option.bind_some] at e
    refine ⟨S, F, fl1, S1, R, e1, ?_⟩
    cases fl1 with
    | nx => exact fun σ' H' F' R' u' => rdS_after R' u' e k
    | bk => cases e; exact k
    | ct => cases e; exact k
    | ex c => cases e; exact k
    | rt t => cases e; exact k
theorem ss_cons (h1 : PS X st (rdS Γ ar W s)) (h2 : PSs X rest (rdS Γ ar W u)) : PSs X (st :: rest) (rdS Γ ar W (sSeq s u)) := PSs.imp (pss_cons h1 h2) fun D σ H q => seq_ok q
theorem ss_one (h1 : PS X st (rdS Γ ar W s)) : PSs X [st] (rdS Γ ar W s) := PSs.imp (pss_one h1) fun D σ H q => q
def sNil : SF := fun S => some (.nx, S)
theorem nil_ok {D : Ends} {σ : St} {H : Hp} (q : rdS Γ ar W sNil D σ H) : D.nx σ H := by
  obtain ⟨S, F, fl, S', R, e, k⟩ := q
  cases e
  exact k σ H F R (Upd.refl H F)
theorem ss_nil : PSs X [] (rdS Γ ar W sNil) := PSs.imp pss_nil fun D σ H q => nil_ok q
def sRet (f : EF) : SF := fun S => (f S).bind fun rx => match rx with
  | (.ex c, S1) => some (.ex c, S1)
  | (.ok t, S1) => some (.rt t, S1)
theorem s_ret (he : PE X e (rdE Γ ar W fa)) : PS X (.Return (some e) pos) (rdS Γ ar W (sRet fa)) := PS.imp (ps_ret he) fun D σ H q => by
  obtain ⟨S, F, fl, S', R, e, k⟩ := q
  unfold sRet at e
  cases e1 : fa S with
  | none => rw [e1] at e; cases e
  | some o =>
    obtain ⟨r1, S1⟩ := o
    rw [e1] at e
    simp only [Option.bind_some] at e
    cases r1 with
    | ex c => cases e; exact ⟨S, F, _, _, R, e1, fun H' F' R' u => k σ H' F' R' u⟩
    | ok t => cases e; exact ⟨S, F, _, _, R, e1, fun v H' F' G o => k v σ H' F' G o⟩
def sSet (i : Nat) (f : EF) : SF := fun S => (f S).bind fun rx => match rx with
  | (.ex c, S1) => some (.ex c, S1)
  | (.ok t, S1) => some (.nx, S1.set i (some t))
theorem own_set {H H' : Hp} {F F' G : FP} {σ : St} {S' : TSt} {v : V} {t : T} {i : Nat} (hi : ar i = none) (o : Own Γ ar H F σ S' v t H' F' G) : RepS Γ ar H' (σ.set i (some v)) (S'.set i (some t)) (FU F' G) := o.rs.put hi o.r o.d o.al
theorem set_ok {i : Nat} (hi : ar i = none) {D : Ends} {σ : St} {H : Hp} (q : rdS Γ ar W (sSet i fa) D σ H) : rdE Γ ar W fa σ H fun v H1 => D.nx (σ.set i (some v)) H1 := by
  obtain ⟨S, F, fl, S', R, e, k⟩ := q
  unfold sSet at e
  cases e1 : fa S with
  | none => rw [e1] at e; cases e
  | some o =>
    obtain ⟨r1, S1⟩ := o
    rw [e1] at e
    simp only [Option.bind_some] at e
    cases r1 with
    | ex c => cases e; exact ⟨S, F, _, _, R, e1, fun H' F' R' u => k σ H' F' R' u⟩
    | ok t => cases e; exact ⟨S, F, _, _, R, e1, fun v H' F' G o => k _ H' _ (own_set hi o) o.u⟩
theorem s_set (i : Nat) {x : Str} {pos' : Pos} (hi' : ar i = none) (hN : X.N.Nodup) (he : PE X e (rdE Γ ar W fa)) (hi : X.N[i]? = some x := by rfl) (hx : Loc X.env.scope x := by first | exact Or.inl rfl | exact Or.inr rfl) (hs : swapsWith e (some (.Name x pos')) pos.line X.env = pure false := by rfl)
    (hf : X.fn x = true ∨ X.env.scope.names.lookup x = some .local := by first | exact .inl rfl | exact .inr rfl) : PS X (.Assign [.Name x pos'] e pos) (rdS Γ ar W (sSet i fa)) := PS.imp (ps_set hN hi hx he hs hf) fun D σ H q => set_ok hi' q
def sIf (f : EF) (s u : SF) : SF := fun S => (f S).bind fun rx => match rx with
  | (.ex c, S1) => some (.ex c, S1)
  | (.ok (.bl true), S1) => s S1
  | (.ok (.bl false), S1) => u S1
  | _ => none
theorem s_if {c : Expr} {sa sb : List Stmt} (hc : PT X c (rdT Γ ar W fa)) (ha : PSs X sa (rdS Γ ar W s)) (hb : PSs X sb (rdS Γ ar W u)) : PS X (.If c sa sb pos) (rdS Γ ar W (sIf fa s u)) := PS.imp (ps_if hc ha hb) fun D σ H q => by
  obtain ⟨S, F, fl, S', R, e, k⟩ := q
  unfold sIf at e
  cases e1 : fa S with
  | none => rw [e1] at e; cases e
  | some o =>
    rw [e1] at e
    simp only [Option.bind_some] at e
    split at e
    · cases e
      exact ⟨S, F, _, _, R, e1, fun H' F' R' u => k σ H' F' R' u⟩
    · exact bool_then R e1 fun H1 F1 R1 u1 => iteT (rdS_after R1 u1 e k)
    · exact bool_then R e1 fun H1 F1 R1 u1 => iteF (rdS_after R1 u1 e k)
    · cases e
def sRaise (c : Nat) : SF := fun S => some (.ex c, S)
theorem s_raise {c : Nat} {ee : Expr} (hc : X.calm = true) (tk : L2N.Takes X W) (hm : L2N.PMk X ee (fun _ H Q => Q (.ref (Γ.cl c)) none H)) : PS X (.Raise (some ee) none pos) (rdS Γ ar W (sRaise c)) := PS.imp (L2N.ps_raise hc tk hm) fun D σ H q => by
  obtain ⟨S, F, fl, S', R, e, k⟩ := q
  cases e
  exact k σ H F R (Upd.refl H F)
def allSome : List (Option T) → Option (List T)
  | [] => some []
  | none :: _ => none
  | some t :: l => (allSome l).bind fun ts => some (t :: ts)
theorem allSome_get : ∀ {l : List (Option T)} {ts : List T}, allSome l = some ts → l = ts.map some
  | [], ts, e => by cases e; rfl
  | none :: _, _, e => by cases e
  | some t :: l, ts, e => by
    unfold allSome at e
    cases e1 : allSome l with
    | none => rw [e1] at e; cases e
    | some us =>
      rw [e1] at e
      cases e
      rw [allSome_get e1]
      try rfl
def mBody (n N : Nat) (s : SF) : MF := fun ts => if ts.length = n then (s (ts.map some ++ List.replicate (N - n) none)).bind fun rx => (allSome (rx.2.take n)).bind fun ts' => match rx.1 with
  | .nx => some (.ok .non, ts')
  | .rt t => some (.ok t, ts')
  | .ex c => some (.ex c, ts')
  | _ => none else none
theorem repA_of {vs : List V} {H : Hp} {σ : St} {S : TSt} {F : FP} {ts : List T} (R : RepS Γ (fun i => vs[i]?) H σ S F) (e : allSome (S.take vs.length) = some ts) : RepA Γ H vs ts F := by
  obtain ⟨len, arg, ⟨Fs, h1, h2, h3⟩, al⟩ := R
  have e' := allSome_get e
  have hlen : vs.length ≤ σ.length := by
    by_cases h0 : vs.length = 0
    · omega
    · have q := arg (vs.length - 1) (vs[vs.length - 1]'(by omega)) (List.getElem?_eq_getElem (by omega))
      have := (List.getElem?_eq_some_iff.mp q).1
      omega
  have l2 : ts.length = vs.length := by
    have q := congrArg List.length e'
    rw [List.length_map, List.length_take, len] at q
    omega
  refine ⟨by rw [List.length_map, List.length_map, l2], fun i v q => by rw [List.getElem?_map, q]; rfl, ⟨Fs, fun i t q => ?_, h2, h3⟩, al⟩
  have hi : i < vs.length := by
    rw [List.getElem?_map] at q
    cases q2 : ts[i]? with
    | none => rw [q2] at q; cases q
    | some t2 => rw [← l2]; exact (List.getElem?_eq_some_iff.mp q2).1
  have q3 : S[i]? = some (some t) := by
    rw [← e', List.getElem?_take, if_pos hi] at q
    exact q
  obtain ⟨v, ev, r⟩ := h1 i t q3
  have q4 := arg i vs[i] (List.getElem?_eq_getElem hi)
  rw [ev] at q4
  have q5 : v = vs[i] := Option.some.inj (Option.some.inj q4)
  exact ⟨v, by rw [List.getElem?_map, List.getElem?_eq_getElem hi, q5]; rfl, r⟩
theorem repS_start {vs : List V} {H : Hp} {ts : List T} {F : FP} (R : RepA Γ H vs ts F) (N : List Str) : RepS Γ (fun i => vs[i]?) H (L2.start N vs) (ts.map some ++ List.replicate (N.length - vs.length) none) F := by
  obtain ⟨len, arg, ⟨Fs, h1, h2, h3⟩, al⟩ := R
  have l2 : ts.length = vs.length := by simpa using len
  refine ⟨by unfold L2.start; simp [l2], fun i v q => ?_, ⟨Fs, fun i t q => ?_, h2, h3⟩, al⟩
  · have hi : i < vs.length := (List.getElem?_eq_some_iff.mp q).1
    unfold L2.start
    rw [List.getElem?_append_left (by rw [List.length_map]; exact hi), List.getElem?_map, q]
    try rfl
  · by_cases hi : i < ts.length
    · rw [List.getElem?_append_left (by rw [List.length_map]; exact hi)] at q
      obtain ⟨v, ev, r⟩ := h1 i t q
      refine ⟨v, ?_, r⟩
      unfold L2.start
      rw [List.getElem?_append_left (by rw [List.length_map, ← l2]; exact hi)]
      exact ev
    · rw [List.getElem?_append_right (by rw [List.length_map]; omega)] at q
      have q2 := List.eq_of_mem_replicate (List.mem_of_getElem? q)
      cases q2
theorem fn_okT {P : Program} {w : World} {mg : Str → Option Value} {base : Heap} {x qual : Str} {f : Addr} {fd : FuncData} {N ps : List Str} {k : Nat} {body : SF} (F : Fun Γ.K x qual st f fd) (S : FnScope N ps (defScope st))
    (hbody : ∀ (cdv : Value) (A : Around) (outer : List Env) (s : Shared) (H : Hp) (E : XK) (ar : Fx), Room k (A.deeper (PyProof.Rows.envOfC qual (defScope st) s.heap.objs.size f cdv)) → (∀ i, ps.length ≤ i → ar i = none) →
      PSs (cxOf (L2N.CX P w) P w Γ.K mg base N qual (defScope st) f cdv A outer s H E) (defBody st) (rdS Γ ar (fun cls d _ H => E cls d H) body)) : FnOk P w Γ.K mg base (L2N.CX P w) (k + 1) f fd ps (spT Γ ps.length (mBody ps.length N.length body)) := by
  obtain ⟨xc, xd, xk, dc, pq, na, cdv, tc, zs, rfl, lk, hcd⟩ := F.ex
  refine fn_of (CX := L2N.CX P w) lk hcd S (fun vs H Q E h => ?_) (fun A outer s H vs Q E hr h => ?_)
  · obtain ⟨ts, F, r, ts', hl, _⟩ := h
    exact hl
  · obtain ⟨ts, F, r, ts', hl, RA, e, kk⟩ := h
    refine ⟨_, hbody cdv A outer s H E (fun i => vs[i]?) hr fun i hi => List.getElem?_eq_none (by omega), ?_⟩
    unfold mBody at e
    have l2 : ts.length = ps.length := by rw [← hl]; exact (repA_get RA).1.symm
    rw [if_pos l2] at e
    have R0 := repS_start RA N
    rw [hl] at R0
    cases e1 : body (ts.map some ++ List.replicate (N.length - ps.length) none) with
    | none => rw [e1] at e; cases e
    | some rx =>
      obtain ⟨fl, S'⟩ := rx
      rw [e1] at e
      simp only [Option.bind_some] at e
      cases e2 : allSome (S'.take ps.length) with
      | none => rw [e2] at e; cases e
      | some ts2 =>
        rw [e2] at e
        simp only [Option.bind_some] at e
        refine ⟨_, F, fl, S', R0, e1, ?_⟩
        rw [← hl] at e2
        cases fl with
        | nx =>
          cases e
          exact fun σ' H' F' R' u => kk .non H' F' FE (repA_of R' e2) .non (fun _ _ z => z) (fun _ z => z.elim) (u.sub fun a z => z.elim id fun z => z.elim)
        | rt t =>
          cases e
          exact fun v σ' H' F' G o => kk v H' F' G (repA_of o.rs e2) o.r o.d o.al o.u
        | ex c =>
          cases e
          exact fun σ' H' F' R' u => kk H' F' (repA_of R' e2) u
        | bk => cases e
        | ct => cases e
end
end VT
namespace VT
open PySem L2
section
variable {Γ : Gx} {ar : Fx} {W : WX} {X : Cx} {a b e o : Expr} {pos p apos : Pos} {ga gb g : BF} {fa fb : EF} {es : List Expr} {pl : PF}
theorem tAt_app : ∀ (p : List Nat) {t : T} {j : Nat}, tAt (p ++ [j]) t = (tAt p t).bind fun u => tAt [j] u
  | [], t, j => rfl
  | i :: p, .nd k ts, j => by
    show (if k.mu = true then ts[i]?.bind fun t => tAt (p ++ [j]) t else none) = (if k.mu = true then ts[i]?.bind fun t => tAt p t else none).bind _
    by_cases h : k.mu = true
    · rw [if_pos h, if_pos h]
      cases ts[i]? with
      | none => rfl
      | some u => exact tAt_app p
    · rw [if_neg h, if_neg h]; rfl
  | _ :: _, .non, _ => rfl
  | _ :: _, .bl _, _ => rfl
  | _ :: _, .int _, _ => rfl
  | _ :: _, .str _, _ => rfl
theorem vAt_app {H : Hp} : ∀ (p : List Nat) {v : V} {j : Nat}, vAt H (p ++ [j]) v = (vAt H p v).bind fun u => vAt H [j] u
  | [], v, j => rfl
  | i :: p, .ref a, j => by
    show (H a).bind _ = ((H a).bind _).bind _
    cases H a with
    | none => rfl
    | some o =>
      show (VT.kids o)[i]?.bind _ = ((VT.kids o)[i]?.bind _).bind _
      cases (VT.kids o)[i]? with
      | none => rfl
      | some u => exact vAt_app p
  | _ :: _, .non, _ => rfl
  | _ :: _, .bl _, _ => rfl
  | _ :: _, .int _, _ => rfl
  | _ :: _, .str _, _ => rfl
  | _ :: _, .byt _, _ => rfl
  | _ :: _, .flt _, _ => rfl
  | _ :: _, .ty _, _ => rfl
/-- the value at a place stands for the tree there -/
theorem RepS.place {H : Hp} {σ : St} {S : TSt} {F : FP} {i : Nat} {p : List Nat} {t u : T} (R : RepS Γ ar H σ S F) (e0 : sl S i = some t) (e1 : tAt p t = some u) : ∃ v0 v G, σ[i]? = some (some v0) ∧ vAt H p v0 = some v ∧ Rep Γ H v u G := by
  obtain ⟨v0, ev, rv⟩ := R.slot (sl_some.mp e0)
  obtain ⟨v1, G, b1, b2, _, _⟩ := VT.focus p rv e1
  exact ⟨v0, v1, G, ev, b1, b2⟩
/-- a step down from a place -/
theorem step_down {H : Hp} {σ : St} {S : TSt} {F : FP} {i j : Nat} {p : List Nat} {t u w : T} {k : Kd} {ts : List T} {Q : VK} (R : RepS Γ ar H σ S F) (e0 : sl S i = some t) (e1 : tAt (p ++ [j]) t = some w) (ek : tAt p t = some (.nd k ts))
    (kk : ∀ v0 v H', σ[i]? = some (some v0) → vAt H (p ++ [j]) v0 = some v → Same H H' → Q v H') (v0 v : V) (h1 : σ[i]? = some (some v0)) (h2 : vAt H p v0 = some v) :
    ∃ a vs vj, v = .ref a ∧ At Γ H k a vs ∧ vs.length = ts.length ∧ vs[j]? = some vj ∧ ∀ H', Same H H' → Q vj H' := by
  obtain ⟨v0', v1, G, ev, b1, b2⟩ := R.place e0 ek
  have q1 : v0 = v0' := Option.some.inj (Option.some.inj (h1.symm.trans ev))
  subst q1
  have q2 : v = v1 := Option.some.inj (h2.symm.trans b1)
  subst q2
  rw [tAt_app, ek] at e1
  simp only [Option.bind_some, tAt] at e1
  by_cases mu : k.mu = true
  · rw [if_pos mu] at e1
    cases e2 : ts[j]? with
    | none => rw [e2] at e1; cases e1
    | some w' =>
      cases b2 with
      | @nd _ _ a vs _ Fs hat hl hm hc hd hs =>
        have hj : j < ts.length := (List.getElem?_eq_some_iff.mp e2).1
        have ej : vs[j]? = some (vs[j]'(by omega)) := List.getElem?_eq_getElem (by omega)
        refine ⟨a, vs, _, rfl, hat, hl, ej, fun H' s => kk v0 _ H' h1 ?_ s⟩
        rw [vAt_app, h2]
        obtain ⟨ob, ho, hko⟩ := hat.kids mu
        show (H a).bind _ = _
        rw [ho]
        show (VT.kids ob)[j]?.bind _ = _
        rw [hko, ej]
        try rfl
  · rw [if_neg mu] at e1; cases e1
abbrev MuF := T → List T → Option (T × T)
def MutT (Γ : Gx) (r : V → List V → Hp → VK → Prop) (m : MuF) : Prop := ∀ (H : Hp) (x : V) (u : T) (us : List T) (u' res : T) (G Gx : FP) (Gs : Nat → FP) (vs : List V) (Q : VK), Rep Γ H x u G → vs.length = us.length →
  (∀ (j : Nat) (v : V) (t : T), vs[j]? = some v → us[j]? = some t → Rep Γ H v t (Gs j)) → (∀ i j a, i ≠ j → Gs i a → Gs j a → False) → (∀ j a, Gs j a → Gx a) → (∀ a, G a → Gx a → False) → m u us = some (u', res) →
  (∀ v H' G' Gr, Ke H H' G → (∀ a, G' a ∨ Gr a → G a ∨ Gx a) → (∀ a, G' a → Gr a → False) → (∀ a, H a ≠ none → H' a ≠ none) → Rep Γ H' x u' G' → Rep Γ H' v res Gr → Q v H') → r x vs H Q
theorem mut_core {r : V → List V → Hp → VK → Prop} {m : MuF} (hm : MutT Γ r m) {H : Hp} {σ : St} {S : TSt} {F Gx : FP} {vs : List V} {as : List Arg} {us : List T} {i : Nat} {p : List Nat} {t0 u u' res : T} {v0 v : V} {Q : VK} (R : RepS Γ ar H σ S F) (A : ArgsP Γ H σ vs as Gx) (ev : valsOf as = some us)
    (d : ∀ a, F a → Gx a → False) (al : ∀ a, Gx a → H a ≠ none) (e0 : sl S i = some t0) (e1 : tAt p t0 = some u) (e2 : m u us = some (u', res)) (h0 : σ[i]? = some (some v0)) (h1 : vAt H p v0 = some v)
    (k : ∀ w H' F' G, RepS Γ ar H' σ (S.set i (some (tPut p t0 u'))) F' → Rep Γ H' w res G → (∀ a, F' a → G a → False) → (∀ a, G a → H' a ≠ none) → Upd H H' (FU F Gx) (FU F' G) → Q w H') : r v vs H Q := by
  obtain ⟨w0, F1, Gi, ev0, rv, R1, d1, s1, s2⟩ := R.take (sl_some.mp e0)
  have q1 : v0 = w0 := Option.some.inj (Option.some.inj (h0.symm.trans ev0))
  subst q1
  obtain ⟨v1, G, b1, b2, b3, back⟩ := VT.focus p rv e1
  have q2 : v = v1 := Option.some.inj (h1.symm.trans b1)
  subst q2
  obtain ⟨len, Gs, g1, g3, g4⟩ := A.vals ev
  refine hm H v u us u' res G Gx Gs vs Q b2 len g1 g3 g4 (fun a g x => d a (s2 a (b3 a g)) x) e2 fun w H' G' Gr ke sub dj alk r1 r2 => ?_
  have nG : ∀ a, Gx a → ¬ F a := fun a x f => d a f x
  have rb := back H' u' G' ke.kin (fun a z => (sub a (.inl z)).elim .inl fun z => .inr fun f => nG a z (s2 a f)) r1
  have dd : ∀ a, F1 a → (Gi a ∧ ¬ G a) ∨ G' a → False := fun a f z => z.elim (fun z => d1 a f z.1) fun z => (sub a (.inl z)).elim (fun z => d1 a f (b3 a z)) fun z => nG a z (s1 a f)
  have alG : ∀ a, (Gi a ∧ ¬ G a) ∨ G' a → H' a ≠ none := fun a z => alk a (z.elim (fun z => R.al a (s2 a z.1)) fun z => (sub a (.inl z)).elim (fun z => R.al a (s2 a (b3 a z))) (al a))
  have Rg := (R1.ke ke fun a f g => d1 a f (b3 a g)).give ev0 rb dd alG
  rw [List.set_set] at Rg
  refine k w H' _ Gr Rg r2 (fun a f g => ?_) (fun a g => alk a ((sub a (.inr g)).elim (fun z => R.al a (s2 a (b3 a z))) (al a))) ⟨⟨fun b o q n => ke.keep b o q fun z => n (.inl (s2 b (b3 b z))), ke.imm⟩, fun a z => ?_⟩
  · have g' := sub a (.inr g)
    rcases f with f | f | f
    · exact g'.elim (fun z => d1 a f (b3 a z)) fun z => nG a z (s1 a f)
    · exact g'.elim f.2 fun z => nG a z (s2 a f.1)
    · exact dj a f g
  · have aux : G' a ∨ Gr a → FU F Gx a ∨ H a = none := fun z => (sub a z).elim (fun z => .inl (.inl (s2 a (b3 a z)))) fun z => .inl (.inr z)
    rcases z with (z | z | z) | z
    · exact .inl (.inl (s1 a z))
    · exact .inl (.inl (s2 a z.1))
    · exact aux (.inl z)
    · exact aux (.inr z)
/-- a node is written -/
theorem node_upd {H : Hp} {a : Addr} {o' ob : HO} {k' : Kd} {vs' : List V} {ts' : List T} {Fs' : Nat → FP} (ha : H a = some ob) (nim : ¬ Im ob) (hat' : At Γ (upd H a o') k' a vs') (hl : vs'.length = ts'.length)
    (kd : ∀ (j : Nat) (v : V) (t : T), vs'[j]? = some v → ts'[j]? = some t → Rep Γ H v t (Fs' j)) (hd : ∀ i j a, i ≠ j → Fs' i a → Fs' j a → False) (na : ∀ j, ¬ Fs' j a) : Rep Γ (upd H a o') (.ref a) (.nd k' ts') (fun x => x = a ∨ ∃ j, Fs' j x) := by
  refine .nd (Fs := Fs') hat' hl (fun _ => ⟨.inl rfl, na⟩) (fun j v t e1 e2 => (kd j v t e1 e2).frame (fun b u f q => ?_) fun b u im q => ?_) hd fun j x z => .inr ⟨j, z⟩
  · have nb : b ≠ a := fun z => na j (by rw [← z]; exact f)
    rw [upd_ne nb]; exact q
  · have nb : b ≠ a := fun z => by rw [z, ha] at q; cases q; exact nim im
    rw [upd_ne nb]; exact q
theorem ke_upd {H : Hp} {a : Addr} {o' ob : HO} {G : FP} (ha : H a = some ob) (nim : ¬ Im ob) (g : G a) : Ke H (upd H a o') G :=
  ⟨fun b u q n => by
    have nb : b ≠ a := fun z => n (by rw [z]; exact g)
    rw [upd_ne nb]; exact q, fun b u im q => by
    have nb : b ≠ a := fun z => by rw [z, ha] at q; cases q; exact nim im
    rw [upd_ne nb]; exact q⟩
theorem al_upd {H : Hp} {a : Addr} {o' : HO} (b : Addr) (h : H b ≠ none) : upd H a o' b ≠ none := by
  by_cases e : b = a
  · rw [e, upd_same]; exact fun z => nomatch z
  · rw [upd_ne e]; exact h
end
end VT
namespace VT
open PySem L2
section
variable {Γ : Gx} {ar : Fx} {W : WX} {X : Cx} {a b e o : Expr} {pos p apos cpos : Pos} {ga gb g : BF} {fa fb : EF} {es : List Expr} {pl : PF}
/-- one child is another one now -/
theorem set_kids {H : Hp} {ws : List V} {ts : List T} {Fs : Nat → FP} {G1 : FP} {j : Nat} {y : V} {t : T} (hc : ∀ (i : Nat) (v : V) (t : T), ws[i]? = some v → ts[i]? = some t → Rep Γ H v t (Fs i)) (ry : Rep Γ H y t G1) (hj : j < ts.length) (hlw : ws.length = ts.length) :
    ∀ (i : Nat) (v : V) (t' : T), (ws.set j y)[i]? = some v → (ts.set j t)[i]? = some t' → Rep Γ H v t' ((fun m => if m = j then G1 else Fs m) i) := fun i v t' q1 q2 => by
  by_cases c : i = j
  · subst c
    simp only [if_true]
    rw [List.getElem?_set_self (by omega)] at q1 q2
    cases q1
    cases q2
    exact ry
  · simp only [if_neg c]
    rw [List.getElem?_set_ne (Ne.symm c)] at q1 q2
    exact hc i v t' q1 q2
theorem set_dj {Fs : Nat → FP} {G G1 : FP} {j : Nat} (hdd : ∀ i j a, i ≠ j → Fs i a → Fs j a → False) (hss : ∀ i a, Fs i a → G a) (dj : ∀ a, G a → G1 a → False) : ∀ i k a, i ≠ k → (fun m => if m = j then G1 else Fs m) i a → (fun m => if m = j then G1 else Fs m) k a → False := fun i k a ne z z' => by
  by_cases c : i = j
  · simp only [if_pos c] at z
    simp only [if_neg (fun q => ne (c.trans q.symm) : ¬ k = j)] at z'
    exact dj a (hss k a z') z
  · simp only [if_neg c] at z
    by_cases c' : k = j
    · simp only [if_pos c'] at z'
      exact dj a (hss i a z) z'
    · simp only [if_neg c'] at z'
      exact hdd i k a ne z z'
end
end VT
namespace VT
open PySem L2
section
variable {Γ : Gx} {ar : Fx} {W : WX} {X : Cx} {a b e o : Expr} {pos p apos cpos : Pos} {ga gb g : BF} {fa fb : EF} {es : List Expr} {pl : PF}
abbrev GF := T → TSt → Option TSt
def TgOk (Γ : Gx) (ar : Fx) (g : TG) (tf : GF) : Prop := ∀ (H : Hp) (σ : St) (S : TSt) (F G : FP) (v : V) (t : T) (S1 : TSt) (Q : St → Hp → Prop), RepS Γ ar H σ S F → Rep Γ H v t G → tf t S = some S1 → (∀ σ1, RepS Γ ar H σ1 S1 F → Q σ1 H) → g v σ H Q
def tgN (i : Nat) : GF := fun t S => if t.im = true then some (S.set i (some t)) else none
theorem RepS.putIm {H : Hp} {σ : St} {S : TSt} {F G : FP} {i : Nat} {v : V} {t : T} (h : RepS Γ ar H σ S F) (hi : ar i = none) (r : Rep Γ H v t G) (im : t.im = true) : RepS Γ ar H (σ.set i (some v)) (S.set i (some t)) F :=
  (h.put hi (r.im im FE) (fun _ _ z => z) fun _ z => z.elim).mono (fun a z => z.elim id fun z => z.elim) h.al
theorem tgN_ok {i : Nat} (hi : ar i = none) : TgOk Γ ar (gName i) (tgN i) := by
  intro H σ S F G v t S1 Q R r e k
  unfold tgN at e
  by_cases im : t.im = true
  · rw [if_pos im] at e
    cases e
    exact k _ (R.putIm hi r im)
  · rw [if_neg im] at e; cases e
def runL (tf : GF) (body : SF) : List T → SF
  | [] => fun S => some (.nx, S)
  | t :: ts => fun S => (tf t S).bind fun S1 => (body S1).bind fun rx => match rx with
    | (.nx, S2) => runL tf body ts S2
    | (.ct, S2) => runL tf body ts S2
    | (.bk, S2) => some (.nx, S2)
    | (fl, S2) => some (fl, S2)
theorem loop_step {body : SF} {tf : GF} {g : TG} (tk : TgOk Γ ar g tf) {D : Ends} {H : Hp} {σ : St} {S : TSt} {F G : FP} {v : V} {t : T} {ts : List T} {fl : Fl} {SN : TSt} (R : RepS Γ ar H σ S F) (r : Rep Γ H v t G) (ee : runL tf body (t :: ts) S = some (fl, SN))
    (P : St → Hp → Prop) (hP : ∀ σ' H' S' F', RepS Γ ar H' σ' S' F' → Upd H H' F F' → runL tf body ts S' = some (fl, SN) → P σ' H') (k : FlP Γ ar W D H F fl SN) {tb : TS} (hb : ∀ D σ H, rdS Γ ar W body D σ H → tb D σ H) : g v σ H fun σ2 H2 => tb { D with nx := P, ct := P, bk := D.nx } σ2 H2 := by
  unfold runL at ee
  cases e1 : tf t S with
  | none => rw [e1] at ee; cases ee
  | some S1 =>
    rw [e1] at ee
    simp only [Option.bind_some] at ee
    cases e2 : body S1 with
    | none => rw [e2] at ee; cases ee
    | some rx =>
      obtain ⟨fl1, S2⟩ := rx
      rw [e2] at ee
      simp only [Option.bind_some] at ee
      refine tk H σ S F G v t S1 _ R r e1 fun σ1 R1 => hb _ _ _ ⟨S1, F, fl1, S2, R1, e2, ?_⟩
      cases fl1 with
      | nx => exact fun σ' H' F' R' u => hP σ' H' S2 F' R' u ee
      | ct => exact fun σ' H' F' R' u => hP σ' H' S2 F' R' u ee
      | bk => cases ee; exact k
      | rt t => cases ee; exact k
      | ex c => cases ee; exact k
theorem flp_after {D : Ends} {H H1 : Hp} {F F1 : FP} {fl : Fl} {SN : TSt} (u : Upd H H1 F F1) (k : FlP Γ ar W D H F fl SN) : FlP Γ ar W D H1 F1 fl SN := by
  cases fl with
  | nx => exact fun σ' H' F' R' u' => k σ' H' F' R' (u.trans u')
  | bk => exact fun σ' H' F' R' u' => k σ' H' F' R' (u.trans u')
  | ct => exact fun σ' H' F' R' u' => k σ' H' F' R' (u.trans u')
  | ex c => exact fun σ' H' F' R' u' => k σ' H' F' R' (u.trans u')
  | rt t => exact fun v σ' H' F' G o => k v σ' H' F' G ⟨o.rs, o.r, o.d, o.al, u.trans o.u⟩
def LoopR (g : TG) (tb : TS) (D : Ends) (σ : St) : It → Hp → Prop := fun J H1 => ∃ Wv : Nat → Nat → St → Hp → Prop, (∃ m, Wv 0 m σ H1) ∧ ∀ i m σ H, Wv i m σ H →
  (J.stop i H ∧ D.nx σ H) ∨ (J.go i H ∧ ∃ N : St → Hp → Prop, (∀ σ' H', N σ' H' → ∃ m', m' < m ∧ Wv (i + 1) m' σ' H') ∧ ∀ x H', J.yld i H x H' → g x σ H' fun σ2 H2 => tb { D with nx := N, ct := N, bk := D.nx } σ2 H2)
def ItX (K : PySem.W.Frag) (a : Addr) : Kd → It
  | .tup => Itt K a
  | _ => Itl K a
def isSq : Kd → Bool
  | .lst => true
  | .fz => true
  | .tup => true
  | _ => false
def SqX (K : PySem.W.Frag) (H : Hp) (k : Kd) (a : Addr) (vs : List V) : Prop := match k with
  | .tup => SqT K H a vs
  | _ => SqL K H a vs
theorem At.sqx {H : Hp} {k : Kd} {a : Addr} {vs : List V} (h : At Γ H k a vs) (hk : isSq k = true) : SqX Γ.K H k a vs := by
  cases k with
  | lst => exact .inl (.inl h)
  | fz => exact RoL.sq h
  | tup => exact .inl (.inl h)
  | dK _ => cases hk
  | dT _ => cases hk
  | obj _ _ => cases hk
/-- what is walked stays as it is, while other things change -/
theorem iter_ok {H1 : Hp} {F1 G : FP} {x : V} {k : Kd} {ts : List T} (r : Rep Γ H1 x (.nd k ts) G) (dj : ∀ a, F1 a → G a → False) (im : T.imAll ts = true) : ∃ a vs, x = .ref a ∧ vs.length = ts.length ∧
    ∀ H' F', Upd H1 H' F1 F' → At Γ H' k a vs ∧ ∀ (i : Nat) (v : V) (t : T), vs[i]? = some v → ts[i]? = some t → Rep Γ H' v t FE := by
  cases r with
  | @nd _ _ a vs _ Fs hat hl hm hc hd hs =>
    refine ⟨a, vs, rfl, hl, fun H' F' u => ⟨hat.keep (fun m o q => u.keep a o q fun f => dj a f (hm m).1) u.imm, fun i v t q1 q2 => ?_⟩⟩
    exact ((hc i v t q1 q2).im (imAll_iff.mp im i t q2) FE).ke u.toKe fun _ z => z.elim
theorem drop_get {α : Type} {l : List α} {i : Nat} {x : α} (h : l[i]? = some x) : l.drop i = x :: l.drop (i + 1) := by
  have hi : i < l.length := (List.getElem?_eq_some_iff.mp h).1
  have e : l[i] = x := (List.getElem?_eq_some_iff.mp h).2
  rw [List.drop_eq_getElem_cons hi, e]
theorem for_core {body : SF} {tf : GF} {g : TG} (tk : TgOk Γ ar g tf) {D : Ends} {H1 : Hp} {σ : St} {S1 : TSt} {F1 G : FP} {x : V} {k : Kd} {ts : List T} {fl : Fl} {SN : TSt} (r : Rep Γ H1 x (.nd k ts) G) (hk : isSq k = true) (dj : ∀ a, F1 a → G a → False) (im : T.imAll ts = true) (R : RepS Γ ar H1 σ S1 F1)
    (ee : runL tf body ts S1 = some (fl, SN)) (kk : FlP Γ ar W D H1 F1 fl SN) {tb : TS} (hb : ∀ D σ H, rdS Γ ar W body D σ H → tb D σ H) :
    ∃ a vs, x = .ref a ∧ SqX Γ.K H1 k a vs ∧ LoopR g tb D σ (ItX Γ.K a k) H1 := by
  obtain ⟨a, vs, rfl, hl, st⟩ := iter_ok r dj im
  have sq : ∀ H' F', Upd H1 H' F1 F' → SqX Γ.K H' k a vs := fun H' F' u => (st H' F' u).1.sqx hk
  have h0 : ∃ S' F', RepS Γ ar H1 σ S' F' ∧ Upd H1 H1 F1 F' ∧ runL tf body (ts.drop 0) S' = some (fl, SN) := ⟨S1, F1, R, Upd.refl H1 F1, ee⟩
  have hs : ∀ (i : Nat) (y : V) (σ' : St) (H' : Hp), vs[i]? = some y → (∃ S' F', RepS Γ ar H' σ' S' F' ∧ Upd H1 H' F1 F' ∧ runL tf body (ts.drop i) S' = some (fl, SN)) →
      g y σ' H' fun σ2 H2 => tb { D with nx := fun σ' H' => ∃ S' F', RepS Γ ar H' σ' S' F' ∧ Upd H1 H' F1 F' ∧ runL tf body (ts.drop (i + 1)) S' = some (fl, SN), ct := fun σ' H' => ∃ S' F', RepS Γ ar H' σ' S' F' ∧ Upd H1 H' F1 F' ∧ runL tf body (ts.drop (i + 1)) S' = some (fl, SN), bk := D.nx } σ2 H2 := by
    rintro i y σ' H' hy ⟨S', F', R', u', e'⟩
    have hi : i < ts.length := by rw [← hl]; exact (List.getElem?_eq_some_iff.mp hy).1
    have et : ts[i]? = some ts[i] := List.getElem?_eq_getElem hi
    rw [drop_get et] at e'
    exact loop_step tk R' ((st H' F' u').2 i y _ hy et) e' _ (fun σ2 H2 S2 F2 R2 u2 e2 => ⟨S2, F2, R2, u'.trans u2, e2⟩) (flp_after u' kk) hb
  have hd : ∀ (σ' : St) (H' : Hp), (∃ S' F', RepS Γ ar H' σ' S' F' ∧ Upd H1 H' F1 F' ∧ runL tf body (ts.drop vs.length) S' = some (fl, SN)) → D.nx σ' H' := by
    rintro σ' H' ⟨S', F', R', u', e'⟩
    rw [hl, List.drop_length] at e'
    cases e'
    exact kk σ' H' F' R' u'
  refine ⟨a, vs, rfl, sq H1 F1 (Upd.refl H1 F1), ?_⟩
  cases k with
  | tup => exact for_tup (K := Γ.K) (a := a) (xs := vs) (fun i σ' H' => ∃ S' F', RepS Γ ar H' σ' S' F' ∧ Upd H1 H' F1 F' ∧ runL tf body (ts.drop i) S' = some (fl, SN)) h0 (fun i σ' H' _ ⟨_, F', _, u', _⟩ => sq H' F' u') hs hd
  | lst => exact for_list (K := Γ.K) (a := a) (xs := vs) (fun i σ' H' => ∃ S' F', RepS Γ ar H' σ' S' F' ∧ Upd H1 H' F1 F' ∧ runL tf body (ts.drop i) S' = some (fl, SN)) h0 (fun i σ' H' _ ⟨_, F', _, u', _⟩ => sq H' F' u') hs hd
  | fz => exact for_list (K := Γ.K) (a := a) (xs := vs) (fun i σ' H' => ∃ S' F', RepS Γ ar H' σ' S' F' ∧ Upd H1 H' F1 F' ∧ runL tf body (ts.drop i) S' = some (fl, SN)) h0 (fun i σ' H' _ ⟨_, F', _, u', _⟩ => sq H' F' u') hs hd
  | dK _ => cases hk
  | dT _ => cases hk
  | obj _ _ => cases hk
def iSeq (K : PySem.W.Frag) (tl : TE) : TI := fun σ H R => iList K tl σ H R ∨ iTup K tl σ H R
theorem pi_seq {tg l : Expr} {tl : TE} (hl : PE X l tl) : PI X tg l (iSeq X.K tl) := ⟨fun pins s σ H R I h => h.elim (fun h => (pi_list hl).run pins s σ H R I h) fun h => (pi_tup hl).run pins s σ H R I h⟩
def seqO : T → Option (Kd × List T)
  | .nd k ts => if isSq k = true ∧ T.imAll ts = true then some (k, ts) else none
  | _ => none
theorem seqO_some {t : T} {k : Kd} {ts : List T} (h : seqO t = some (k, ts)) : t = .nd k ts ∧ isSq k = true ∧ T.imAll ts = true := by
  unfold seqO at h
  split at h
  · rename_i k' ts'
    by_cases c : isSq k' = true ∧ T.imAll ts' = true
    · rw [if_pos c] at h; cases h; exact ⟨rfl, c⟩
    · rw [if_neg c] at h; cases h
  · cases h
/-- over a thing made anew (or never changed) -/
def sForE (tf : GF) (f : EF) (body : SF) : SF := fun S => (f S).bind fun rx => match rx with
  | (.ex c, S1) => some (.ex c, S1)
  | (.ok t, S1) => (seqO t).bind fun kt => runL tf body kt.2 S1
theorem forE_ok {tf : GF} {g : TG} {body : SF} (tk : TgOk Γ ar g tf) {D : Ends} {σ : St} {H : Hp} (q : rdS Γ ar W (sForE tf fa body) D σ H) : tFor (iSeq Γ.K (rdE Γ ar W fa)) g (rdS Γ ar W body) D σ H := by
  obtain ⟨S, F, fl, SN, R, ee, kk⟩ := q
  unfold sForE at ee
  cases e1 : fa S with
  | none => rw [e1] at ee; cases ee
  | some o1 =>
    obtain ⟨r1, S1⟩ := o1
    rw [e1] at ee
    simp only [Option.bind_some] at ee
    cases r1 with
    | ex c =>
      cases ee
      exact .inl ⟨S, F, _, _, R, e1, fun H' F' R' u => kk σ H' F' R' u⟩
    | ok t =>
      simp only at ee
      cases e2 : seqO t with
      | none => rw [e2] at ee; cases ee
      | some kt =>
        obtain ⟨k, ts⟩ := kt
        rw [e2] at ee
        simp only [Option.bind_some] at ee
        obtain ⟨rfl, hk, im⟩ := seqO_some e2
        have main : ∀ v H' F' G, Own Γ ar H F σ S1 v (.nd k ts) H' F' G → ∃ a vs, v = .ref a ∧ SqX Γ.K H' k a vs ∧ LoopR g (rdS Γ ar W body) D σ (ItX Γ.K a k) H' := fun v H' F' G ow =>
          for_core tk ow.r hk ow.d im ow.rs ee (flp_after (ow.u.sub fun a z => .inl z) kk) fun _ _ _ z => z
        cases k with
        | tup =>
          refine .inr ⟨S, F, _, _, R, e1, fun v H' F' G ow => ?_⟩
          obtain ⟨a, vs, ev, hq, lp⟩ := main v H' F' G ow
          exact ⟨a, ev, ⟨vs, hq⟩, lp⟩
        | lst =>
          refine .inl ⟨S, F, _, _, R, e1, fun v H' F' G ow => ?_⟩
          obtain ⟨a, vs, ev, hq, lp⟩ := main v H' F' G ow
          exact ⟨a, ev, ⟨vs, hq⟩, lp⟩
        | fz =>
          refine .inl ⟨S, F, _, _, R, e1, fun v H' F' G ow => ?_⟩
          obtain ⟨a, vs, ev, hq, lp⟩ := main v H' F' G ow
          exact ⟨a, ev, ⟨vs, hq⟩, lp⟩
        | dK _ => cases hk
        | dT _ => cases hk
        | obj _ _ => cases hk
theorem s_forE {tg iter : Expr} {body : List Stmt} {sb : SF} {tf : GF} {g : TG} (hp : PassesOwn (model X.prog X.w) X.A X.env X.xe) (hc : X.calm = true) (tk : TgOk Γ ar g tf) (hi : PE X iter (rdE Γ ar W fa)) (hg : PG X tg g) (hb : PSs X body (rdS Γ ar W sb)) (hK : X.K = Γ.K := by rfl)
    (hs : ∀ x, foldedSetIterable iter X.env x = pure x := by intro _; rfl) : PS X (.For tg iter body [] pos) (rdS Γ ar W (sForE tf fa sb)) := by
  refine PS.imp (ps_for hp hc (pi_seq hi) hg hb hs) fun D σ H q => ?_
  rw [hK]
  exact forE_ok tk q
abbrev Loc' (L : List Nat) (ar : Fx) : Prop := ∀ j ∈ L, ar j = none
/-- 0, 1, .. -/
def rgT (n : Int) : List T := (List.range n.toNat).map fun (k : Nat) => T.int (k : Int)
/-- for x in range(e) -/
def sForR (tf : GF) (f : EF) (body : SF) : SF := fun S => (f S).bind fun rx => match rx with
  | (.ex c, S1) => some (.ex c, S1)
  | (.ok (.int n), S1) => if 0 ≤ n ∧ n < 100000 then runL tf body (rgT n) S1 else none
  | _ => none
theorem forR_ok {tf : GF} {g : TG} {body : SF} (tk : TgOk Γ ar g tf) {D : Ends} {σ : St} {H : Hp} (q : rdS Γ ar W (sForR tf fa body) D σ H) : tFor (iRng1 (tCons (rdE Γ ar W fa) tNil)) g (rdS Γ ar W body) D σ H := by
  obtain ⟨S, F, fl, SN, R, ee, kk⟩ := q
  unfold sForR at ee
  cases e1 : fa S with
  | none => rw [e1] at ee; cases ee
  | some o1 =>
    rw [e1] at ee
    simp only [Option.bind_some] at ee
    split at ee
    · cases ee
      exact ⟨S, F, _, _, R, e1, fun H' F' R' u => kk σ H' F' R' u⟩
    · rename_i n S1
      by_cases hn : 0 ≤ n ∧ n < 100000
      · rw [if_pos hn] at ee
        refine ⟨S, F, _, _, R, e1, fun v H1 F1 G ow => ?_⟩
        obtain ⟨R1, rv, _, _, u1⟩ := ow
        have u1 : Upd H H1 F F1 := u1.sub fun a z => .inl z
        generalize hnn : (T.int n) = tn at rv
        cases rv with
        | int i =>
          cases hnn
          refine ⟨n, rfl, by omega, by omega, ?_⟩
          refine for_range (lo := 0) (n := n.toNat) (fun i σ' H' => ∃ S' F', RepS Γ ar H' σ' S' F' ∧ Upd H1 H' F1 F' ∧ runL tf body ((rgT n).drop i) S' = some (fl, SN)) ⟨S1, F1, R1, Upd.refl H1 F1, ee⟩ ?_ ?_
          · rintro i σ' H' hi ⟨S', F', R', u', e'⟩
            have et : (rgT n)[i]? = some (.int (i : Int)) := by simp [rgT, hi]
            rw [drop_get et] at e'
            rw [Int.zero_add]
            exact loop_step tk R' (.int (F := FE) (i : Int)) e' _ (fun σ2 H2 S2 F2 R2 u2 e2 => ⟨S2, F2, R2, u'.trans u2, e2⟩) (flp_after (u1.trans u') kk) fun _ _ _ z => z
          · rintro σ' H' ⟨S', F', R', u', e'⟩
            rw [List.drop_eq_nil_of_le (by simp [rgT])] at e'
            cases e'
            exact kk σ' H' F' R' (u1.trans u')
        | nd => cases hnn
        | _ => cases hnn
      · rw [if_neg hn] at ee; cases ee
    · cases ee
theorem s_forR {tg e1 : Expr} {p1 pos1 : Pos} {body : List Stmt} {sb : SF} {tf : GF} {g : TG} (hp : PassesOwn (model X.prog X.w) X.A X.env X.xe) (hc : X.calm = true) (tk : TgOk Γ ar g tf) (hm : X.mg "range" = none) (hi : PE X e1 (rdE Γ ar W fa)) (hg : PG X tg g) (hb : PSs X body (rdS Γ ar W sb)) (hgl : Gl X "range" := by rfl)
    (hst : starEach [e1] X.env = (false, eval e1 X.env) :: starEach [] X.env := by rfl) (hs : ∀ x, foldedSetIterable (.Call (.Name "range" p1) [e1] [] pos1) X.env x = pure x := by intro _; rfl) : PS X (.For tg (.Call (.Name "range" p1) [e1] [] pos1) body [] pos) (rdS Γ ar W (sForR tf fa sb)) :=
  PS.imp (ps_for hp hc (pi_range1 hgl hm (pa_cons hi pa_nil hst) hst) hg hb hs) fun D σ H q => forR_ok tk q
end
end VT
namespace VT
open PySem L2
section
variable {Γ : Gx} {ar : Fx} {W : WX} {X : Cx} {a b e o : Expr} {pos p apos cpos : Pos} {ga gb g : BF} {fa fb : EF} {es : List Expr} {pl : PF}
abbrev W0 : WX := fun _ _ _ _ => False
def wipeS (S : TSt) : List Nat → TSt
  | [] => S
  | v :: vs => (wipeS S vs).set v none
/-- names that are held no more -/
def freeAt (ar : Fx) (vs : List Nat) : Fx := fun j => if j ∈ vs then none else ar j
theorem wipeS_length (S : TSt) : ∀ vs : List Nat, (wipeS S vs).length = S.length
  | [] => rfl
  | v :: vs => by unfold wipeS; rw [List.length_set, wipeS_length S vs]
theorem wipeS_some {S : TSt} {i : Nat} {t : T} : ∀ {vs : List Nat}, (wipeS S vs)[i]? = some (some t) → S[i]? = some (some t) ∧ i ∉ vs
  | [], h => ⟨h, by simp⟩
  | v :: vs, h => by
    unfold wipeS at h
    by_cases hi : v = i
    · subst hi
      by_cases hv : v < (wipeS S vs).length
      · rw [List.getElem?_set_self hv] at h; cases h
      · rw [List.getElem?_eq_none (by simpa using hv)] at h; cases h
    · rw [List.getElem?_set_ne hi] at h
      obtain ⟨h1, h2⟩ := wipeS_some h
      exact ⟨h1, by simp only [List.mem_cons, not_or]; exact ⟨fun e => hi e.symm, h2⟩⟩
theorem wipe_other {σ : St} {i : Nat} : ∀ {vs : List Nat}, i ∉ vs → (wipe σ vs)[i]? = σ[i]?
  | [], _ => rfl
  | v :: vs, h => by
    unfold wipe
    rw [List.getElem?_set_ne fun z => h (by rw [z]; exact List.mem_cons_self)]
    exact wipe_other fun z => h (List.mem_cons_of_mem _ z)
theorem RepS.wiped {H : Hp} {σ : St} {S : TSt} {F : FP} {ar' : Fx} (R : RepS Γ ar H σ S F) (vs : List Nat) (har : ∀ (j : Nat) (v : V), ar' j = some v → j ∉ vs ∧ ar j = some v) : RepS Γ ar' H (L2.wipe σ vs) (wipeS S vs) F := by
  obtain ⟨len, arg, ⟨Fs, h1, h2, h3⟩, al⟩ := R
  refine ⟨by rw [wipeS_length, wipe_length]; exact len, fun j v q => ?_, ⟨Fs, fun j t q => ?_, h2, h3⟩, al⟩
  · rw [wipe_other (har j v q).1]; exact arg j v (har j v q).2
  · obtain ⟨q1, q2⟩ := wipeS_some q
    obtain ⟨v, ev, r⟩ := h1 j t q1
    exact ⟨v, by rw [wipe_other q2]; exact ev, r⟩
/-- back from the block -/
theorem RepS.unwipe {H H' : Hp} {σ : St} {S SN : TSt} {F F' : FP} {ar' : Fx} {vs : List Nat} (R : RepS Γ ar H σ S F) (R' : RepS Γ ar' H' (L2.wipe σ vs) SN F') (hw : wipeS SN vs = SN) : RepS Γ ar H' σ SN F' := by
  obtain ⟨len, arg, _, _⟩ := R
  obtain ⟨len', _, ⟨Fs, h1, h2, h3⟩, al⟩ := R'
  refine ⟨by rw [len', wipe_length], arg, ⟨Fs, fun j t q => ?_, h2, h3⟩, al⟩
  obtain ⟨v, ev, r⟩ := h1 j t q
  rw [← hw] at q
  exact ⟨v, by rw [← wipe_other (wipeS_some q).2]; exact ev, r⟩
/-- what never changes is as it was -/
def restS (S S' : TSt) : List Nat → TSt
  | [] => S'
  | v :: vs => match sl S v with
    | some t => if t.im = true then (restS S S' vs).set v (some t) else restS S S' vs
    | none => restS S S' vs
theorem RepS.rest {H H' : Hp} {σ : St} {S S' : TSt} {F F' : FP} (R : RepS Γ ar H σ S F) (im : ∀ b o, Im o → H b = some o → H' b = some o) (R' : RepS Γ ar H' σ S' F') : ∀ vs : List Nat, RepS Γ ar H' σ (restS S S' vs) F'
  | [] => R'
  | v :: vs => by
    have ih := RepS.rest R im R' vs
    unfold restS
    split
    · rename_i t e
      by_cases hi : t.im = true
      · rw [if_pos hi]
        obtain ⟨w, ew, r⟩ := R.slot (sl_some.mp e)
        have r2 := (r.im hi FE).frame (H' := H') (fun _ _ z => z.elim) im
        exact (ih.give ew r2 (fun _ _ z => z) fun _ z => z.elim).mono (fun a z => z.elim id fun z => z.elim) ih.al
      · rw [if_neg hi]; exact ih
    · exact ih
theorem wipe_set {σ : St} {x : Option V} : ∀ {vs : List Nat} {j : Nat}, j ∈ vs → L2.wipe ((L2.wipe σ vs).set j x) vs = L2.wipe σ vs := fun {vs j} hj => by
  apply List.ext_getElem?
  intro i
  by_cases hi : i ∈ vs
  · have z : ∀ τ : St, τ.length = σ.length → i < σ.length → (L2.wipe τ vs)[i]? = some none := fun τ hτ hl => by
      have hlt : i < (L2.wipe τ vs).length := by rw [wipe_length, hτ]; exact hl
      cases q : (L2.wipe τ vs)[i]? with
      | none => rw [List.getElem?_eq_none_iff] at q; omega
      | some o =>
        cases o with
        | none => rfl
        | some v => exact absurd hi (wipe_some q).2
    by_cases hl : i < σ.length
    · rw [z _ (by rw [List.length_set, wipe_length]) hl, z σ rfl hl]
    · rw [List.getElem?_eq_none (by rw [wipe_length, List.length_set, wipe_length]; omega), List.getElem?_eq_none (by rw [wipe_length]; omega)]
  · rw [wipe_other hi, List.getElem?_set_ne fun z => hi (by rw [← z]; exact hj)]
theorem wipeS_idem {S : TSt} (vs : List Nat) : wipeS (wipeS S vs) vs = wipeS S vs := by
  apply List.ext_getElem?
  intro i
  by_cases hi : i ∈ vs
  · have z : ∀ τ : TSt, τ.length = S.length → i < S.length → (wipeS τ vs)[i]? = some none := fun τ hτ hl => by
      have hlt : i < (wipeS τ vs).length := by rw [wipeS_length, hτ]; exact hl
      cases q : (wipeS τ vs)[i]? with
      | none => rw [List.getElem?_eq_none_iff] at q; omega
      | some o =>
        cases o with
        | none => rfl
        | some v => exact absurd hi (wipeS_some q).2
    by_cases hl : i < S.length
    · rw [z _ (by rw [wipeS_length]) hl, z S rfl hl]
    · rw [List.getElem?_eq_none (by rw [wipeS_length, wipeS_length]; omega), List.getElem?_eq_none (by rw [wipeS_length]; omega)]
  · have wo : ∀ {τ : TSt} {us : List Nat}, i ∉ us → (wipeS τ us)[i]? = τ[i]? := fun {τ us} => by
      induction us with
      | nil => intro _; rfl
      | cons v us ih =>
        intro h
        unfold wipeS
        rw [List.getElem?_set_ne fun z => h (by rw [z]; exact List.mem_cons_self)]
        exact ih fun z => h (List.mem_cons_of_mem _ z)
    rw [wo hi]
def runC (j : Nat) (vs : List Nat) (cond elt : EF) : List T → TSt → List T → Option (List T × TSt)
  | [], S, acc => some (acc, S)
  | t :: ts, S, acc => (tgN j t S).bind fun S1 => (cond S1).bind fun rb => match rb with
    | (.ok (.bl true), S2) => (elt S2).bind fun ru => match ru with
      | (.ok u, S3) => runC j vs cond elt ts (wipeS S3 vs) (acc ++ [u])
      | _ => none
    | (.ok (.bl false), S2) => runC j vs cond elt ts (wipeS S2 vs) acc
    | _ => none
/-- the list that is made, at Dl: what is in it so far -/
structure Acc (Γ : Gx) (ar : Fx) (H0 : Hp) (F0 : FP) (σ : St) (Dl : Addr) (H : Hp) (S : TSt) (F : FP) (tacc : List T) (Ga : FP) : Prop where
  rs : RepS Γ ar H σ S F
  up : Upd H0 H F0 (FU F (FU Ga (fun a => a = Dl)))
  at_ : ∃ acc : List V, H Dl = some (.lst acc) ∧ acc.length = tacc.length ∧ ∃ Gs : Nat → FP, (∀ (i : Nat) (v : V) (t : T), acc[i]? = some v → tacc[i]? = some t → Rep Γ H v t (Gs i)) ∧ (∀ i j a, i ≠ j → Gs i a → Gs j a → False) ∧ ∀ i a, Gs i a → Ga a
  dj : ∀ a, F a → Ga a → False
  nF : ¬ F Dl
  nG : ¬ Ga Dl
  al : ∀ a, Ga a → H a ≠ none
theorem Acc.step {H0 H H' : Hp} {F0 F F' Ga : FP} {σ σ' : St} {Dl : Addr} {S S' : TSt} {tacc : List T} {ar' : Fx} (A : Acc Γ ar H0 F0 σ Dl H S F tacc Ga) (R : RepS Γ ar' H' σ' S' F') (u : Upd H H' F F') : Acc Γ ar' H0 F0 σ' Dl H' S' F' tacc Ga := by
  obtain ⟨acc, hD, hl, Gs, h1, h2, h3⟩ := A.at_
  have nw : ∀ a, F' a → F a ∨ H a = none := u.new
  refine ⟨R, A.up.trans u.more, ⟨acc, u.keep _ _ hD A.nF, hl, Gs, fun i v t q1 q2 => (h1 i v t q1 q2).ke u.toKe fun a z f => A.dj a f (h3 i a z), h2, h3⟩, fun a f z => (nw a f).elim (fun f => A.dj a f z) (A.al a z), fun f => (nw _ f).elim A.nF (fun z => by rw [hD] at z; cases z), A.nG, fun a z => u.toKe.al (A.al a z) fun f => A.dj a f z⟩
theorem Acc.add {H0 H : Hp} {F0 F Ga G : FP} {σ : St} {Dl : Addr} {S : TSt} {tacc : List T} {v : V} {t : T} (A : Acc Γ ar H0 F0 σ Dl H S F tacc Ga) (r : Rep Γ H v t G) (dF : ∀ a, F a → G a → False) (dG : ∀ a, Ga a → G a → False) (nG : ¬ G Dl) (al : ∀ a, G a → H a ≠ none) (nw : ∀ a, G a → F0 a ∨ H0 a = none) :
    ∃ acc, H Dl = some (.lst acc) ∧ acc.length = tacc.length ∧ Acc Γ ar H0 F0 σ Dl (upd H Dl (.lst (acc ++ [v]))) S F (tacc ++ [t]) (FU Ga G) := by
  obtain ⟨acc, hD, hl, Gs, h1, h2, h3⟩ := A.at_
  have ke : ∀ {E : FP}, E Dl → Ke H (upd H Dl (.lst (acc ++ [v]))) E := fun z => ke_upd hD (fun z => z) z
  have fr : ∀ {w : V} {s : T} {E : FP}, Rep Γ H w s E → ¬ E Dl → Rep Γ (upd H Dl (.lst (acc ++ [v]))) w s E := fun {w s E} r nE => r.ke (ke (E := fun a => a = Dl) rfl) fun a z q => nE (by rw [← q]; exact z)
  refine ⟨acc, hD, hl, A.rs.ke (ke (E := fun a => a = Dl) rfl) fun a f q => A.nF (by rw [← q]; exact f), ?_, ⟨acc ++ [v], upd_same, by simp [hl], fun i => if i = tacc.length then G else Gs i, fun i w s q1 q2 => ?_, fun i j a ne z z' => ?_, fun i a z => ?_⟩, fun a f z => z.elim (A.dj a f) (dF a f), A.nF, fun z => z.elim A.nG nG, fun a z => al_upd a (z.elim (A.al a) (al a))⟩
  · refine ⟨⟨fun b o q n => ?_, fun b o im q => (ke (E := fun a => a = Dl) rfl).imm b o im (A.up.imm b o im q)⟩, fun a z => ?_⟩
    · have q2 := A.up.keep b o q n
      have nb : b ≠ Dl := fun z => by
        rcases A.up.new b (.inr (.inr z)) with y | y
        · exact n y
        · rw [q] at y; cases y
      rw [upd_ne nb]; exact q2
    · rcases z with z | (z | z) | z
      · exact A.up.new a (.inl z)
      · exact A.up.new a (.inr (.inl z))
      · exact nw a z
      · exact A.up.new a (.inr (.inr z))
  · by_cases c : i < tacc.length
    · simp only [if_neg (show ¬ i = tacc.length by omega)]
      rw [List.getElem?_append_left (by omega)] at q1 q2
      exact fr (h1 i w s q1 q2) fun z => A.nG (h3 i _ z)
    · have hi : i = tacc.length := by
        have := (List.getElem?_eq_some_iff.mp q2).1
        simp at this
        omega
      subst hi
      simp only [if_true]
      simp at q2
      subst q2
      rw [← hl] at q1
      simp at q1
      subst q1
      exact fr r nG
  · by_cases c : i = tacc.length
    · simp only [if_pos c] at z
      simp only [if_neg (fun q => ne (c.trans q.symm) : ¬ j = tacc.length)] at z'
      exact dG a (h3 j a z') z
    · simp only [if_neg c] at z
      by_cases c' : j = tacc.length
      · simp only [if_pos c'] at z'
        exact dG a (h3 i a z) z'
      · simp only [if_neg c'] at z'
        exact h2 i j a ne z z'
  · by_cases c : i = tacc.length
    · simp only [if_pos c] at z; exact .inr z
    · simp only [if_neg c] at z; exact .inl (h3 i a z)
/-- one turn of a comprehension -/
theorem comp_turn {j : Nat} {vs : List Nat} {cond elt : EF} {ar' : Fx} (hj : j ∈ vs) (haj : ar' j = none) (hfr : ∀ v ∈ vs, ar' v = none) {tt : TT} {te : TE} (ht : ∀ σ H Q, rdT Γ ar' W0 cond σ H Q → tt σ H Q) (he : ∀ σ H Q, rdE Γ ar' W0 elt σ H Q → te σ H Q)
    {H0 H : Hp} {F0 F Ga G : FP} {σ : St} {Dl : Addr} {S : TSt} {tacc : List T} {x : V} {t : T} {ts : List T} {fin : List T × TSt} (A : Acc Γ ar' H0 F0 (wipe σ vs) Dl H S F tacc Ga) (hacc : tacc.length < 100000) (r : Rep Γ H x t G) (ee : runC j vs cond elt (t :: ts) S tacc = some fin)
    (P : Hp → Prop) (hP : ∀ H' S' F' tacc' Ga', Acc Γ ar' H0 F0 (wipe σ vs) Dl H' S' F' tacc' Ga' → tacc'.length ≤ tacc.length + 1 → runC j vs cond elt ts S' tacc' = some fin → P H') :
    gName j x (wipe σ vs) H fun σ2 H2 => wipe σ2 vs = wipe σ vs ∧ tt σ2 H2 fun b H3 => if b = true then te σ2 H3 fun y H4 => ∃ acc, H4 Dl = some (.lst acc) ∧ acc.length < sizeLine ∧ P (upd H4 Dl (.lst (acc ++ [y]))) else P H3 := by
  unfold runC at ee
  cases e1 : tgN j t S with
  | none => rw [e1] at ee; cases ee
  | some S1 =>
    rw [e1] at ee
    simp only [Option.bind_some] at ee
    unfold tgN at e1
    by_cases im : t.im = true
    · rw [if_pos im] at e1
      cases e1
      have R1 := A.rs.putIm haj r im
      refine ⟨wipe_set hj, ht _ _ _ ?_⟩
      have A1 := A.step R1 (Upd.refl H F)
      cases e2 : cond (S.set j (some t)) with
      | none => rw [e2] at ee; cases ee
      | some rb =>
        rw [e2] at ee
        simp only [Option.bind_some] at ee
        have back : ∀ {H' : Hp} {S' : TSt} {F' : FP} {ta : List T} {Gb : FP}, Acc Γ ar' H0 F0 ((wipe σ vs).set j (some x)) Dl H' S' F' ta Gb → Acc Γ ar' H0 F0 (wipe σ vs) Dl H' (wipeS S' vs) F' ta Gb := fun {H' S' F' ta Gb} B => by
          have R3 := B.rs.wiped (ar' := ar') vs fun i w q => ⟨fun z => (by rw [hfr i z] at q; cases q), q⟩
          rw [wipe_set hj] at R3
          exact B.step R3 (Upd.refl H' F')
        split at ee
        · rename_i S2
          cases e3 : elt S2 with
          | none => rw [e3] at ee; cases ee
          | some ru =>
            obtain ⟨r3, S3⟩ := ru
            rw [e3] at ee
            simp only [Option.bind_some] at ee
            cases r3 with
            | ex c => cases ee
            | ok u =>
              simp only at ee
              refine bool_then R1 e2 fun H3 F3 R3 u3 => iteT (he _ _ _ ⟨S2, F3, _, _, R3, e3, fun v H4 F4 G4 ow => ?_⟩)
              have A3 := A1.step R3 u3
              have A4 := A3.step ow.rs (ow.u.sub fun a z => .inl z)
              obtain ⟨acc3, hD3, _⟩ := A3.at_
              have nwG : ∀ a, G4 a → F3 a ∨ H3 a = none := fun a z => ow.u.new a (.inr z)
              obtain ⟨acc, q1, q2, A5⟩ := A4.add ow.r ow.d (fun a z z' => (nwG a z').elim (fun f => A3.dj a f z) (A3.al a z)) (fun z => (nwG _ z).elim A3.nF fun y => by rw [hD3] at y; cases y) ow.al
                (fun a z => (nwG a z).elim (fun f => A3.up.new a (.inl f)) fun y => by
                  by_cases f0 : F0 a
                  · exact .inl f0
                  · exact .inr (A3.up.toKe.free y f0))
              exact ⟨acc, q1, sz5' (by omega), hP _ _ _ _ _ (back A5) (by simp) ee⟩
        · refine bool_then R1 e2 fun H3 F3 R3 u3 => iteF ?_
          exact hP _ _ _ _ _ (back (A1.step R3 u3)) (by omega) ee
        · cases ee
    · rw [if_neg im] at e1; cases e1
def eLcFrom (j : Nat) (vs : List Nat) (cond elt : EF) (ts : List T) (S : TSt) : Option (Rs T × TSt) := if ts.length < 100000 then (runC j vs cond elt ts (wipeS S vs) []).bind fun r => some (.ok (.nd .lst r.1), wipeS r.2 vs) else none
def CompR (g : TG) (tt : TT) (te : TE) (vs : List Nat) (σ : St) (Q : VK) : It → Hp → Prop := fun J H1 => ∀ D, H1 D = none → ∃ Wv : Nat → Nat → Hp → Prop, (∃ m, Wv 0 m (upd H1 D (.lst []))) ∧ ∀ i m H, Wv i m H →
  (J.stop i H ∧ Q (.ref D) H) ∨ (J.go i H ∧ ∃ Nx : Hp → Prop, (∀ H', Nx H' → ∃ m', m' < m ∧ Wv (i + 1) m' H') ∧ ∀ x H', J.yld i H x H' → g x (wipe σ vs) H' fun σ2 H2 => wipe σ2 vs = wipe σ vs ∧ tt σ2 H2 fun b H3 =>
    if b = true then te σ2 H3 fun y H4 => ∃ acc, H4 D = some (.lst acc) ∧ acc.length < sizeLine ∧ Nx (upd H4 D (.lst (acc ++ [y]))) else Nx H3)
theorem Acc.done {H0 H : Hp} {F0 F Ga : FP} {σ : St} {Dl : Addr} {S : TSt} {tacc : List T} (A : Acc Γ ar H0 F0 σ Dl H S F tacc Ga) : Rep Γ H (.ref Dl) (.nd .lst tacc) (FU Ga (fun a => a = Dl)) ∧ (∀ a, F a → FU Ga (fun a => a = Dl) a → False) ∧ ∀ a, FU Ga (fun a => a = Dl) a → H a ≠ none := by
  obtain ⟨acc, hD, hl, Gs, h1, h2, h3⟩ := A.at_
  exact ⟨.nd (Fs := Gs) hD hl (fun _ => ⟨.inr rfl, fun i z => A.nG (h3 i _ z)⟩) h1 h2 fun i a z => .inl (h3 i a z), fun a f z => z.elim (A.dj a f) fun q => A.nF (by rw [← q]; exact f), fun a z => z.elim (A.al a) fun q => by rw [q, hD]; exact fun y => nomatch y⟩
theorem acc_start {H1 : Hp} {F1 : FP} {σ : St} {S : TSt} {Dl : Addr} {vs : List Nat} {ar' : Fx} (R : RepS Γ ar H1 σ S F1) (hD : H1 Dl = none) (har : ∀ (j : Nat) (v : V), ar' j = some v → j ∉ vs ∧ ar j = some v) : Acc Γ ar' H1 F1 (wipe σ vs) Dl (upd H1 Dl (.lst [])) (wipeS S vs) F1 [] FE :=
  ⟨(R.wiped vs har).same (upd_new hD), ⟨Ke.of_same _ (upd_new hD), fun a z => z.elim .inl fun z => z.elim (fun z => z.elim) fun z => .inr (by rw [z]; exact hD)⟩, ⟨[], upd_same, rfl, fun _ => FE, fun i v t q => by simp at q, fun _ _ _ _ z => z.elim, fun _ _ z => z⟩, fun _ _ z => z, fun f => R.al Dl f hD, fun z => z, fun _ z => z.elim⟩
/-- over a list or tuple that stays as it is -/
theorem comp_core {j : Nat} {vs : List Nat} {cond elt : EF} {ar' : Fx} (hj : j ∈ vs) (hfr : ∀ v ∈ vs, ar' v = none) {tt : TT} {te : TE} (ht : ∀ σ H Q, rdT Γ ar' W0 cond σ H Q → tt σ H Q) (he : ∀ σ H Q, rdE Γ ar' W0 elt σ H Q → te σ H Q)
    {H1 : Hp} {σ : St} {S1 : TSt} {F1 G : FP} {x : V} {k : Kd} {ts : List T} {rt : Rs T} {SN : TSt} {Q : VK} (r : Rep Γ H1 x (.nd k ts) G) (hk : isSq k = true) (dj : ∀ a, F1 a → G a → False) (im : T.imAll ts = true) (R : RepS Γ ar H1 σ S1 F1) (har : ∀ (j : Nat) (v : V), ar' j = some v → j ∉ vs ∧ ar j = some v)
    (ee : eLcFrom j vs cond elt ts S1 = some (rt, SN)) (kk : ∀ t, rt = .ok t → ∀ v H' F' G, RepS Γ ar' H' (wipe σ vs) SN F' → wipeS SN vs = SN → Rep Γ H' v t G → (∀ a, F' a → G a → False) → (∀ a, G a → H' a ≠ none) → Upd H1 H' F1 (FU F' G) → Q v H') :
    ∃ a ws, x = .ref a ∧ SqX Γ.K H1 k a ws ∧ CompR (gName j) tt te vs σ Q (ItX Γ.K a k) H1 := by
  unfold eLcFrom at ee
  by_cases hz : ts.length < 100000
  · rw [if_pos hz] at ee
    cases e1 : runC j vs cond elt ts (wipeS S1 vs) [] with
    | none => rw [e1] at ee; cases ee
    | some fin =>
      rw [e1] at ee
      cases ee
      obtain ⟨a, ws, rfl, hl, st⟩ := iter_ok r dj im
      refine ⟨a, ws, rfl, (st H1 F1 (Upd.refl H1 F1)).1.sqx hk, fun Dl hD => ?_⟩
      have upG : ∀ {H' : Hp} {S' : TSt} {F' Ga : FP} {tacc : List T}, Acc Γ ar' H1 F1 (wipe σ vs) Dl H' S' F' tacc Ga → Upd H1 H' F1 F' := fun A => A.up.sub fun a z => .inl z
      have h0 : ∃ S' F' tacc Ga, Acc Γ ar' H1 F1 (wipe σ vs) Dl (upd H1 Dl (.lst [])) S' F' tacc Ga ∧ tacc.length ≤ 0 ∧ runC j vs cond elt (ts.drop 0) S' tacc = some fin := ⟨_, F1, [], FE, acc_start R hD har, Nat.le_refl _, e1⟩
      have hs : ∀ (i : Nat) (y : V) (H' : Hp), ws[i]? = some y → (∃ S' F' tacc Ga, Acc Γ ar' H1 F1 (wipe σ vs) Dl H' S' F' tacc Ga ∧ tacc.length ≤ i ∧ runC j vs cond elt (ts.drop i) S' tacc = some fin) →
          gName j y (wipe σ vs) H' fun σ2 H2 => wipe σ2 vs = wipe σ vs ∧ tt σ2 H2 fun b H3 => if b = true then te σ2 H3 fun y H4 => ∃ acc, H4 Dl = some (.lst acc) ∧ acc.length < sizeLine ∧ (∃ S' F' tacc Ga, Acc Γ ar' H1 F1 (wipe σ vs) Dl (upd H4 Dl (.lst (acc ++ [y]))) S' F' tacc Ga ∧ tacc.length ≤ i + 1 ∧ runC j vs cond elt (ts.drop (i + 1)) S' tacc = some fin)
            else ∃ S' F' tacc Ga, Acc Γ ar' H1 F1 (wipe σ vs) Dl H3 S' F' tacc Ga ∧ tacc.length ≤ i + 1 ∧ runC j vs cond elt (ts.drop (i + 1)) S' tacc = some fin := by
        rintro i y H' hy ⟨S', F', tacc, Ga, A, hta, e'⟩
        have hi : i < ts.length := by rw [← hl]; exact (List.getElem?_eq_some_iff.mp hy).1
        have et : ts[i]? = some ts[i] := List.getElem?_eq_getElem hi
        rw [drop_get et] at e'
        exact comp_turn hj (hfr j hj) hfr ht he A (by omega) ((st H' F' (upG A)).2 i y _ hy et) e' (fun H' => ∃ S' F' tacc Ga, Acc Γ ar' H1 F1 (wipe σ vs) Dl H' S' F' tacc Ga ∧ tacc.length ≤ i + 1 ∧ runC j vs cond elt (ts.drop (i + 1)) S' tacc = some fin)
          fun H2 S2 F2 ta2 Ga2 A2 hl2 e2 => ⟨S2, F2, ta2, Ga2, A2, by omega, e2⟩
      have hd : ∀ H' : Hp, (∃ S' F' tacc Ga, Acc Γ ar' H1 F1 (wipe σ vs) Dl H' S' F' tacc Ga ∧ tacc.length ≤ ws.length ∧ runC j vs cond elt (ts.drop ws.length) S' tacc = some fin) → Q (.ref Dl) H' := by
        rintro H' ⟨S', F', tacc, Ga, A, _, e'⟩
        rw [hl, List.drop_length] at e'
        cases e'
        obtain ⟨d1, d2, d3⟩ := A.done
        have R3 := A.rs.wiped (ar' := ar') vs fun i w q => ⟨fun z => (by rw [hfr i z] at q; cases q), q⟩
        have ww : wipe (wipe σ vs) vs = wipe σ vs := by
          have := wipe_set (σ := σ) (x := ((wipe σ vs)[j]?).getD none) hj
          by_cases hjl : j < (wipe σ vs).length
          · have e4 : (wipe σ vs).set j (((wipe σ vs)[j]?).getD none) = wipe σ vs := by
              apply List.ext_getElem?
              intro i
              by_cases hi : j = i
              · subst hi
                rw [List.getElem?_set_self hjl, List.getElem?_eq_getElem hjl]
                try rfl
              · rw [List.getElem?_set_ne hi]
            rw [e4] at this
            exact this
          · rw [List.set_eq_of_length_le (by omega)] at this
            exact this
        rw [ww] at R3
        exact kk _ rfl _ H' F' _ R3 (wipeS_idem vs) d1 d2 d3 A.up
      have sq : ∀ (i : Nat) (H' : Hp), i ≤ ws.length → (∃ S' F' tacc Ga, Acc Γ ar' H1 F1 (wipe σ vs) Dl H' S' F' tacc Ga ∧ tacc.length ≤ i ∧ runC j vs cond elt (ts.drop i) S' tacc = some fin) → SqX Γ.K H' k a ws := fun i H' _ ⟨_, F', _, _, A, _⟩ => (st H' F' (upG A)).1.sqx hk
      cases k with
      | tup => exact lc_tup (K := Γ.K) (a := a) (xs := ws) (Qd := fun H' => Q (.ref Dl) H') (fun i H' => ∃ S' F' tacc Ga, Acc Γ ar' H1 F1 (wipe σ vs) Dl H' S' F' tacc Ga ∧ tacc.length ≤ i ∧ runC j vs cond elt (ts.drop i) S' tacc = some fin) h0 sq hs hd
      | lst => exact lc_list (K := Γ.K) (a := a) (xs := ws) (Qd := fun H' => Q (.ref Dl) H') (fun i H' => ∃ S' F' tacc Ga, Acc Γ ar' H1 F1 (wipe σ vs) Dl H' S' F' tacc Ga ∧ tacc.length ≤ i ∧ runC j vs cond elt (ts.drop i) S' tacc = some fin) h0 sq hs hd
      | fz => exact lc_list (K := Γ.K) (a := a) (xs := ws) (Qd := fun H' => Q (.ref Dl) H') (fun i H' => ∃ S' F' tacc Ga, Acc Γ ar' H1 F1 (wipe σ vs) Dl H' S' F' tacc Ga ∧ tacc.length ≤ i ∧ runC j vs cond elt (ts.drop i) S' tacc = some fin) h0 sq hs hd
      | dK _ => cases hk
      | dT _ => cases hk
      | obj _ _ => cases hk
  · rw [if_neg hz] at ee; cases ee
def lcEnd (vs : List Nat) (S : TSt) (r : Option (Rs T × TSt)) : Option (Rs T × TSt) := r.bind fun x => some (x.1, restS S x.2 vs)
def eLcE (j : Nat) (vs : List Nat) (f cond elt : EF) : EF := fun S => (f S).bind fun rx => match rx with
  | (.ex c, S1) => some (.ex c, S1)
  | (.ok t, S1) => (seqO t).bind fun kt => lcEnd vs S1 (eLcFrom j vs cond elt kt.2 S1)
def rdTX (Γ : Gx) (C : Fx → Prop) (f : EF) : TT := fun σ H Q => ∃ ar', C ar' ∧ rdT Γ ar' W0 f σ H Q
def rdEX (Γ : Gx) (C : Fx → Prop) (f : EF) : TE := fun σ H Q => ∃ ar', C ar' ∧ rdE Γ ar' W0 f σ H Q
theorem ee_all {C : Fx → Prop} {f : EF} (h : ∀ ar', C ar' → PE X e (rdE Γ ar' W0 f)) : PE X e (rdEX Γ C f) := ⟨fun pins s σ H Q I ⟨ar', c, q⟩ => (h ar' c).run pins s σ H Q I q⟩
theorem tt_one {C : Fx → Prop} {f : EF} {c : Expr} (h : ∀ ar', C ar' → PT X c (rdT Γ ar' W0 f)) : PTs X [c] (rdTX Γ C f) := pts_one ⟨fun pins s σ H Q I ⟨ar', c, q⟩ => (h ar' c).run pins s σ H Q I q⟩
def eYes : EF := fun S => some (.ok (.bl true), S)
theorem tt_nil {C : Fx → Prop} : PTs X [] (rdTX Γ C eYes) := ⟨fun pins s σ H Q I ⟨ar', c, q⟩ => pts_nil.run pins s σ H Q I (by
  obtain ⟨S, F, r, S', R, e, k⟩ := q
  cases e
  obtain ⟨b, eb, hb⟩ := k (.bl true) H F FE ⟨R, .bl true, fun _ _ z => z, fun _ z => z.elim, (Upd.refl H F).sub fun a z => z.elim id fun z => z.elim⟩
  cases eb
  exact hb)⟩
theorem free_ok {vs : List Nat} : (∀ v ∈ vs, freeAt ar vs v = none) ∧ ∀ (j : Nat) (v : V), freeAt ar vs j = some v → j ∉ vs ∧ ar j = some v := by
  refine ⟨fun v hv => if_pos hv, fun j v q => ?_⟩
  unfold freeAt at q
  by_cases hj : j ∈ vs
  · rw [if_pos hj] at q; cases q
  · rw [if_neg hj] at q; exact ⟨hj, q⟩
theorem lcE_ok {j : Nat} {vs : List Nat} {cond elt : EF} {C : Fx → Prop} (hj : j ∈ vs) (hC : C (freeAt ar vs)) {σ : St} {H : Hp} {Q : VK} (q : rdE Γ ar W (eLcE j vs fa cond elt) σ H Q) : tLc (iSeq Γ.K (rdE Γ ar W fa)) (gName j) (rdTX Γ C cond) (rdEX Γ C elt) vs σ H Q := by
  obtain ⟨S, F, r, S', R, ee, kk⟩ := q
  unfold eLcE at ee
  cases e1 : fa S with
  | none => rw [e1] at ee; cases ee
  | some o1 =>
    obtain ⟨r1, S1⟩ := o1
    rw [e1] at ee
    simp only [Option.bind_some] at ee
    cases r1 with
    | ex c => cases ee; exact .inl ⟨S, F, _, _, R, e1, kk⟩
    | ok t =>
      simp only at ee
      cases e2 : seqO t with
      | none => rw [e2] at ee; cases ee
      | some kt =>
        obtain ⟨k, ts⟩ := kt
        rw [e2] at ee
        simp only [Option.bind_some] at ee
        obtain ⟨rfl, hk, im⟩ := seqO_some e2
        unfold lcEnd at ee
        cases e3 : eLcFrom j vs cond elt ts S1 with
        | none => rw [e3] at ee; cases ee
        | some fin =>
          obtain ⟨rt, SN⟩ := fin
          rw [e3] at ee
          cases ee
          have main : ∀ v H' F' G, Own Γ ar H F σ S1 v (.nd k ts) H' F' G → ∃ a ws, v = .ref a ∧ SqX Γ.K H' k a ws ∧ CompR (gName j) (rdTX Γ C cond) (rdEX Γ C elt) vs σ Q (ItX Γ.K a k) H' := fun v H' F' G ow => by
            refine comp_core hj free_ok.1 (fun σ H Q z => ⟨_, hC, z⟩) (fun σ H Q z => ⟨_, hC, z⟩) ow.r hk ow.d im ow.rs free_ok.2 e3 fun t et w H2 F2 G2 R2 hw r2 d2 al2 u2 => ?_
            subst et
            exact kk w H2 F2 G2 ⟨(ow.rs.rest u2.imm (ow.rs.unwipe R2 hw) vs), r2, d2, al2, (ow.u.sub fun a z => .inl z).trans u2⟩
          cases k with
          | tup =>
            refine .inr ⟨S, F, _, _, R, e1, fun v H' F' G ow => ?_⟩
            obtain ⟨a, ws, ev, hq, lp⟩ := main v H' F' G ow
            exact ⟨a, ev, ⟨ws, hq⟩, lp⟩
          | lst =>
            refine .inl ⟨S, F, _, _, R, e1, fun v H' F' G ow => ?_⟩
            obtain ⟨a, ws, ev, hq, lp⟩ := main v H' F' G ow
            exact ⟨a, ev, ⟨ws, hq⟩, lp⟩
          | fz =>
            refine .inl ⟨S, F, _, _, R, e1, fun v H' F' G ow => ?_⟩
            obtain ⟨a, ws, ev, hq, lp⟩ := main v H' F' G ow
            exact ⟨a, ev, ⟨ws, hq⟩, lp⟩
          | dK _ => cases hk
          | dT _ => cases hk
          | obj _ _ => cases hk
/-- over what stands at a place of the name i -/
def eLcP (i j : Nat) (vs : List Nat) (pl : PF) (cond elt : EF) : EF := fun S => (pl S).bind fun ip => if ip.1 = i then (sl S i).bind fun t0 => (tAt ip.2 t0).bind fun u => (seqO u).bind fun kt => if u.im = true then lcEnd vs S (eLcFrom j vs cond elt kt.2 S)
  else (lcEnd vs (S.set i none) (eLcFrom j vs cond elt kt.2 (S.set i none))).bind fun x => some (x.1, x.2.set i (some t0)) else none
theorem lcP_ok {i j : Nat} {vs : List Nat} {cond elt : EF} {C : Fx → Prop} (hj : j ∈ vs) (hC : C (freeAt ar vs)) {σ : St} {H : Hp} {Q : VK} (q : rdE Γ ar W (eLcP i j vs pl cond elt) σ H Q) : tLc (iSeq Γ.K (rdP Γ ar pl)) (gName j) (rdTX Γ C cond) (rdEX Γ C elt) vs σ H Q := by
  obtain ⟨S, F, r, S', R, ee, kk⟩ := q
  unfold eLcP at ee
  cases q1 : pl S with
  | none => rw [q1] at ee; cases ee
  | some ip =>
    obtain ⟨i', p⟩ := ip
    rw [q1] at ee
    simp only [Option.bind_some] at ee
    by_cases hii : i' = i
    · subst hii
      rw [if_pos rfl] at ee
      cases q2 : sl S i' with
      | none => rw [q2] at ee; cases ee
      | some t0 =>
        rw [q2] at ee
        simp only [Option.bind_some] at ee
        cases q3 : tAt p t0 with
        | none => rw [q3] at ee; cases ee
        | some u =>
          rw [q3] at ee
          simp only [Option.bind_some] at ee
          cases q4 : seqO u with
          | none => rw [q4] at ee; cases ee
          | some kt =>
            obtain ⟨k, ts⟩ := kt
            rw [q4] at ee
            simp only [Option.bind_some] at ee
            obtain ⟨rfl, hk, im⟩ := seqO_some q4
            have main : ∀ v0 v H1, σ[i']? = some (some v0) → vAt H p v0 = some v → Same H H1 → ∃ a ws, v = .ref a ∧ SqX Γ.K H1 k a ws ∧ CompR (gName j) (rdTX Γ C cond) (rdEX Γ C elt) vs σ Q (ItX Γ.K a k) H1 := fun v0 v H1 h1 h2 s => by
              by_cases imu : (T.nd k ts).im = true
              · rw [if_pos imu] at ee
                unfold lcEnd at ee
                cases e3 : eLcFrom j vs cond elt ts S with
                | none => rw [e3] at ee; cases ee
                | some fin =>
                  obtain ⟨rt, SN⟩ := fin
                  rw [e3] at ee
                  cases ee
                  obtain ⟨v0', v', G0, ev, b1, b2⟩ := R.place q2 q3
                  have z0 : v0 = v0' := Option.some.inj (Option.some.inj (h1.symm.trans ev))
                  subst z0
                  have z1 : v = v' := Option.some.inj (h2.symm.trans b1)
                  subst z1
                  refine comp_core hj free_ok.1 (fun σ H Q z => ⟨_, hC, z⟩) (fun σ H Q z => ⟨_, hC, z⟩) ((b2.im imu FE).same s) hk (fun _ _ z => z) im (R.same s) free_ok.2 e3 fun t et w H2 F2 G2 R2 hw r2 d2 al2 u2 => ?_
                  subst et
                  exact kk w H2 F2 G2 ⟨((R.same s).rest u2.imm ((R.same s).unwipe R2 hw) vs), r2, d2, al2, (Upd.of_same s).trans u2⟩
              · rw [if_neg imu] at ee
                unfold lcEnd at ee
                cases e3 : eLcFrom j vs cond elt ts (S.set i' none) with
                | none => rw [e3] at ee; cases ee
                | some fin =>
                  obtain ⟨rt, SN⟩ := fin
                  rw [e3] at ee
                  cases ee
                  obtain ⟨w0, F1, Gi, ev0, rv, R1, d1, s1, s2⟩ := R.take (sl_some.mp q2)
                  have z0 : v0 = w0 := Option.some.inj (Option.some.inj (h1.symm.trans ev0))
                  subst z0
                  obtain ⟨v1, G, b1, b2, b3, _⟩ := VT.focus p rv q3
                  have z1 : v = v1 := Option.some.inj (h2.symm.trans b1)
                  subst z1
                  have Rs := R1.same s
                  refine comp_core hj free_ok.1 (fun σ H Q z => ⟨_, hC, z⟩) (fun σ H Q z => ⟨_, hC, z⟩) (b2.same s) hk (fun a f gg => d1 a f (b3 a gg)) im Rs free_ok.2 e3 fun t et w H2 F2 G2 R2 hw r2 d2 al2 u2 => ?_
                  subst et
                  have Rr := Rs.rest u2.imm (Rs.unwipe R2 hw) vs
                  have alG : ∀ a, Gi a → H1 a ≠ none := fun a gi => same_al s (R.al a (s2 a gi))
                  have djF : ∀ a, F2 a → Gi a → False := fun a f gi => (u2.new a (.inl f)).elim (fun z => d1 a z gi) (alG a gi)
                  have rv' := (rv.same s).ke u2.toKe fun a gi f => d1 a f gi
                  refine kk w H2 (FU F2 Gi) G2 ⟨Rr.give h1 rv' djF (fun a gi => u2.toKe.al (alG a gi) fun f => d1 a f gi), r2, fun a f gg => f.elim (fun f => d2 a f gg) fun f => (u2.new a (.inr gg)).elim (fun z => d1 a z f) (alG a f), al2, ?_⟩
                  exact (Upd.trans (F1 := FU F1 Gi) ⟨Ke.of_same F s, fun a z => .inl (z.elim (s1 a) (s2 a))⟩ u2.more).sub fun a z => z.elim (fun z => z.elim (fun z => .inl (.inl z)) .inr) fun z => .inl (.inr z)
            have fin : ∀ {J : Addr → It} {Z : Hp → Addr → Prop}, (∀ v0 v H1, σ[i']? = some (some v0) → vAt H p v0 = some v → Same H H1 → ∃ a, v = .ref a ∧ Z H1 a ∧ CompR (gName j) (rdTX Γ C cond) (rdEX Γ C elt) vs σ Q (J a) H1) →
                rdP Γ ar pl σ H fun x H1 => ∃ a, x = .ref a ∧ Z H1 a ∧ CompR (gName j) (rdTX Γ C cond) (rdEX Γ C elt) vs σ Q (J a) H1 := fun h => ⟨S, F, i', p, t0, _, R, q1, q2, q3, h⟩
            cases k with
            | tup => exact .inr (fin (J := fun a => Itt Γ.K a) (Z := fun H1 a => ∃ xs, SqT Γ.K H1 a xs) fun v0 v H1 h1 h2 s => let ⟨a, vs, e1, e2, e3⟩ := main v0 v H1 h1 h2 s; ⟨a, e1, ⟨vs, e2⟩, e3⟩)
            | lst => exact .inl (fin (J := fun a => Itl Γ.K a) (Z := fun H1 a => ∃ xs, SqL Γ.K H1 a xs) fun v0 v H1 h1 h2 s => let ⟨a, vs, e1, e2, e3⟩ := main v0 v H1 h1 h2 s; ⟨a, e1, ⟨vs, e2⟩, e3⟩)
            | fz => exact .inl (fin (J := fun a => Itl Γ.K a) (Z := fun H1 a => ∃ xs, SqL Γ.K H1 a xs) fun v0 v H1 h1 h2 s => let ⟨a, vs, e1, e2, e3⟩ := main v0 v H1 h1 h2 s; ⟨a, e1, ⟨vs, e2⟩, e3⟩)
            | dK _ => cases hk
            | dT _ => cases hk
            | obj _ _ => cases hk
    · rw [if_neg hii] at ee; cases ee
end
end VT
namespace VT
open PySem L2
section
variable {Γ : Gx} {ar : Fx} {W : WX} {X : Cx} {a b e o : Expr} {pos p apos cpos : Pos} {ga gb g : BF} {fa fb : EF} {es : List Expr} {pl : PF}
abbrev CT : Fx → Prop := fun _ => True
/-- over range(e) -/
def eLcR (j : Nat) (vs : List Nat) (f cond elt : EF) : EF := fun S => (f S).bind fun rx => match rx with
  | (.ex c, S1) => some (.ex c, S1)
  | (.ok (.int n), S1) => if 0 ≤ n ∧ n < 100000 then lcEnd vs S1 (eLcFrom j vs cond elt (rgT n) S1) else none
  | _ => none
theorem lcR_ok {j : Nat} {vs : List Nat} {cond elt : EF} {C : Fx → Prop} (hj : j ∈ vs) (hC : C (freeAt ar vs)) {σ : St} {H : Hp} {Q : VK} (q : rdE Γ ar W (eLcR j vs fa cond elt) σ H Q) : tLc (iRng1 (tCons (rdE Γ ar W fa) tNil)) (gName j) (rdTX Γ C cond) (rdEX Γ C elt) vs σ H Q := by
  obtain ⟨S, F, r, S', R, ee, kk⟩ := q
  unfold eLcR at ee
  cases e1 : fa S with
  | none => rw [e1] at ee; cases ee
  | some o1 =>
    rw [e1] at ee
    simp only [Option.bind_some] at ee
    split at ee
    · cases ee
      exact ⟨S, F, _, _, R, e1, kk⟩
    · rename_i n S1
      by_cases hn : 0 ≤ n ∧ n < 100000
      · rw [if_pos hn] at ee
        unfold lcEnd at ee
        cases e3 : eLcFrom j vs cond elt (rgT n) S1 with
        | none => rw [e3] at ee; cases ee
        | some fin0 =>
          obtain ⟨rt, SN⟩ := fin0
          rw [e3] at ee
          cases ee
          refine ⟨S, F, _, _, R, e1, fun v H1 F1 G ow => ?_⟩
          have u1 : Upd H H1 F F1 := ow.u.sub fun a z => .inl z
          have R1 := ow.rs
          have rv := ow.r
          generalize hnn : (T.int n) = tn at rv
          cases rv with
          | int i =>
            cases hnn
            refine ⟨n, rfl, by omega, by omega, fun Dl hD => ?_⟩
            unfold eLcFrom at e3
            by_cases hz : (rgT n).length < 100000
            · rw [if_pos hz] at e3
              cases e4 : runC j vs cond elt (rgT n) (wipeS S1 vs) [] with
              | none => rw [e4] at e3; cases e3
              | some fin =>
                rw [e4] at e3
                cases e3
                have hl : (rgT n).length = n.toNat := by simp [rgT]
                refine lc_range (lo := 0) (n := n.toNat) (Qd := fun H' => Q (.ref Dl) H') (fun i H' => ∃ S' F' tacc Ga, Acc Γ (freeAt ar vs) H1 F1 (wipe σ vs) Dl H' S' F' tacc Ga ∧ tacc.length ≤ i ∧ runC j vs cond elt ((rgT n).drop i) S' tacc = some fin) ⟨_, F1, [], FE, acc_start R1 hD free_ok.2, Nat.le_refl _, e4⟩ ?_ ?_
                · rintro i H' hi ⟨S', F', tacc, Ga, A, hta, e'⟩
                  have et : (rgT n)[i]? = some (.int (i : Int)) := by simp [rgT, hi]
                  rw [drop_get et] at e'
                  rw [Int.zero_add]
                  exact comp_turn hj (free_ok.1 j hj) free_ok.1 (fun σ H Q z => ⟨_, hC, z⟩) (fun σ H Q z => ⟨_, hC, z⟩) A (by omega) (.int (F := FE) (i : Int)) e' (fun H' => ∃ S' F' tacc Ga, Acc Γ (freeAt ar vs) H1 F1 (wipe σ vs) Dl H' S' F' tacc Ga ∧ tacc.length ≤ i + 1 ∧ runC j vs cond elt ((rgT n).drop (i + 1)) S' tacc = some fin)
                    fun H2 S2 F2 ta2 Ga2 A2 hl2 e2 => ⟨S2, F2, ta2, Ga2, A2, by omega, e2⟩
                · rintro H' ⟨S', F', tacc, Ga, A, _, e'⟩
                  rw [List.drop_eq_nil_of_le (by omega)] at e'
                  cases e'
                  obtain ⟨d1, d2, d3⟩ := A.done
                  have R3 := A.rs.wiped (ar' := freeAt ar vs) vs fun i w q => ⟨(free_ok.2 i w q).1, q⟩
                  have ww : wipe (wipe σ vs) vs = wipe σ vs := by
                    have hw := wipe_set (σ := wipe σ vs) (x := none) hj
                    apply List.ext_getElem?
                    intro i
                    by_cases hi : i ∈ vs
                    · by_cases hlt : i < σ.length
                      · have z : ∀ τ : St, τ.length = σ.length → (wipe τ vs)[i]? = some none := fun τ hτ => by
                          cases q : (wipe τ vs)[i]? with
                          | none => rw [List.getElem?_eq_none_iff, wipe_length] at q; omega
                          | some o =>
                            cases o with
                            | none => rfl
                            | some v => exact absurd hi (wipe_some q).2
                        rw [z _ (wipe_length σ vs), z σ rfl]
                      · rw [List.getElem?_eq_none (by rw [wipe_length, wipe_length]; omega), List.getElem?_eq_none (by rw [wipe_length]; omega)]
                    · rw [wipe_other hi]
                  rw [ww] at R3
                  exact kk _ H' F' _ ⟨(R1.rest A.up.imm (R1.unwipe R3 (wipeS_idem vs)) vs), d1, d2, d3, u1.trans A.up⟩
            · rw [if_neg hz] at e3; cases e3
          | nd => cases hnn
          | _ => cases hnn
      · rw [if_neg hn] at ee; cases ee
    · cases ee
section
variable {elt tg iter : Expr} {ifs : List Expr} {scope : Scope} {own : List (Str × Nat)} {cond el : EF} {j : Nat}
theorem e_lcP (i : Nat) (hc : X.calm = true) (hN : X.N.Nodup) (hi : PE X iter (rdP Γ ar pl)) (ok : BlkOk X.N X.env.scope scope own) (hg : ∀ (s : Shared) (H : Hp) (C : Addr) (cl : List (Str × Addr)) (fp : List Addr), PG (X.blk s H scope (compEnvC scope cl C X.env) fp) tg (gName j))
    (ht : ∀ (s : Shared) (H : Hp) (C : Addr) (cl : List (Str × Addr)) (fp : List Addr), PTs (X.blk s H scope (compEnvC scope cl C X.env) fp) ifs (rdTX Γ CT cond)) (he : ∀ (s : Shared) (H : Hp) (C : Addr) (cl : List (Str × Addr)) (fp : List Addr), PE (X.blk s H scope (compEnvC scope cl C X.env) fp) elt (rdEX Γ CT el))
    (hj : j ∈ own.map (·.2) := by decide) (hK : X.K = Γ.K := by rfl) (hs : ∀ x, foldedSetIterable iter X.env x = pure x := by intro _; rfl) : PE X (.ListComp elt [⟨tg, iter, ifs, 0⟩] scope pos) (rdE Γ ar W (eLcP i j (own.map (·.2)) pl cond el)) := by
  refine PE.imp (pe_lc hc hN (pi_seq hi) ok hg ht he hs) fun σ H Q q => ?_
  rw [hK]
  exact lcP_ok hj trivial q
theorem e_lcR {e1 : Expr} {p1 pos1 : Pos} (hc : X.calm = true) (hN : X.N.Nodup) (hm : X.mg "range" = none) (hi : PE X e1 (rdE Γ ar W fa)) (ok : BlkOk X.N X.env.scope scope own) (hg : ∀ (s : Shared) (H : Hp) (C : Addr) (cl : List (Str × Addr)) (fp : List Addr), PG (X.blk s H scope (compEnvC scope cl C X.env) fp) tg (gName j))
    (ht : ∀ (s : Shared) (H : Hp) (C : Addr) (cl : List (Str × Addr)) (fp : List Addr), PTs (X.blk s H scope (compEnvC scope cl C X.env) fp) ifs (rdTX Γ CT cond)) (he : ∀ (s : Shared) (H : Hp) (C : Addr) (cl : List (Str × Addr)) (fp : List Addr), PE (X.blk s H scope (compEnvC scope cl C X.env) fp) elt (rdEX Γ CT el))
    (hj : j ∈ own.map (·.2) := by decide) (hgl : Gl X "range" := by rfl) (hst : starEach [e1] X.env = (false, eval e1 X.env) :: starEach [] X.env := by rfl) (hs : ∀ x, foldedSetIterable (.Call (.Name "range" p1) [e1] [] pos1) X.env x = pure x := by intro _; rfl) :
    PE X (.ListComp elt [⟨tg, .Call (.Name "range" p1) [e1] [] pos1, ifs, 0⟩] scope pos) (rdE Γ ar W (eLcR j (own.map (·.2)) fa cond el)) :=
  PE.imp (pe_lc hc hN (pi_range1 hgl hm (pa_cons hi pa_nil hst) hst) ok hg ht he hs) fun σ H Q q => lcR_ok hj trivial q
/-- y = [..] -/
theorem s_lcE (i : Nat) {y : Str} {py spos : Pos} (hi' : ar i = none) (hc : X.calm = true) (hN : X.N.Nodup) (hsw : swapsWith (.ListComp elt [⟨tg, iter, ifs, 0⟩] scope pos) (some (.Name y py)) spos.line X.env = pure true) (hi : PE X iter (rdE Γ ar W fa)) (ok : BlkOk X.N X.env.scope scope own) (hg : ∀ (s : Shared) (H : Hp) (C : Addr) (cl : List (Str × Addr)) (fp : List Addr), PG (X.blk s H scope (compEnvC scope cl C X.env) fp) tg (gName j))
    (ht : ∀ (s : Shared) (H : Hp) (C : Addr) (cl : List (Str × Addr)) (fp : List Addr), PTs (X.blk s H scope (compEnvC scope cl C X.env) fp) ifs (rdTX Γ CT cond)) (he : ∀ (s : Shared) (H : Hp) (C : Addr) (cl : List (Str × Addr)) (fp : List Addr), PE (X.blk s H scope (compEnvC scope cl C X.env) fp) elt (rdEX Γ CT el))
    (hy : X.N[i]? = some y := by rfl) (hyl : X.env.scope.names.lookup y = some .local := by rfl) (hj : j ∈ own.map (·.2) := by decide) (hK : X.K = Γ.K := by rfl) (hs : ∀ x, foldedSetIterable iter X.env x = pure x := by intro _; rfl) :
    PS X (.Assign [.Name y py] (.ListComp elt [⟨tg, iter, ifs, 0⟩] scope pos) spos) (rdS Γ ar W (sSet i (eLcE j (own.map (·.2)) fa cond el))) := by
  refine PS.imp (ps_setLc hc hN hy hyl hsw (pi_seq hi) ok hg ht he hs) fun D σ H q => ?_
  rw [hK]
  exact lcE_ok hj trivial (set_ok hi' q)
theorem s_lcR (i : Nat) {y : Str} {e1 : Expr} {p1 pos1 py spos : Pos} (hi' : ar i = none) (hc : X.calm = true) (hN : X.N.Nodup) (hm : X.mg "range" = none) (hsw : swapsWith (.ListComp elt [⟨tg, .Call (.Name "range" p1) [e1] [] pos1, ifs, 0⟩] scope pos) (some (.Name y py)) spos.line X.env = pure true) (hi : PE X e1 (rdE Γ ar W fa)) (ok : BlkOk X.N X.env.scope scope own) (hg : ∀ (s : Shared) (H : Hp) (C : Addr) (cl : List (Str × Addr)) (fp : List Addr), PG (X.blk s H scope (compEnvC scope cl C X.env) fp) tg (gName j))
    (ht : ∀ (s : Shared) (H : Hp) (C : Addr) (cl : List (Str × Addr)) (fp : List Addr), PTs (X.blk s H scope (compEnvC scope cl C X.env) fp) ifs (rdTX Γ CT cond)) (he : ∀ (s : Shared) (H : Hp) (C : Addr) (cl : List (Str × Addr)) (fp : List Addr), PE (X.blk s H scope (compEnvC scope cl C X.env) fp) elt (rdEX Γ CT el))
    (hy : X.N[i]? = some y := by rfl) (hyl : X.env.scope.names.lookup y = some .local := by rfl) (hj : j ∈ own.map (·.2) := by decide) (hgl : Gl X "range" := by rfl) (hst : starEach [e1] X.env = (false, eval e1 X.env) :: starEach [] X.env := by rfl) (hs : ∀ x, foldedSetIterable (.Call (.Name "range" p1) [e1] [] pos1) X.env x = pure x := by intro _; rfl) :
    PS X (.Assign [.Name y py] (.ListComp elt [⟨tg, .Call (.Name "range" p1) [e1] [] pos1, ifs, 0⟩] scope pos) spos) (rdS Γ ar W (sSet i (eLcR j (own.map (·.2)) fa cond el))) :=
  PS.imp (ps_setLc hc hN hy hyl hsw (pi_range1 hgl hm (pa_cons hi pa_nil hst) hst) ok hg ht he hs) fun D σ H q => lcR_ok hj trivial (set_ok hi' q)
end
section
variable {r : List V → Hp → VK → Prop} {f : T → Option T} {x : Str} {id tn : String}
theorem nCallB (hf : UnT Γ (fun x => r [x]) f) (hc : CallR X (.builtin id) r) (hm : X.mg x = none) (hv : bootBuiltins x = some (.builtin id)) (ha : PE X e (rdB Γ ar ga)) (hg : Gl X x := by rfl) (hn : x ≠ "__name__" := by decide) (hdb : (x == ("__debug__" : Str)) = false := by decide) (he : starEach [e] X.env = (false, eval e X.env) :: starEach [] X.env := by rfl)
    (hpl : (backTo pos (starEach [] X.env)).any (·.1) = false := by rfl) : PE X (.Call (.Name x p) [e] [] pos) (rdN Γ ar (bUn f ga)) := PE.imp (pe_callB hc hg hm hv (pa_cons ha pa_nil he) hn hdb he hpl) fun σ H Q q => tUn_b hf σ H Q q
theorem nCallT (hf : UnT Γ (fun x => r [x]) f) (hc : CallR X (.type tn) r) (hm : X.mg x = none) (hv : bootBuiltins x = some (.type tn)) (ha : PE X e (rdB Γ ar ga)) (hg : Gl X x := by rfl) (hn : x ≠ "__name__" := by decide) (hdb : (x == ("__debug__" : Str)) = false := by decide) (he : starEach [e] X.env = (false, eval e X.env) :: starEach [] X.env := by rfl)
    (hpl : (backTo pos (starEach [] X.env)).any (·.1) = false := by rfl) : PE X (.Call (.Name x p) [e] [] pos) (rdN Γ ar (bUn f ga)) := PE.imp (pe_callTy hc hg hm hv (pa_cons ha pa_nil he) hn hdb he hpl) fun σ H Q q => tUn_b hf σ H Q q
theorem eCallT (hf : UnT Γ (fun x => r [x]) f) (hc : CallR X (.type tn) r) (hm : X.mg x = none) (hv : bootBuiltins x = some (.type tn)) (ha : PE X e (rdE Γ ar W fa)) (hg : Gl X x := by rfl) (hn : x ≠ "__name__" := by decide) (hdb : (x == ("__debug__" : Str)) = false := by decide) (he : starEach [e] X.env = (false, eval e X.env) :: starEach [] X.env := by rfl)
    (hpl : (backTo pos (starEach [] X.env)).any (·.1) = false := by rfl) : PE X (.Call (.Name x p) [e] [] pos) (rdE Γ ar W (eUn f fa)) := PE.imp (pe_callTy hc hg hm hv (pa_cons ha pa_nil he) hn hdb he hpl) fun σ H Q q => tUn_e hf σ H Q q
end
def lenT : T → Option T
  | .nd k ts => if isSq k = true then some (.int (ts.length : Int)) else none
  | .str z => if z.length ≤ 100000 then some (.int (z.length : Int)) else none
  | _ => none
theorem Rep.sq {H : Hp} {x : V} {k : Kd} {ts : List T} {G : FP} (h : Rep Γ H x (.nd k ts) G) (hk : isSq k = true) :
    ∃ a vs, x = .ref a ∧ (SqL Γ.K H a vs ∨ SqT Γ.K H a vs) ∧ vs.length = ts.length ∧ ∀ (i : Nat) (v : V) (t : T), vs[i]? = some v → ts[i]? = some t → Rep Γ H v t G := by
  cases k with
  | lst => obtain ⟨a, vs, e, q, hl, hc⟩ := h.list (.inl rfl); exact ⟨a, vs, e, .inl q, hl, hc⟩
  | fz => obtain ⟨a, vs, e, q, hl, hc⟩ := h.list (.inr rfl); exact ⟨a, vs, e, .inl q, hl, hc⟩
  | tup => obtain ⟨a, vs, e, q, hl, hc⟩ := h.tupl; exact ⟨a, vs, e, .inr q, hl, hc⟩
  | dK _ => cases hk
  | dT _ => cases hk
  | obj _ _ => cases hk
def rLenT (K : PySem.W.Frag) : List V → Hp → VK → Prop := fun xs H Q => (∃ p ys, xs = [.ref p] ∧ (SqL K H p ys ∨ SqT K H p ys) ∧ Q (.int ys.length) H) ∨ ∃ x n, xs = [x] ∧ LenV K x H n ∧ Q (.int n) H
theorem call_lenT : CallR X (.builtin "len") (rLenT X.K) := or_CallR call_len_seq call_len
theorem lenT_ok : UnT Γ (fun x => rLenT Γ.K [x]) lenT := by
  intro H x t1 t G1 Q r1 e k
  unfold lenT at e
  split at e
  · rename_i kd ts
    by_cases hk : isSq kd = true
    · rw [if_pos hk] at e
      cases e
      obtain ⟨a, vs, rfl, q, hl, _⟩ := r1.sq hk
      exact .inl ⟨a, vs, rfl, q, by rw [hl]; exact k _ H FE (Same.refl H) (.int _) new_FE⟩
    · rw [if_neg hk] at e; cases e
  · rename_i z
    by_cases hz : z.length ≤ 100000
    · rw [if_pos hz] at e
      cases e
      cases r1
      exact .inr ⟨_, z.length, rfl, ⟨sz5 hz, rfl⟩, k _ H FE (Same.refl H) (.int _) new_FE⟩
    · rw [if_neg hz] at e; cases e
  · cases e
theorem n_len (hm : X.mg "len" = none) (ha : PE X e (rdB Γ ar ga)) (hK : X.K = Γ.K := by rfl) (hg : Gl X "len" := by rfl) (he : starEach [e] X.env = (false, eval e X.env) :: starEach [] X.env := by rfl) : PE X (.Call (.Name "len" p) [e] [] pos) (rdN Γ ar (bUn lenT ga)) := nCallB lenT_ok (hK ▸ call_lenT) hm PySem.boot_len ha hg (he := he)
end
end VT
namespace VT
open PySem L2
section
variable {Γ : Gx} {ar : Fx} {W : WX} {X : Cx} {a b e o : Expr} {pos p apos cpos : Pos} {ga gb g : BF} {fa fb : EF} {es : List Expr} {pl : PF}
def intT : T → Option T
  | .int i => some (.int i)
  | .bl b => some (.int (if b then 1 else 0))
  | _ => none
theorem intT_ok : UnT Γ (fun x => (fun xs H Q => (∃ i, xs = [V.int i] ∧ Q (.int i) H) ∨ ∃ k, xs = [V.bl k] ∧ Q (.int (if k then 1 else 0)) H) [x]) intT := by
  intro H x t1 t G1 Q r1 e k
  unfold intT at e
  split at e
  · cases e; cases r1; exact .inl ⟨_, rfl, k _ H FE (Same.refl H) (.int _) new_FE⟩
  · cases e; cases r1; exact .inr ⟨_, rfl, k _ H FE (Same.refl H) (.int _) new_FE⟩
  · cases e
theorem n_intc (hm : X.mg "int" = none) (ha : PE X e (rdB Γ ar ga)) (hg : Gl X "int" := by rfl) (he : starEach [e] X.env = (false, eval e X.env) :: starEach [] X.env := by rfl) : PE X (.Call (.Name "int" p) [e] [] pos) (rdN Γ ar (bUn intT ga)) := nCallT intT_ok call_int1 hm PyProof.Rows.boot_int ha hg (he := he)
theorem e_intc (hm : X.mg "int" = none) (ha : PE X e (rdE Γ ar W fa)) (hg : Gl X "int" := by rfl) (he : starEach [e] X.env = (false, eval e X.env) :: starEach [] X.env := by rfl) : PE X (.Call (.Name "int" p) [e] [] pos) (rdE Γ ar W (eUn intT fa)) := eCallT intT_ok call_int1 hm PyProof.Rows.boot_int ha hg (he := he)
def minT : T → T → Option T
  | .int i, .int j => some (.int (if j < i then j else i))
  | _, _ => none
theorem minT_ok : OpT Γ (fun x y H Q => (fun xs H Q => ∃ i j, xs = [V.int i, V.int j] ∧ Q (.int (if j < i then j else i)) H) [x, y] H Q) minT := opT_int (C := fun _ _ => True) (gt := fun i j => .int (if j < i then j else i)) (fun i j H Q _ q => ⟨i, j, rfl, q⟩) (fun i j H => .int _) fun t1 t2 t e => by
  unfold minT at e
  split at e
  · cases e; exact ⟨_, _, rfl, rfl, trivial, rfl⟩
  · cases e
theorem n_min (hc : X.calm = true) (hm : X.mg "min" = none) (ha : PE X a (rdB Γ ar ga)) (hb : PE X b (rdB Γ ar gb)) (hg : Gl X "min" := by rfl) (he : starEach [a, b] X.env = (false, eval a X.env) :: starEach [b] X.env := by rfl) (he2 : starEach [b] X.env = (false, eval b X.env) :: starEach [] X.env := by rfl) (hpl : (backTo pos (starEach [b] X.env)).any (·.1) = false := by rfl) : PE X (.Call (.Name "min" p) [a, b] [] pos) (rdN Γ ar (bOp minT ga gb)) :=
  PE.imp (pe_callB (call_min2 hc) hg hm PyProof.Rows.boot_min (pa_cons ha (pa_cons hb pa_nil he2) he) (by decide) (by decide) he hpl) fun σ H Q q => tOp_b minT_ok σ H Q q
def tyN : T → Option String
  | .non => some "NoneType"
  | .bl _ => some "bool"
  | .int _ => some "int"
  | .str _ => some "str"
  | .nd .lst _ => some "list"
  | .nd .fz _ => some "list"
  | .nd .tup _ => some "tuple"
  | .nd (.dK _) _ => some "dict"
  | .nd (.dT _) _ => some "dict"
  | .nd (.obj _ _) _ => none
def isiB (a n : String) : Bool := a == n || (a == "bool" && n == "int")
def isiT (n : String) (t : T) : Option T := (tyN t).bind fun a => some (.bl (isiB a n))
theorem kitB_all : (["NoneType", "bool", "int", "str", "list", "tuple", "dict"].all fun a => ["int", "bool", "list", "tuple", "str"].all fun n => kitB a n == some (isiB a n)) = true := by decide +kernel
theorem Rep.tyN {H : Hp} {x : V} {t : T} {G : FP} {s : String} (h : Rep Γ H x t G) (e : VT.tyN t = some s) : TyX Γ.K H x (.type s) ∧ s ∈ ["NoneType", "bool", "int", "str", "list", "tuple", "dict"] := by
  cases h with
  | non => cases e; exact ⟨.base .non, by simp⟩
  | bl b => cases e; exact ⟨.base (.bl b), by simp⟩
  | int i => cases e; exact ⟨.base (.int i), by simp⟩
  | str x => cases e; exact ⟨.base (.str x), by simp⟩
  | @nd _ k a vs ts Fs hat _ _ _ _ _ =>
    cases k with
    | lst => cases e; exact ⟨.base (.lst hat), by simp⟩
    | tup => cases e; exact ⟨.base (.tup hat), by simp⟩
    | fz =>
      cases e
      refine ⟨?_, by simp⟩
      rcases hat with ⟨o, q⟩ | q
      · exact .base (.frz q)
      · rcases q (fun _ => none) with (z | ⟨o, z⟩) | ⟨o, its, n, z1, z2, _⟩
        · cases z
        · cases z
        · exact .kList z1 z2
    | dK ks => cases e; exact ⟨.base (.dK hat.2), by simp⟩
    | dT ks => cases e; exact ⟨.base (.dT hat.2), by simp⟩
    | obj c ns => cases e
theorem isiT_ok {n : String} (hn : n ∈ ["int", "bool", "list", "tuple", "str"]) : UnT Γ (fun x => rIsi Γ.K [x, .ty n]) (isiT n) := by
  intro H x t1 t G1 Q r1 e k
  unfold isiT at e
  cases e1 : tyN t1 with
  | none => rw [e1] at e; cases e
  | some s =>
    rw [e1] at e
    cases e
    obtain ⟨ty, hs⟩ := r1.tyN e1
    have kb : kitB s n = some (isiB s n) := by
      have h := List.all_eq_true.mp kitB_all s hs
      exact beq_iff_eq.mp (List.all_eq_true.mp h n hn)
    exact ⟨x, .ty n, _, _, _, rfl, .ty n, ty, kit_ty kb, k _ H FE (Same.refl H) (.bl _) new_FE⟩
theorem n_isi {n : String} {x : Str} {p1 : Pos} (hn : n ∈ ["int", "bool", "list", "tuple", "str"]) (hm : X.mg "isinstance" = none) (hmT : X.mg x = none) (hvT : bootBuiltins x = some (.type n)) (ha : PE X e (rdB Γ ar ga)) (hK : X.K = Γ.K := by rfl) (hg : Gl X "isinstance" := by rfl) (hgT : Gl X x := by rfl) (hnn : x ≠ "__name__" := by decide) (hdb : (x == ("__debug__" : Str)) = false := by decide)
    (he : starEach [e, .Name x p1] X.env = (false, eval e X.env) :: starEach [.Name x p1] X.env := by rfl) : PE X (.Call (.Name "isinstance" p) [e, .Name x p1] [] pos) (rdN Γ ar (bUn (isiT n) ga)) :=
  PE.imp (pe_callB (r := rIsi Γ.K) (hK ▸ call_isi) hg hm PyProof.Rows.boot_isinstance (pa_cons ha (pa_cons (pe_bltn (v := .ty n) hgT hmT hvT rfl hnn hdb) pa_nil) he) (by decide) (by decide) he) fun σ H Q q => tUn_b (isiT_ok hn) σ H Q q
def PLit (X : Cx) (e : Option Expr) (i : Option Int) : Prop := PO X e (fun _ H Q => Q i H)
theorem PO.imp {e : Option Expr} {t t' : TO} (h : PO X e t) (k : ∀ σ H Q, t' σ H Q → t σ H Q) : PO X e t' := ⟨fun pins s σ H Q I q => h.run pins s σ H Q I (k σ H Q q)⟩
theorem lit_none : PLit X none none := PO.imp po_none fun _ _ _ q => q
theorem lit_int {i : Int} {j pos} : PLit X (some (.Constant (.int i) j pos)) (some i) := PO.imp (po_some pe_int) fun _ _ _ q => ⟨i, rfl, q⟩
def cutT (ts : List T) (lo hi : Option Int) : List T := (ts.drop (HT.sIx ts.length 0 lo)).take (HT.sIx ts.length ts.length hi - HT.sIx ts.length 0 lo)
def slT (lo hi : Option Int) : T → Option T
  | .nd .tup ts => if T.imAll ts = true ∧ ¬ (HT.sIx ts.length 0 lo = 0 ∧ HT.sIx ts.length ts.length hi = ts.length) then some (.nd .tup (cutT ts lo hi)) else none
  | .nd .lst ts => if T.imAll ts = true then some (.nd .lst (cutT ts lo hi)) else none
  | .nd .fz ts => if T.imAll ts = true then some (.nd .lst (cutT ts lo hi)) else none
  | .str z => if z.length ≤ 100000 then some (.str (cutS z lo hi)) else none
  | _ => none
def rSlX (K : PySem.W.Frag) : V → Option Int → Option Int → Hp → VK → Prop := fun x lo hi H Q => rSlT K x lo hi H Q ∨ rSlL K x lo hi H Q ∨ rSlS x lo hi H Q
theorem SlR.or {r r' : V → Option Int → Option Int → Hp → VK → Prop} (h : SlR X r) (h' : SlR X r') : SlR X (fun x lo hi H Q => r x lo hi H Q ∨ r' x lo hi H Q) := by
  intro pins s σ H x v vl vu lo hi sl Q I rx hs pl pu q
  rcases q with q | q
  · exact h pins s σ H x v vl vu lo hi sl Q I rx hs pl pu q
  · exact h' pins s σ H x v vl vu lo hi sl Q I rx hs pl pu q
theorem sl_any : SlR X (rSlX X.K) := SlR.or sl_tup (SlR.or sl_list sl_str)
theorem cut_get {vs : List V} {ts : List T} {G : FP} {H : Hp} {lo hi : Option Int} (hl : vs.length = ts.length) (hc : ∀ (i : Nat) (v : V) (t : T), vs[i]? = some v → ts[i]? = some t → Rep Γ H v t G) : (cutV vs lo hi).length = (cutT ts lo hi).length ∧ ∀ (i : Nat) (v : V) (t : T), (cutV vs lo hi)[i]? = some v → (cutT ts lo hi)[i]? = some t → Rep Γ H v t G := by
  unfold cutV cutT
  rw [hl]
  refine ⟨by simp [hl], fun i v t q1 q2 => ?_⟩
  rw [List.getElem?_take] at q1 q2
  by_cases c : i < HT.sIx ts.length ts.length hi - HT.sIx ts.length 0 lo
  · rw [if_pos c, List.getElem?_drop] at q1 q2
    exact hc _ v t q1 q2
  · rw [if_neg c] at q1; cases q1
theorem cutT_im {ts : List T} {lo hi : Option Int} (h : T.imAll ts = true) : T.imAll (cutT ts lo hi) = true := imAll_mem.mpr fun t ht => imAll_mem.mp h t (List.mem_of_mem_drop (List.mem_of_mem_take ht))
theorem slT_ok {lo hi : Option Int} : UnT Γ (fun x H Q => rSlX Γ.K x lo hi H Q) (slT lo hi) := by
  intro H x t1 t G1 Q r1 e k
  unfold slT at e
  split at e
  · rename_i ts
    by_cases hc : T.imAll ts = true ∧ ¬ (HT.sIx ts.length 0 lo = 0 ∧ HT.sIx ts.length ts.length hi = ts.length)
    · rw [if_pos hc] at e
      cases e
      obtain ⟨a, vs, rfl, q, hl, hk⟩ := r1.tupl
      refine .inl ⟨a, vs, rfl, q, by rw [hl]; exact hc.2, fun p hp => ?_⟩
      obtain ⟨c1, c2⟩ := cut_get (lo := lo) (hi := hi) hl hk
      obtain ⟨s, r, n⟩ := new_tup (Γ := Γ) hp c1 c2 (cutT_im hc.1)
      exact k _ _ _ s r n
    · rw [if_neg hc] at e; cases e
  · rename_i ts
    by_cases hc : T.imAll ts = true
    · rw [if_pos hc] at e
      cases e
      obtain ⟨a, vs, rfl, q, hl, hk⟩ := r1.list (.inl rfl)
      refine .inr (.inl ⟨a, vs, rfl, q, fun p hp => ?_⟩)
      obtain ⟨c1, c2⟩ := cut_get (lo := lo) (hi := hi) hl hk
      obtain ⟨s, r, n⟩ := new_lst (Γ := Γ) hp c1 c2 (cutT_im hc)
      exact k _ _ _ s r n
    · rw [if_neg hc] at e; cases e
  · rename_i ts
    by_cases hc : T.imAll ts = true
    · rw [if_pos hc] at e
      cases e
      obtain ⟨a, vs, rfl, q, hl, hk⟩ := r1.list (.inr rfl)
      refine .inr (.inl ⟨a, vs, rfl, q, fun p hp => ?_⟩)
      obtain ⟨c1, c2⟩ := cut_get (lo := lo) (hi := hi) hl hk
      obtain ⟨s, r, n⟩ := new_lst (Γ := Γ) hp c1 c2 (cutT_im hc)
      exact k _ _ _ s r n
    · rw [if_neg hc] at e; cases e
  · rename_i z
    by_cases hz : z.length ≤ 100000
    · rw [if_pos hz] at e
      cases e
      cases r1
      exact .inr (.inr ⟨z, rfl, sz5 hz, k _ H FE (Same.refl H) (.str _) new_FE⟩)
    · rw [if_neg hz] at e; cases e
  · cases e
def setM (k : Int) : MuF
  | .nd .lst ts, [t] => (ixN ts.length k).bind fun j => some (.nd .lst (ts.set j t), .non)
  | _, _ => none
def rSetX (k : Int) : V → List V → Hp → VK → Prop := fun x vs H Q => ∃ y, vs = [y] ∧ rSetL x (.int k) y H fun H3 => Q .non H3
theorem ixN_lt {n : Nat} {i : Int} {j : Nat} (h : ixN n i = some j) : j < n := by
  unfold ixN at h
  split at h
  · split at h
    · cases h; omega
    · cases h
  · split at h
    · cases h; omega
    · cases h
theorem setM_ok {i : Int} : MutT Γ (rSetX i) (setM i) := by
  intro H x u us u' res G Gx Gs vs Q r hl hg hd hs dj e k
  unfold setM at e
  split at e
  · rename_i ts t
    cases e1 : ixN ts.length i with
    | none => rw [e1] at e; cases e
    | some j =>
      rw [e1] at e
      cases e
      cases r with
      | @nd _ _ a ws _ Fs hat hlw hm hc hdd hss =>
        have hat : H a = some (.lst ws) := hat
        have hlw : ws.length = ts.length := hlw
        have hj : j < ts.length := ixN_lt e1
        match vs, hl with
        | [y], _ =>
          have ry := hg 0 y _ rfl rfl
          have dj1 : ∀ a, G a → Gs 0 a → False := fun a g z => dj a g (hs 0 a z)
          refine ⟨y, rfl, a, ws, i, j, rfl, rfl, hat, by rw [hlw]; exact e1, ?_⟩
          refine k _ _ (fun x => x = a ∨ ∃ i, (fun m => if m = j then Gs 0 else Fs m) i x) FE (ke_upd hat (fun z => z) (hm rfl).1) (fun b z => ?_) (fun _ _ z => z) al_upd
            (node_upd hat (fun z => z) upd_same (by rw [List.length_set, List.length_set]; exact hlw) (set_kids hc ry hj hlw) (set_dj hdd hss dj1) fun i z => ?_) .non
          · rcases z with (z | ⟨i, z⟩) | z
            · rw [z]; exact .inl (hm rfl).1
            · by_cases c1 : i = j
              · simp only [if_pos c1] at z; exact .inr (hs 0 b z)
              · simp only [if_neg c1] at z; exact .inl (hss i b z)
            · exact z.elim
          · by_cases c1 : i = j
            · simp only [if_pos c1] at z; exact dj1 a (hm rfl).1 z
            · simp only [if_neg c1] at z; exact (hm rfl).2 i z
  · cases e
end
end VT
namespace VT
open PySem L2
section
variable {Γ : Gx} {ar : Fx} {W : WX} {X : Cx} {a b e o : Expr} {pos p apos cpos : Pos} {ga gb g : BF} {fa fb : EF} {es : List Expr} {pl : PF} {r : R2} {f : T → T → Option T}
theorem en_ok {σ : St} {H : Hp} {Q : VK} (q : rdE Γ ar W (eOfN g) σ H Q) : rdN Γ ar g σ H Q := by
  obtain ⟨S, F, r, S', R, e, k⟩ := q
  unfold eOfN at e
  cases e1 : g S with
  | none => rw [e1] at e; cases e
  | some t =>
    rw [e1] at e
    have e2 : (Rs.ok t, S) = (r, S') := Option.some.inj e
    cases e2
    exact ⟨S, F, t, R, e1, fun v H' G s r n => k v H' F G (own_new R s r n)⟩
theorem t_cmpN {op : CmpOp} (ho : OpR X (compareOp op) r) (hf : OpT Γ r f) (ha : PE X a (rdB Γ ar ga)) (hb : PE X b (rdB Γ ar gb)) (hm : behindInMarks op b = false) : PT X (.Compare a [op] [b] pos) (rdT Γ ar W (eOfN (bOp f ga gb))) :=
  PT.imp (pt_cmpR ho ha hb hm) fun σ H Q q => tOp_b hf σ H _ (en_ok q)
/-- the left with effects, the right read behind it -/
def eOpB (f : T → T → Option T) (fa : EF) (gb : BF) : EF := fun S => (fa S).bind fun rx => match rx with
  | (.ex c, S1) => some (.ex c, S1)
  | (.ok x, S1) => (gb S1).bind fun y => (f x y).bind fun z => some (.ok z, S1)
theorem tOp_eb (h : OpT Γ r f) {σ : St} {H : Hp} {Q : VK} (q : rdE Γ ar W (eOpB f fa gb) σ H Q) : tOp r (rdE Γ ar W fa) (rdB Γ ar gb) σ H Q := by
  obtain ⟨S, F, rr, S', R, e, k⟩ := q
  unfold eOpB at e
  cases e1 : fa S with
  | none => rw [e1] at e; cases e
  | some o1 =>
    obtain ⟨r1, S1⟩ := o1
    rw [e1] at e
    simp only [Option.bind_some] at e
    cases r1 with
    | ex c => cases e; exact ⟨S, F, .ex c, _, R, e1, k⟩
    | ok x =>
      simp only at e
      cases e2 : gb S1 with
      | none => rw [e2] at e; cases e
      | some y =>
        rw [e2] at e
        simp only [Option.bind_some] at e
        cases e3 : f x y with
        | none => rw [e3] at e; cases e
        | some z =>
          rw [e3] at e
          cases e
          refine ⟨S, F, .ok x, _, R, e1, fun v H1 F1 G1 o1 => ⟨_, F1, y, o1.rs, e2, fun w H2 G2 s2 r2 => ?_⟩⟩
          refine h H2 v w x y z G1 G2 Q (o1.r.same s2) r2 e3 fun v3 H3 G s3 r3 n => ?_
          exact k v3 H3 F1 G (own_after ((o1.same s2).u.sub fun a z => .inl z) (o1.rs.same s2) s3 r3 n)
/-- the left a name, the right with effects -/
def eOpV (f : T → T → Option T) (i : Nat) (fb : EF) : EF := fun S => (sl S i).bind fun _ => (fb S).bind fun rx => match rx with
  | (.ex c, S1) => some (.ex c, S1)
  | (.ok y, S1) => (sl S1 i).bind fun x => (f x y).bind fun z => some (.ok z, S1)
theorem tOp_ve {i : Nat} (h : OpT Γ r f) {σ : St} {H : Hp} {Q : VK} (q : rdE Γ ar W (eOpV f i fb) σ H Q) : tOp r (tVar i) (rdE Γ ar W fb) σ H Q := by
  obtain ⟨S, F, rr, S', R, e, k⟩ := q
  unfold eOpV at e
  cases e0 : sl S i with
  | none => rw [e0] at e; cases e
  | some t0 =>
    rw [e0] at e
    simp only [Option.bind_some] at e
    obtain ⟨v, ev, _⟩ := R.slot (sl_some.mp e0)
    refine ⟨v, ev, ?_⟩
    cases e1 : fb S with
    | none => rw [e1] at e; cases e
    | some o1 =>
      obtain ⟨r1, S1⟩ := o1
      rw [e1] at e
      simp only [Option.bind_some] at e
      cases r1 with
      | ex c => cases e; exact ⟨S, F, .ex c, _, R, e1, k⟩
      | ok y =>
        simp only at e
        cases e2 : sl S1 i with
        | none => rw [e2] at e; cases e
        | some x =>
          rw [e2] at e
          simp only [Option.bind_some] at e
          cases e3 : f x y with
          | none => rw [e3] at e; cases e
          | some z =>
            rw [e3] at e
            cases e
            refine ⟨S, F, .ok y, _, R, e1, fun w H1 F1 G1 o1 => ?_⟩
            obtain ⟨v', ev', rv⟩ := o1.rs.slot (sl_some.mp e2)
            have z0 : v = v' := Option.some.inj (Option.some.inj (ev.symm.trans ev'))
            subst z0
            exact h H1 v w x y z F1 G1 Q rv o1.r e3 fun v3 H3 G s3 r3 n => k v3 H3 F1 G (own_after (o1.u.sub fun a z => .inl z) o1.rs s3 r3 n)
theorem eCmpEB {op : CmpOp} (ho : OpR X (compareOp op) r) (hf : OpT Γ r f) (ha : PE X a (rdE Γ ar W fa)) (hb : PE X b (rdB Γ ar gb)) (hm : behindInMarks op b = false) : PE X (.Compare a [op] [b] pos) (rdE Γ ar W (eOpB f fa gb)) := PE.imp (pe_cmpR ho ha hb hm) fun _ _ _ q => tOp_eb hf q
section
variable {x : Str} {px : Pos}
theorem eIxVE (i : Nat) (hb : PE X b (rdE Γ ar W fb)) (hs : PlainIx b) (hK : X.K = Γ.K := by rfl) (hN : X.N[i]? = some x := by rfl) (hv : Vis X.env.scope x := by first | exact Or.inl rfl | exact Or.inr (Or.inl rfl) | exact Or.inr (Or.inr rfl)) (hd : (x == ("__debug__" : Str)) = false := by decide)
    (hcd : (x == ("__classdict__" : Str)) = false := by decide) : PE X (.Subscript (.Name x px) b pos) (rdE Γ ar W (eOpV ixT i fb)) := PE.imp (pe_ix (hK ▸ ix_seq) (pe_var hN hv hd hcd) hb hs) fun _ _ _ q => tOp_ve ixT_ok q
end
end
end VT
namespace VT
open PySem L2
theorem ob_some {α β : Type} {a : α} {f : α → Option β} : (some a).bind f = f a := rfl
def kEn (S : TSt) (t : T) : Option (Rs T × TSt) := some (.ok t, S)
def kOp2 (f : T → T → Option T) (x : T) : Rs T × TSt → Option (Rs T × TSt)
  | (.ex c, S2) => some (.ex c, S2)
  | (.ok y, S2) => (f x y).bind (kEn S2)
def kOp1 (f : T → T → Option T) (fb : EF) : Rs T × TSt → Option (Rs T × TSt)
  | (.ex c, S1) => some (.ex c, S1)
  | (.ok x, S1) => (fb S1).bind (kOp2 f x)
def kB1 (f : T → T → Option T) (x : T) (S : TSt) (y : T) : Option (Rs T × TSt) := (f x y).bind (kEn S)
def kOpB (f : T → T → Option T) (gb : BF) : Rs T × TSt → Option (Rs T × TSt)
  | (.ex c, S1) => some (.ex c, S1)
  | (.ok x, S1) => (gb S1).bind (kB1 f x S1)
def kV1 (f : T → T → Option T) (y : T) (S : TSt) (x : T) : Option (Rs T × TSt) := (f x y).bind (kEn S)
def kOpV (f : T → T → Option T) (i : Nat) : Rs T × TSt → Option (Rs T × TSt)
  | (.ex c, S1) => some (.ex c, S1)
  | (.ok y, S1) => (sl S1 i).bind (kV1 f y S1)
def kOpV0 (f : T → T → Option T) (i : Nat) (fb : EF) (S : TSt) (_ : T) : Option (Rs T × TSt) := (fb S).bind (kOpV f i)
def kUn (f : T → Option T) : Rs T × TSt → Option (Rs T × TSt)
  | (.ex c, S1) => some (.ex c, S1)
  | (.ok x, S1) => (f x).bind (kEn S1)
def kBop (f : T → T → Option T) (gb : BF) (S : TSt) (x : T) : Option T := (gb S).bind (f x)
def kAt (p : List Nat) (t : T) : Option T := tAt p t
def kPl (S : TSt) (ip : Nat × List Nat) : Option T := (sl S ip.1).bind (kAt ip.2)
def kSeq (u : SF) : Fl × TSt → Option (Fl × TSt)
  | (.nx, S1) => u S1
  | (fl, S1) => some (fl, S1)
def kSet (i : Nat) : Rs T × TSt → Option (Fl × TSt)
  | (.ex c, S1) => some (.ex c, S1)
  | (.ok t, S1) => some (.nx, S1.set i (some t))
def kRet : Rs T × TSt → Option (Fl × TSt)
  | (.ex c, S1) => some (.ex c, S1)
  | (.ok t, S1) => some (.rt t, S1)
def kIf (s u : SF) : Rs T × TSt → Option (Fl × TSt)
  | (.ex c, S1) => some (.ex c, S1)
  | (.ok (.bl true), S1) => s S1
  | (.ok (.bl false), S1) => u S1
  | _ => none
def kNot : Rs T × TSt → Option (Rs T × TSt)
  | (.ex c, S1) => some (.ex c, S1)
  | (.ok (.bl b), S1) => some (.ok (.bl (!b)), S1)
  | _ => none
def kAnd (fb : EF) : Rs T × TSt → Option (Rs T × TSt)
  | (.ex c, S1) => some (.ex c, S1)
  | (.ok (.bl true), S1) => fb S1
  | (.ok (.bl false), S1) => some (.ok (.bl false), S1)
  | _ => none
def kOr (fb : EF) : Rs T × TSt → Option (Rs T × TSt)
  | (.ex c, S1) => some (.ex c, S1)
  | (.ok (.bl false), S1) => fb S1
  | (.ok (.bl true), S1) => some (.ok (.bl true), S1)
  | _ => none
def kVar (S : TSt) (i : Nat) (t : T) : Option (Rs T × TSt) := if t.im = true then some (.ok t, S) else some (.ok t, S.set i none)
def kPV (i : Nat) (_ : T) : Option (Nat × List Nat) := some (i, [])
def kA2 (t : T) : Rs (List Arg) × TSt → Option (Rs (List Arg) × TSt)
  | (.ex c, S2) => some (.ex c, S2)
  | (.ok l, S2) => some (.ok (.val t :: l), S2)
def kA1 (fs : AF) : Rs T × TSt → Option (Rs (List Arg) × TSt)
  | (.ex c, S1) => some (.ex c, S1)
  | (.ok t, S1) => (fs S1).bind (kA2 t)
def kAr2 (x : Arg) : Rs (List Arg) × TSt → Option (Rs (List Arg) × TSt)
  | (.ex c, S2) => some (.ex c, S2)
  | (.ok l, S2) => some (.ok (x :: l), S2)
def kAr (fs : AF) (S : TSt) (x : Arg) : Option (Rs (List Arg) × TSt) := (fs S).bind (kAr2 x)
def kArg (i : Nat) (t : T) : Option Arg := if t.im = true then some (.val t) else some (.pth i [])
def kD2 (k : Kd) (S : TSt) (ts : List T) : Option (Rs T × TSt) := if ts.length ≤ 100000 then some (.ok (.nd k ts), S) else none
def kD1 (k : Kd) : Rs (List Arg) × TSt → Option (Rs T × TSt)
  | (.ex c, S1) => some (.ex c, S1)
  | (.ok l, S1) => (valsOf l).bind (kD2 k S1)
def kCall (m : MF) (n : Nat) : Rs (List Arg) × TSt → Option (Rs T × TSt)
  | (.ex c, S1) => some (.ex c, S1)
  | (.ok as, S1) => callR m n S1 as
def kC2 (n : Nat) (S : TSt) (as : List Arg) (rt : Rs T × List T) : Option (Rs T × TSt) := if rt.2.length = n then some (rt.1, putBack S as rt.2) else none
def kC1 (m : MF) (n : Nat) (S : TSt) (as : List Arg) (ts : List T) : Option (Rs T × TSt) := (m ts).bind (kC2 n S as)
def kBV2 (t : T) (l : List Arg) : Option (List Arg) := some (.val t :: l)
def kBV (gs : BAF) (S : TSt) (t : T) : Option (List Arg) := (gs S).bind (kBV2 t)
def kBR2 (x : Arg) (l : List Arg) : Option (List Arg) := some (x :: l)
def kBR (gs : BAF) (S : TSt) (x : Arg) : Option (List Arg) := (gs S).bind (kBR2 x)
def kNT2 (ts : List T) : Option T := gd (ts.length ≤ 100000 ∧ T.imAll ts = true) (.nd .tup ts)
def kNT (l : List Arg) : Option T := (valsOf l).bind kNT2
def kBody2 (fl : Fl) (ts' : List T) : Option (Rs T × List T) := match fl with
  | .nx => some (.ok .non, ts')
  | .rt t => some (.ok t, ts')
  | .ex c => some (.ex c, ts')
  | _ => none
def kBody (n : Nat) (rx : Fl × TSt) : Option (Rs T × List T) := (allSome (rx.2.take n)).bind (kBody2 rx.1)
section
variable {f : T → T → Option T} {f1 : T → Option T} {fa fb fc : EF} {ga gb g : BF} {S S1 : TSt} {i j n c : Nat} {s u : SF} {b : Bool} {t x y : T} {pl : PF} {fs : AF} {as : List Arg} {m : MF} {k : Kd} {gs : BAF} {ts : List T}
theorem eOp_q : eOp f fa fb S = (fa S).bind (kOp1 f fb) := rfl
theorem kOp1_ok : kOp1 f fb (.ok x, S) = (fb S).bind (kOp2 f x) := rfl
theorem kOp2_ok : kOp2 f x (.ok y, S) = (f x y).bind (kEn S) := rfl
theorem kEn_q : kEn S t = some (.ok t, S) := rfl
theorem eOpB_q : eOpB f fa gb S = (fa S).bind (kOpB f gb) := rfl
theorem kOpB_ok : kOpB f gb (.ok x, S) = (gb S).bind (kB1 f x S) := rfl
theorem kB1_q : kB1 f x S y = (f x y).bind (kEn S) := rfl
theorem eOpV_q : eOpV f i fb S = (sl S i).bind (kOpV0 f i fb S) := rfl
theorem kOpV0_q : kOpV0 f i fb S t = (fb S).bind (kOpV f i) := rfl
theorem kOpV_ok : kOpV f i (.ok y, S) = (sl S i).bind (kV1 f y S) := rfl
theorem kV1_q : kV1 f y S x = (f x y).bind (kEn S) := rfl
theorem eUn_q : eUn f1 fa S = (fa S).bind (kUn f1) := rfl
theorem kUn_ok : kUn f1 (.ok x, S) = (f1 x).bind (kEn S) := rfl
theorem eOfN_q : eOfN g S = (g S).bind (kEn S) := rfl
theorem bOp_q : bOp f ga gb S = (ga S).bind (kBop f gb S) := rfl
theorem kBop_q : kBop f gb S x = (gb S).bind (f x) := rfl
theorem bUn_q : bUn f1 ga S = (ga S).bind f1 := rfl
theorem bOfP_q : bOfP pl S = (pl S).bind (kPl S) := rfl
theorem kPl_q {p : List Nat} : kPl S (i, p) = (sl S i).bind (kAt p) := rfl
theorem kAt_q {p : List Nat} : kAt p t = tAt p t := rfl
theorem tAt_nil : tAt [] t = some t := rfl
theorem tAt_nd {p : List Nat} : tAt (i :: p) (.nd k ts) = if k.mu = true then ts[i]?.bind (kAt p) else none := rfl
theorem nC_q : nC t S = some t := rfl
theorem nOfB_q : nOfB g S = (g S).bind imO := rfl
theorem pVar_q : pVar i S = (sl S i).bind (kPV i) := rfl
theorem kPV_q : kPV i t = some (i, []) := rfl
theorem eVar_q : eVar i S = (sl S i).bind (kVar S i) := rfl
theorem kVar_q : kVar S i t = if t.im = true then some (.ok t, S) else some (.ok t, S.set i none) := rfl
theorem sSeq_q : sSeq s u S = (s S).bind (kSeq u) := rfl
theorem kSeq_nx : kSeq u (.nx, S) = u S := rfl
theorem kSeq_rt : kSeq u (.rt t, S) = some (.rt t, S) := rfl
theorem kSeq_ex : kSeq u (.ex c, S) = some (.ex c, S) := rfl
theorem kSeq_bk : kSeq u (.bk, S) = some (.bk, S) := rfl
theorem kSeq_ct : kSeq u (.ct, S) = some (.ct, S) := rfl
theorem sSet_q : sSet i fa S = (fa S).bind (kSet i) := rfl
theorem kSet_ok : kSet i (.ok t, S) = some (.nx, S.set i (some t)) := rfl
theorem sRet_q : sRet fa S = (fa S).bind kRet := rfl
theorem kRet_ok : kRet (.ok t, S) = some (.rt t, S) := rfl
theorem sNil_q : sNil S = some (.nx, S) := rfl
theorem sIf_q : sIf fa s u S = (fa S).bind (kIf s u) := rfl
theorem kIf_q : kIf s u (.ok (.bl b), S) = if b = true then s S else u S := by cases b <;> rfl
theorem eNot_q : eNot fa S = (fa S).bind kNot := rfl
theorem kNot_q : kNot (.ok (.bl b), S) = some (.ok (.bl (!b)), S) := rfl
theorem eAnd_q : eAnd fa fb S = (fa S).bind (kAnd fb) := rfl
theorem kAnd_q : kAnd fb (.ok (.bl b), S) = if b = true then fb S else some (.ok (.bl false), S) := by cases b <;> rfl
theorem eOr_q : eOr fa fb S = (fa S).bind (kOr fb) := rfl
theorem kOr_q : kOr fb (.ok (.bl b), S) = if b = true then some (.ok (.bl true), S) else fb S := by cases b <;> rfl
theorem aNil_q : aNil S = some (.ok [], S) := rfl
theorem aVal_q : aVal fa fs S = (fa S).bind (kA1 fs) := rfl
theorem kA1_ok : kA1 fs (.ok t, S) = (fs S).bind (kA2 t) := rfl
theorem kA2_ok : kA2 t (.ok as, S) = some (.ok (.val t :: as), S) := rfl
theorem aRef_q : aRef i fs S = (argOf S i).bind (kAr fs S) := rfl
theorem kAr_q {x : Arg} : kAr fs S x = (fs S).bind (kAr2 x) := rfl
theorem kAr2_ok {x : Arg} : kAr2 x (.ok as, S) = some (.ok (x :: as), S) := rfl
theorem argOf_q : argOf S i = (sl S i).bind (kArg i) := rfl
theorem kArg_q : kArg i t = if t.im = true then some (.val t) else some (.pth i []) := rfl
theorem eDisp_q : eDisp k fs S = (fs S).bind (kD1 k) := rfl
theorem kD1_ok : kD1 k (.ok as, S) = (valsOf as).bind (kD2 k S) := rfl
theorem kD2_q : kD2 k S ts = if ts.length ≤ 100000 then some (.ok (.nd k ts), S) else none := rfl
theorem valsOf_nil : valsOf [] = some [] := rfl
def kVl (t : T) (ts : List T) : Option (List T) := some (t :: ts)
theorem valsOf_val : valsOf (.val t :: as) = (valsOf as).bind (kVl t) := rfl
theorem kVl_q : kVl t ts = some (t :: ts) := rfl
theorem eCall_q : eCall m n fs S = (fs S).bind (kCall m n) := rfl
theorem kCall_ok : kCall m n (.ok as, S) = callR m n S as := rfl
theorem callR_q : callR m n S as = if as.length = n then (argTrees S as).bind (kC1 m n S as) else none := rfl
theorem kC1_q : kC1 m n S as ts = (m ts).bind (kC2 n S as) := rfl
theorem kC2_q {r : Rs T} : kC2 n S as (r, ts) = if ts.length = n then some (r, putBack S as ts) else none := rfl
theorem argT_nil : argTrees S [] = some [] := rfl
theorem argT_val : argTrees S (.val t :: as) = (argTrees S as).bind (kVl t) := rfl
def kAT2 (S : TSt) (i : Nat) (as : List Arg) (u : T) : Option (List T) := (argTrees (S.set i none) as).bind (kVl u)
def kAT1 (S : TSt) (i : Nat) (p : List Nat) (as : List Arg) (t : T) : Option (List T) := (tAt p t).bind (kAT2 S i as)
theorem argT_pth {p : List Nat} : argTrees S (.pth i p :: as) = (sl S i).bind (kAT1 S i p as) := rfl
theorem kAT1_q {p : List Nat} : kAT1 S i p as t = (tAt p t).bind (kAT2 S i as) := rfl
theorem kAT2_q : kAT2 S i as t = (argTrees (S.set i none) as).bind (kVl t) := rfl
theorem putB_nil : putBack S [] ts = S := rfl
theorem putB_val : putBack S (.val t :: as) ts = putBack S as ts.tail := rfl
theorem tPut_nil : tPut [] x y = y := rfl
theorem tPut_nd {p : List Nat} : tPut (i :: p) (.nd k ts) y = .nd k (ts.set i (tPut p (ts.getD i .non) y)) := rfl
theorem nTup_q : nTup gs S = (gs S).bind kNT := rfl
theorem kNT_q : kNT as = (valsOf as).bind kNT2 := rfl
theorem kNT2_q : kNT2 ts = gd (ts.length ≤ 100000 ∧ T.imAll ts = true) (.nd .tup ts) := rfl
theorem baNil_q : baNil S = some [] := rfl
theorem baVal_q : baVal g gs S = (g S).bind (kBV gs S) := rfl
theorem kBV_q : kBV gs S t = (gs S).bind (kBV2 t) := rfl
theorem kBV2_q : kBV2 t as = some (.val t :: as) := rfl
theorem baRef_q : baRef i gs S = (argOf S i).bind (kBR gs S) := rfl
theorem kBR_q {x : Arg} : kBR gs S x = (gs S).bind (kBR2 x) := rfl
theorem kBR2_q {x : Arg} : kBR2 x as = some (x :: as) := rfl
theorem mBody_q {N : Nat} : mBody n N s ts = if ts.length = n then (s (ts.map some ++ List.replicate (N - n) none)).bind (kBody n) else none := rfl
theorem kBody_q {fl : Fl} : kBody n (fl, S) = (allSome (S.take n)).bind (kBody2 fl) := rfl
theorem kBody2_nx : kBody2 .nx ts = some (.ok .non, ts) := rfl
theorem kBody2_rt : kBody2 (.rt t) ts = some (.ok t, ts) := rfl
theorem kBody2_ex : kBody2 (.ex c) ts = some (.ex c, ts) := rfl
theorem allS_nil : allSome [] = some [] := rfl
theorem allS_some : allSome (some t :: S) = (allSome S).bind (kVl t) := rfl
theorem imO_int {i : Int} : imO (.int i) = some (.int i) := rfl
theorem imO_str {x : Str} : imO (.str x) = some (.str x) := rfl
theorem imO_bl : imO (.bl b) = some (.bl b) := rfl
theorem imO_non : imO .non = some .non := rfl
theorem im_int {i : Int} : (T.int i).im = true := rfl
theorem im_str {x : Str} : (T.str x).im = true := rfl
theorem im_bl : (T.bl b).im = true := rfl
theorem im_non : T.non.im = true := rfl
theorem im_tup : (T.nd .tup ts).im = T.imAll ts := by simp [T.im]
theorem im_fz : (T.nd .fz ts).im = T.imAll ts := by simp [T.im]
theorem im_lst : (T.nd .lst ts).im = false := by simp [T.im]
theorem im_obj {ns : List Str} : (T.nd (.obj c ns) ts).im = false := by simp [T.im]
theorem imO_tup : imO (.nd .tup ts) = if T.imAll ts = true then some (.nd .tup ts) else none := by unfold imO; rw [im_tup]
theorem imAll_nil : T.imAll [] = true := by simp [T.imAll]
theorem imAll_cons : T.imAll (t :: ts) = (t.im && T.imAll ts) := by simp [T.imAll]
theorem mu_lst : Kd.lst.mu = true := rfl
theorem mu_obj {ns : List Str} : (Kd.obj c ns).mu = true := rfl
theorem gd_pos {c : Prop} [Decidable c] (h : c) : gd c t = some t := if_pos h
theorem gd_tr {h : Decidable True} : @gd True h t = some t := if_pos trivial
theorem subT_i {i j : Int} : subT (.int i) (.int j) = some (.int (i - j)) := rfl
theorem mulT_i {i j : Int} : mulT (.int i) (.int j) = gd ((-18446744073709551616 < i ∧ i < 18446744073709551616) ∨ (-18446744073709551616 < j ∧ j < 18446744073709551616)) (.int (i * j)) := rfl
theorem modT_i {i j : Int} : modT (.int i) (.int j) = gd (0 < j) (.int (i % j)) := rfl
theorem fdivT_i {i j : Int} : fdivT (.int i) (.int j) = gd (0 < j ∧ j < 1073741824) (.int (i / j)) := rfl
theorem powT_i {i j : Int} : powT (.int i) (.int j) = gd (0 ≤ j ∧ j ≤ 1000000 ∧ i.natAbs < 18446744073709551616) (.int (i ^ j.toNat)) := rfl
theorem ltT_i {i j : Int} : ltT (.int i) (.int j) = some (.bl (decide (i < j))) := rfl
theorem gtT_i {i j : Int} : gtT (.int i) (.int j) = some (.bl (decide (j < i))) := rfl
theorem minT_i {i j : Int} : minT (.int i) (.int j) = some (.int (if j < i then j else i)) := rfl
theorem ixT_lst {i : Int} : ixT (.nd .lst ts) (.int i) = (atI ts i).bind imO := rfl
theorem ixT_fz {i : Int} : ixT (.nd .fz ts) (.int i) = (atI ts i).bind imO := rfl
theorem ixT_tup {i : Int} : ixT (.nd .tup ts) (.int i) = (atI ts i).bind imO := rfl
theorem lenT_lst : lenT (.nd .lst ts) = some (.int (ts.length : Int)) := rfl
theorem lenT_fz : lenT (.nd .fz ts) = some (.int (ts.length : Int)) := rfl
theorem lenT_tup : lenT (.nd .tup ts) = some (.int (ts.length : Int)) := rfl
theorem isN_non : T.non.isN = true := rfl
theorem isN_int {i : Int} : (T.int i).isN = false := rfl
theorem isN_nd : (T.nd k ts).isN = false := rfl
theorem isN_str {x : Str} : (T.str x).isN = false := rfl
variable {mu : MuF} {p : List Nat} {t0 : T}
def kSM (ts : List T) (t : T) (j : Nat) : Option (T × T) := some (.nd .lst (ts.set j t), .non)
theorem setM_q {k : Int} : setM k (.nd .lst ts) [t] = (ixN ts.length k).bind (kSM ts t) := rfl
theorem kSM_q : kSM ts t j = some (.nd .lst (ts.set j t), .non) := rfl
end
end VT
namespace VT
open PySem L2
section
variable {f : T → T → Option T} {f1 : T → Option T} {fa fb fc : EF} {ga gb g : BF} {S S1 : TSt} {i j n c : Nat} {s u : SF} {b : Bool} {t x y : T} {pl : PF} {fs : AF} {as : List Arg} {m : MF} {k : Kd} {gs : BAF} {ts : List T} {p : List Nat} {ct : Nat → List Str} {fl : Str} {ns : List Str} {tf : GF} {body : SF} {mu : MuF}
def kF4 (i : Nat) (p : List Nat) (j : Nat) : Option (Nat × List Nat) := some (i, p ++ [j])
theorem kF4_q : kF4 i p j = some (i, p ++ [j]) := rfl
variable {me : Str}
def kPB (o : Option T) (R : TSt) (i : Nat) (p : List Nat) (y : T) : TSt := match o with
  | some x => R.set i (some (tPut p x y))
  | none => R
theorem putB_q : putBack S (.pth i p :: as) (y :: ts) = kPB (sl S i) (putBack (S.set i none) as ts) i p y := by
  conv => lhs; unfold putBack
  cases sl S i <;> rfl
theorem kPB_q : kPB (some x) S i p y = S.set i (some (tPut p x y)) := rfl
def kFR (tf : GF) (body : SF) : Rs T × TSt → Option (Fl × TSt)
  | (.ex c, S1) => some (.ex c, S1)
  | (.ok (.int n), S1) => if 0 ≤ n ∧ n < 100000 then runL tf body (rgT n) S1 else none
  | _ => none
theorem sForR_q : sForR tf fa body S = (fa S).bind (kFR tf body) := rfl
theorem kFR_q {q : Int} : kFR tf body (.ok (.int q), S) = if 0 ≤ q ∧ q < 100000 then runL tf body (rgT q) S else none := rfl
def kFE2 (tf : GF) (body : SF) (S : TSt) (kt : Kd × List T) : Option (Fl × TSt) := runL tf body kt.2 S
def kFE (tf : GF) (body : SF) : Rs T × TSt → Option (Fl × TSt)
  | (.ex c, S1) => some (.ex c, S1)
  | (.ok t, S1) => (seqO t).bind (kFE2 tf body S1)
theorem sForE_q : sForE tf fa body S = (fa S).bind (kFE tf body) := rfl
theorem kFE_q : kFE tf body (.ok t, S) = (seqO t).bind (kFE2 tf body S) := rfl
theorem kFE2_q : kFE2 tf body S (k, ts) = runL tf body ts S := rfl
theorem seqO_lst : seqO (.nd .lst ts) = if T.imAll ts = true then some (.lst, ts) else none := by simp [seqO, isSq]
theorem seqO_fz : seqO (.nd .fz ts) = if T.imAll ts = true then some (.fz, ts) else none := by simp [seqO, isSq]
theorem seqO_tup : seqO (.nd .tup ts) = if T.imAll ts = true then some (.tup, ts) else none := by simp [seqO, isSq]
end
end VT
namespace VT
open PySem L2
mutual
def plT : Nat → T → Bool
  | _, .non => true
  | _, .int _ => true
  | _, .str x => PyData.strOk x
  | d + 1, .nd .tup ts => plAll d ts
  | d + 1, .nd .lst ts => plAll d ts
  | _, _ => false
def plAll : Nat → List T → Bool
  | _, [] => true
  | d, t :: ts => plT d t && plAll d ts
end
theorem pl0 {k : Kd} {us : List T} : plT 0 (.nd k us) = false := by cases k <;> rfl
theorem plAll_iff {d : Nat} : ∀ {ts : List T}, plAll d ts = true ↔ ∀ t ∈ ts, plT d t = true
  | [] => by simp [plAll]
  | t :: ts => by simp [plAll, plAll_iff (ts := ts)]
mutual
theorem pl_lay : ∀ {d : Nat} {t : T}, plT d t = true → (dat t).canLay0 = true ∧ (dat t).depth ≤ d
  | _, .non, _ => by simp [dat, PyData.canLay0, PyData.depth]
  | _, .int _, _ => by simp [dat, PyData.canLay0, PyData.depth]
  | _, .str x, h => by simp [plT] at h; simp [dat, PyData.canLay0, PyData.depth, h]
  | d + 1, .nd .tup ts, h => by
    rw [plT] at h
    obtain ⟨h1, h2⟩ := plAll_lay h
    simp [dat, PyData.canLay0, PyData.depth, h1, h2]
  | d + 1, .nd .lst ts, h => by
    rw [plT] at h
    obtain ⟨h1, h2⟩ := plAll_lay h
    simp [dat, PyData.canLay0, PyData.depth, h1, h2]
theorem plAll_lay : ∀ {d : Nat} {ts : List T}, plAll d ts = true → PyData.canLayAll0 (datAll ts) = true ∧ PyData.depthAll (datAll ts) ≤ d
  | _, [], _ => by simp [datAll, PyData.canLayAll0, PyData.depthAll]
  | d, t :: ts, h => by
    rw [plAll, Bool.and_eq_true] at h
    obtain ⟨a1, a2⟩ := pl_lay h.1
    obtain ⟨b1, b2⟩ := plAll_lay h.2
    simp [datAll, PyData.canLayAll0, PyData.depthAll, a1, b1]
    omega
end
theorem pl_sh {d : Nat} {t : T} (h : plT d t = true) (hd : d ≤ 64) : shT t = true := by
  obtain ⟨a, b⟩ := pl_lay h
  unfold shT SeqAt.shaped
  rw [a, Bool.true_and]
  exact decide_eq_true (by omega)
mutual
theorem pl_eqX : ∀ (d e : Nat) (t u : T), plT d t = true → plT e u = true → (PyData.eqv (dat t) (dat u) = true ↔ t = u)
  | _, _, .non, u, h, g => by
    cases u with
    | nd k us => cases k <;> simp [dat, PyData.eqv]
    | _ => simp [dat, PyData.eqv] <;> simp [plT] at g
  | _, _, .int i, u, h, g => by
    cases u with
    | nd k us => cases k <;> simp [dat, PyData.eqv]
    | bl b => simp [plT] at g
    | _ => simp [dat, PyData.eqv]
  | _, _, .str x, u, h, g => by
    cases u with
    | nd k us => cases k <;> simp [dat, PyData.eqv]
    | bl b => simp [plT] at g
    | _ => simp [dat, PyData.eqv]
  | d + 1, e, .nd .tup ts, u, h, g => by
    cases u with
    | nd k us =>
      cases e with
      | zero => rw [pl0] at g; cases g
      | succ e =>
        cases k with
        | tup =>
          rw [plT] at h g
          have := plAll_eqX _ _ ts us h g
          simp [dat, PyData.eqv, this]
        | lst => simp [dat, PyData.eqv]
        | _ => simp [plT] at g
    | bl b => simp [plT] at g
    | _ => simp [dat, PyData.eqv]
  | d + 1, e, .nd .lst ts, u, h, g => by
    cases u with
    | nd k us =>
      cases e with
      | zero => rw [pl0] at g; cases g
      | succ e =>
        cases k with
        | lst =>
          rw [plT] at h g
          have := plAll_eqX _ _ ts us h g
          simp [dat, PyData.eqv, this]
        | tup => simp [dat, PyData.eqv]
        | _ => simp [plT] at g
    | bl b => simp [plT] at g
    | _ => simp [dat, PyData.eqv]
termination_by _ _ t => sizeOf t
theorem plAll_eqX : ∀ (d e : Nat) (ts us : List T), plAll d ts = true → plAll e us = true → (PyData.eqvAll (datAll ts) (datAll us) = true ↔ ts = us)
  | _, _, [], [], _, _ => by simp [datAll, PyData.eqvAll]
  | _, _, [], _ :: _, _, _ => by simp [datAll, PyData.eqvAll]
  | _, _, _ :: _, [], _, _ => by simp [datAll, PyData.eqvAll]
  | d, e, t :: ts, u :: us, h, g => by
    rw [plAll, Bool.and_eq_true] at h g
    have a := pl_eqX _ _ t u h.1 g.1
    have b := plAll_eqX _ _ ts us h.2 g.2
    simp [datAll, PyData.eqvAll, a, b]
termination_by _ _ ts => sizeOf ts
end
theorem pl_eq {d e : Nat} {t u : T} (h : plT d t = true) (g : plT e u = true) : (PyData.eqv (dat t) (dat u) = true ↔ t = u) := pl_eqX d e t u h g
def teq (a b : T) : Bool := PyData.eqv (dat a) (dat b)
theorem teq_iff {d e : Nat} {a b : T} (h : plT d a = true) (g : plT e b = true) : teq a b = true ↔ a = b := pl_eq h g
theorem teq_self {d : Nat} {a : T} (h : plT d a = true) : teq a a = true := (pl_eq h h).2 rfl
theorem teq_int {a b : Int} : teq (.int a) (.int b) = decide (a = b) := by simp [teq, dat, PyData.eqv]; rfl
theorem teq_str {a b : Str} : teq (.str a) (.str b) = (a == b) := by simp [teq, dat, PyData.eqv]
theorem teq_non : teq .non .non = true := by simp [teq, dat, PyData.eqv]
theorem teq_tnil : teq (.nd .tup []) (.nd .tup []) = true := by simp [teq, dat, datAll, PyData.eqv, PyData.eqvAll]
theorem teq_tcons {a b : T} {as bs : List T} : teq (.nd .tup (a :: as)) (.nd .tup (b :: bs)) = (teq a b && teq (.nd .tup as) (.nd .tup bs)) := by simp [teq, dat, datAll, PyData.eqv, PyData.eqvAll]
theorem eqT_pl {a b : T} (h : plT 8 a = true) (g : plT 8 b = true) : eqT a b = some (.bl (teq a b)) := gd_pos ⟨pl_sh h (by decide), pl_sh g (by decide)⟩
theorem neT_pl {a b : T} (h : plT 8 a = true) (g : plT 8 b = true) : neT a b = some (.bl (!teq a b)) := gd_pos ⟨pl_sh h (by decide), pl_sh g (by decide)⟩
theorem eqT_ii {a b : Int} : eqT (.int a) (.int b) = some (.bl (decide (a = b))) := by rw [eqT_pl rfl rfl, teq_int]
theorem neT_ii {a b : Int} : neT (.int a) (.int b) = some (.bl (!decide (a = b))) := by rw [neT_pl rfl rfl, teq_int]
theorem pl_map {α : Type} {g : α → T} {d : Nat} (h : ∀ a, plT d (g a) = true) (l : List α) : plAll d (l.map g) = true := plAll_iff.mpr fun t ht => by
  obtain ⟨a, _, rfl⟩ := List.mem_map.mp ht
  exact h a
theorem pl_ints {d : Nat} (l : List Int) : plAll d (l.map T.int) = true := pl_map (fun _ => by cases d <;> rfl) l
theorem im_map {α : Type} {g : α → T} (h : ∀ a, (g a).im = true) (l : List α) : T.imAll (l.map g) = true := imAll_mem.mpr fun t ht => by
  obtain ⟨a, _, rfl⟩ := List.mem_map.mp ht
  exact h a
theorem im_ints (l : List Int) : T.imAll (l.map T.int) = true := im_map (fun _ => rfl) l
theorem inT_ints {i : Int} {l : List Int} : inT (.int i) (.nd .lst (l.map .int)) = some (.bl (l.contains i)) := by
  unfold inT inO
  simp only
  have e1 : shT (.int i) = true := pl_sh (d := 0) rfl (by decide)
  have e2 : shT (.nd .lst (l.map .int)) = true := pl_sh (d := 1) (by rw [plT]; exact pl_ints l) (by decide)
  rw [if_pos ⟨e1, e2⟩]
  show some (T.bl _) = _
  congr 2
  unfold inB
  rw [List.any_map]
  induction l with
  | nil => rfl
  | cons a l ih =>
    rw [List.any_cons, List.contains_cons, ih (pl_sh (d := 1) (by rw [plT]; exact pl_ints l) (by decide))]
    congr 1
    show PyData.eqv (dat (.int a)) (dat (.int i)) = _
    simp [dat, PyData.eqv]
    by_cases h : a = i
    · simp [h]
    · have h' : (i == a) = false := by simpa using Ne.symm h
      simpa [h'] using h
section
variable {tf : GF} {body : SF} {S : TSt} {ts : List T} {t : T} {i : Nat} {fl : Fl}
def kL2 (tf : GF) (body : SF) (ts : List T) : Fl × TSt → Option (Fl × TSt)
  | (.nx, S2) => runL tf body ts S2
  | (.ct, S2) => runL tf body ts S2
  | (.bk, S2) => some (.nx, S2)
  | (fl, S2) => some (fl, S2)
def kL1 (tf : GF) (body : SF) (ts : List T) (S1 : TSt) : Option (Fl × TSt) := (body S1).bind (kL2 tf body ts)
theorem runL_nil : runL tf body [] S = some (.nx, S) := rfl
theorem runL_cons : runL tf body (t :: ts) S = (tf t S).bind (kL1 tf body ts) := rfl
theorem kL1_q : kL1 tf body ts S = (body S).bind (kL2 tf body ts) := rfl
theorem kL2_nx : kL2 tf body ts (.nx, S) = runL tf body ts S := rfl
theorem kL2_ct : kL2 tf body ts (.ct, S) = runL tf body ts S := rfl
theorem kL2_bk : kL2 tf body ts (.bk, S) = some (.nx, S) := rfl
theorem kL2_rt : kL2 tf body ts (.rt t, S) = some (.rt t, S) := rfl
theorem tgN_q : tgN i t S = if t.im = true then some (S.set i (some t)) else none := rfl
theorem runL_inv {I : Nat → TSt → Prop} : ∀ (ts : List T) (S : TSt), I ts.length S → (∀ n t S, t ∈ ts → I (n + 1) S → ∃ S1 S2, tf t S = some S1 ∧ body S1 = some (.nx, S2) ∧ I n S2) → ∃ S', runL tf body ts S = some (.nx, S') ∧ I 0 S'
  | [], S, h, _ => ⟨S, rfl, h⟩
  | t :: ts, S, h, k => by
    obtain ⟨S1, S2, e1, e2, h2⟩ := k ts.length t S List.mem_cons_self h
    obtain ⟨S', e3, h3⟩ := runL_inv (I := I) ts S2 h2 fun n u S hu => k n u S (List.mem_cons_of_mem _ hu)
    exact ⟨S', by rw [runL_cons, e1, Option.bind_some, kL1_q, e2, Option.bind_some, kL2_nx, e3], h3⟩
variable {j : Nat} {vs : List Nat} {cond elt fa : EF} {pl : PF} {p : List Nat} {u : T} {k : Kd}
def kLc (vs : List Nat) (r : List T × TSt) : Option (Rs T × TSt) := some (.ok (.nd .lst r.1), wipeS r.2 vs)
theorem lcFrom_q : eLcFrom j vs cond elt ts S = if ts.length < 100000 then (runC j vs cond elt ts (wipeS S vs) []).bind (kLc vs) else none := rfl
theorem kLc_q : kLc vs (ts, S) = some (.ok (.nd .lst ts), wipeS S vs) := rfl
def kLcE (S : TSt) (vs : List Nat) (x : Rs T × TSt) : Option (Rs T × TSt) := some (x.1, restS S x.2 vs)
theorem lcEnd_q {o : Option (Rs T × TSt)} : lcEnd vs S o = o.bind (kLcE S vs) := rfl
theorem kLcE_q {r : Rs T} {S' : TSt} : kLcE S vs (r, S') = some (r, restS S S' vs) := rfl
def kLP5 (i : Nat) (t0 : T) (x : Rs T × TSt) : Option (Rs T × TSt) := some (x.1, x.2.set i (some t0))
def kLcP3 (i j : Nat) (vs : List Nat) (cond elt : EF) (S : TSt) (t0 u : T) (kt : Kd × List T) : Option (Rs T × TSt) := if u.im = true then lcEnd vs S (eLcFrom j vs cond elt kt.2 S)
  else (lcEnd vs (S.set i none) (eLcFrom j vs cond elt kt.2 (S.set i none))).bind (kLP5 i t0)
def kLcP2 (i j : Nat) (vs : List Nat) (cond elt : EF) (S : TSt) (t0 u : T) : Option (Rs T × TSt) := (seqO u).bind (kLcP3 i j vs cond elt S t0 u)
def kLcP1 (i j : Nat) (vs : List Nat) (cond elt : EF) (S : TSt) (p : List Nat) (t0 : T) : Option (Rs T × TSt) := (tAt p t0).bind (kLcP2 i j vs cond elt S t0)
def kLcP (i j : Nat) (vs : List Nat) (cond elt : EF) (S : TSt) (ip : Nat × List Nat) : Option (Rs T × TSt) := if ip.1 = i then (sl S i).bind (kLcP1 i j vs cond elt S ip.2) else none
theorem eLcP_q : eLcP i j vs pl cond elt S = (pl S).bind (kLcP i j vs cond elt S) := rfl
theorem kLcP_q {i' : Nat} : kLcP i j vs cond elt S (i', p) = if i' = i then (sl S i).bind (kLcP1 i j vs cond elt S p) else none := rfl
theorem kLcP1_q : kLcP1 i j vs cond elt S p t = (tAt p t).bind (kLcP2 i j vs cond elt S t) := rfl
theorem kLcP2_q : kLcP2 i j vs cond elt S t u = (seqO u).bind (kLcP3 i j vs cond elt S t u) := rfl
theorem kLcP3_q : kLcP3 i j vs cond elt S t u (k, ts) = if u.im = true then lcEnd vs S (eLcFrom j vs cond elt ts S) else (lcEnd vs (S.set i none) (eLcFrom j vs cond elt ts (S.set i none))).bind (kLP5 i t) := rfl
theorem kLP5_q {r : Rs T} : kLP5 i t (r, S) = some (r, S.set i (some t)) := rfl
theorem wipeS_nil : wipeS S [] = S := rfl
theorem wipeS_cons : wipeS S (i :: vs) = (wipeS S vs).set i none := rfl
def kRs (R : TSt) (v : Nat) : Option T → TSt
  | some t => if t.im = true then R.set v (some t) else R
  | none => R
theorem restS_nil {S' : TSt} : restS S S' [] = S' := rfl
theorem restS_cons {S' : TSt} : restS S S' (i :: vs) = kRs (restS S S' vs) i (sl S i) := by
  conv => lhs; unfold restS
  cases sl S i <;> rfl
theorem kRs_n : kRs S i none = S := rfl
theorem kRs_s : kRs S i (some t) = if t.im = true then S.set i (some t) else S := rfl
theorem isi_ii {i : Int} : isiT "int" (.int i) = some (.bl true) := rfl
theorem isi_ib {i : Int} : isiT "bool" (.int i) = some (.bl false) := rfl
theorem isi_ll : isiT "list" (.nd .lst ts) = some (.bl true) := rfl
end
def spL (n : Nat) (K : PySem.W.Frag) : Sp := fun vs H Q _ => ∃ (a : Addr) (ns : List Int), vs = [.ref a] ∧ ns.length ≤ n ∧ Only H ∧ SqL K H a (ns.map V.int) ∧ ∀ H', Q (.bl true) H'
theorem spL_sp {Γ : Gx} {m : MF} {n : Nat} (h : ∀ ns : List Int, ns.length ≤ n → ∃ ts', m [.nd .fz (ns.map T.int)] = some (.ok (.bl true), ts')) {vs : List V} {H : Hp} {Q : VK} {E : XK} (q : spL n Γ.K vs H Q E) :
    spT Γ 1 m vs H Q E := by
  obtain ⟨a, ns, rfl, hl, hO, hS, k⟩ := q
  obtain ⟨ts', e⟩ := h ns hl
  have R0 : RoL Γ.K H a (ns.map V.int) := by
    rcases hS with hS | hS
    · rcases hS with hS | ⟨o, hS⟩
      · rcases hO a with h0 | ⟨o, xs, h0⟩
        · rw [h0] at hS; cases hS
        · rw [h0] at hS; cases hS
      · exact .inl ⟨o, hS⟩
    · exact .inr fun H' => .inr hS
  refine ⟨[.nd .fz (ns.map T.int)], FE, .ok (.bl true), ts', rfl, ⟨rfl, fun i v e => ?_, ⟨fun _ => FE, fun i t e => ?_, fun _ _ _ _ z _ => z, fun _ _ z => z⟩, fun _ z => z.elim⟩, e, fun v H' F' G _ r _ _ _ => by cases r; exact k H'⟩
  · have z : [V.ref a][i]? = some v := e
    show ([V.ref a].map some)[i]? = _
    rw [List.getElem?_map, z]
    try rfl
  · cases i with
    | zero =>
      have et : t = .nd .fz (ns.map T.int) := by simpa using e.symm
      subst et
      refine ⟨.ref a, rfl, .nd (Fs := fun _ => FE) R0 (by simp) (fun z => nomatch z) (fun i v t e1 e2 => ?_) (fun _ _ _ _ z _ => z) fun _ _ z => z⟩
      rw [List.getElem?_map] at e1 e2
      cases en : ns[i]? with
      | none => rw [en] at e1; cases e1
      | some z =>
        rw [en] at e1 e2
        cases e1
        cases e2
        exact .int z
    | succ i => simp at e
end VT
namespace VT
open PySem PySem.Spec PyProof.Rows L2 L2H HotX
/-- a block's context that still bears the handled exception p -/
abbrev blkP (X : Cx) (p : Addr × Obj) (s : Shared) (H : Hp) (scope : Scope) (ce : Env) (fp : List Addr) : Cx := { X.blk s H scope ce fp with pn := [p] }
section
variable {X : Cx}
theorem addPin {Y : Cx} {pr : Addr × Obj} {σ : L2.St} {H : Hp} {s : Shared} (J : Inv { Y with pn := [] } [] σ H s) (hp : s.heap.get? pr.1 = some pr.2 ∧ H pr.1 = none ∧ pr.1 ≠ Y.env.locals ∧ pr.1 ∉ Y.fs ∧ ∀ v, pr.2.data ≠ .cell v) : Inv { Y with pn := [pr] } [] σ H s :=
  ⟨⟨J.ok.mod, J.ok.kind, J.ok.glob, J.ok.blt, J.ok.above, J.ok.inj, J.ok.has, J.ok.cab, J.ok.hd, J.ok.frames, J.ok.stk, J.ok.exf, J.ok.bs, J.ok.bsz, J.ok.noex, J.ok.exfs, J.ok.funs, J.ok.frf⟩, J.os, J.bare, J.base, J.loc, J.cell, J.free, J.freeC, fun q hq => by
    have e : q = pr := by simpa using hq
    rw [e]
    exact hp, J.hok, J.len⟩
theorem hot_lc {pins : List (Addr × Obj)} {s : Shared} {σ : L2.St} {H : Hp} {Q : VK} {elt tg iter : Expr} {ifs : List Expr} {scope : Scope} {own : List (Str × Nat)} {ps1 ps2 : Pos} {wi : TI} {g : TG} {tt : TT} {te : TE} {use : Option (Value → Sem Unit)} {Qf : Value → Shared → Prop}
    (hc : HotC X) (hN : X.N.Nodup) (I : Inv X pins σ H s) (hi : PIH X tg iter wi) (ok : BlkOk X.N X.env.scope scope own)
    (hg : ∀ (p : Addr × Obj) (s : Shared) (H : Hp) (C : Addr) (cl : List (Str × Addr)) (fp : List Addr), PG (blkP X p s H scope (compEnvC scope cl C X.env) fp) tg g)
    (ht : ∀ (p : Addr × Obj) (s : Shared) (H : Hp) (C : Addr) (cl : List (Str × Addr)) (fp : List Addr), PTs (blkP X p s H scope (compEnvC scope cl C X.env) fp) ifs tt)
    (he : ∀ (p : Addr × Obj) (s : Shared) (H : Hp) (C : Addr) (cl : List (Str × Addr)) (fp : List Addr), PE (blkP X p s H scope (compEnvC scope cl C X.env) fp) elt te) (hs : ∀ x, foldedSetIterable iter X.env x = pure x)
    (h : tLc wi g tt te (own.map (·.2)) σ H Q)
    (hRR : ∀ D C s' m H', Inv X pins σ H' s' → Q (.ref D) H' → s'.heap.Ns C m → FpOk X pins H' C → compPost (model X.prog X.w) X.A X.xe use Qf (.ref D) C (.ok .next) s') :
    wpAny (model X.prog X.w) X.A (comprehension (.ListComp elt [⟨tg, iter, ifs, 0⟩] scope ps1) scope X.env ps2 (newList []) false (eval iter X.env) use) Qf X.xe s := by
  have fr0 : ∀ y ∈ scope.names, y.2 = .free → ∃ c, X.env.cells.lookup y.1 = some c := fun y hy e => (ok.free y hy e).elim (fun k => I.ok.has _ (.inl k)) fun k => I.ok.has _ (.inr k)
  obtain ⟨p, hot, hp⟩ := hc
  refine wpAny_comprehension_free (use := use) rfl hs (closure_ok fr0) ok.kind (fun y hy z => by rw [ok.uniq y hy, z]) (thn (hi.run pins s σ H _ I h) fun _ sa hx => thn hx fun iv sb hb => ?_)
  obtain ⟨it, fp, tn, J, Hb, rfl, Ib, T, stb, fb, q⟩ := hb
  refine wpAny_newObj_type (newEnv_comp ?_) (by show 0 ≤ sizeLine; decide)
  generalize eD : sb.heap.objs.size = D
  have nD : Hb D = none := Ib.hok.fresh (Nat.le_of_eq eD)
  obtain ⟨Wt, ⟨m0, w0⟩, turn⟩ := q D nD
  generalize esc : ({ sb with heap := sb.heap.push { cls := .type "list", data := .seq ([] : List Value).toArray } } : Shared) = sc
  have Ic : Inv X pins σ (upd Hb D (.lst [])) sc := by
    rw [← esc]
    refine Ib.laid (t' := sb.toks) (fun b o z => Heap.get?_push_of_some _ z) (Nat.le_of_eq eD) ⟨Nat.zero_le _, [], 0, .nil, ?_⟩
    rw [← eD]
    exact Heap.get?_push_size _ rfl
  have hc3 : sc.heap = sb.heap.push { cls := .type "list", data := .seq ([] : List Value).toArray } := by rw [← esc]
  have below : ∀ b ∈ fp, b < sb.heap.objs.size := fun b hb => by
    obtain ⟨o, z, _⟩ := T.obj _ _ stb b hb
    exact Heap.lt_size z
  have fc : ∀ b ∈ fp, FpOk X pins (upd Hb D (.lst [])) b ∧ b < sc.heap.objs.size := fun b hb => by
    have lt := below b hb
    refine ⟨⟨?_, (fb b hb).2⟩, by rw [hc3, Heap.size_push]; exact Nat.lt_succ_of_lt lt⟩
    rw [upd_ne (by rw [← eD]; exact Nat.ne_of_lt lt)]
    exact (fb b hb).1
  have stc : tn 0 sc.heap := T.keep _ _ _ stb fun b _ o z => by rw [hc3]; exact Heap.get?_push_of_some _ z
  have Id0 := block_start Ic ok hN fc
  have pg := hg p sc (upd Hb D (.lst [])) sc.heap.objs.size (cellsFrom (sc.heap.objs.size + 1) scope.names (cloFrom X.env.cells scope.names [])) fp
  have pt := ht p sc (upd Hb D (.lst [])) sc.heap.objs.size (cellsFrom (sc.heap.objs.size + 1) scope.names (cloFrom X.env.cells scope.names [])) fp
  have pe := he p sc (upd Hb D (.lst [])) sc.heap.objs.size (cellsFrom (sc.heap.objs.size + 1) scope.names (cloFrom X.env.cells scope.names [])) fp
  have PP := Ic.pin p (List.mem_append_left _ hp)
  have ePn : ∀ b ∈ fp, p.1 ≠ b := fun b hb => (fc b hb).1.2.2.2.2.2 p (List.mem_append_left _ hp)
  show codeAny _ _ (.compStart (.ListComp elt [⟨tg, iter, ifs, 0⟩] scope ps1) 0 (.ref it) (.ref D) (compEnvC scope (cellsFrom (sc.heap.objs.size + 1) scope.names (cloFrom X.env.cells scope.names [])) sc.heap.objs.size X.env)) (compPost (model X.prog X.w) X.A X.xe use Qf (.ref D) sc.heap.objs.size) { sc with heap := pushCells (sc.heap.push { cls := .type "dict", data := .dict #[] }) scope.names }
  have nfp : ∀ b ∈ fp, (upd Hb D (.lst [])) b = none := fun b hb => (fc b hb).1.1
  generalize ece : compEnvC scope (cellsFrom (sc.heap.objs.size + 1) scope.names (cloFrom X.env.cells scope.names [])) sc.heap.objs.size X.env = ce at Id0 pg pt pe ⊢
  have cL : ce.locals = sc.heap.objs.size := by subst ece; rfl
  generalize eHc : upd Hb D (.lst []) = Hc at Ic Id0 pg pt pe w0 nfp fc PP
  generalize esd : ({ sc with heap := pushCells (sc.heap.push { cls := .type "dict", data := .dict #[] }) scope.names } : Shared) = sd at Id0 ⊢
  have Id : Inv (blkP X p sc Hc scope ce fp) [] (wipe σ (own.map (·.2))) Hc sd := by
    refine addPin (Y := X.blk sc Hc scope ce fp) Id0 ⟨?_, PP.2.1, ?_, fun z => (List.mem_cons.mp (Ic.stkSub p.1 z)).elim PP.2.2.1 PP.2.2.2.1, PP.2.2.2.2⟩
    · rw [← esd]
      exact pushCells_keeps _ _ _ _ (Heap.get?_push_of_some _ PP.1)
    · show p.1 ≠ ce.locals
      rw [cL]
      exact Nat.ne_of_lt (Heap.lt_size PP.1)
  have hotB : HotC (blkP X p sc Hc scope ce fp) := ⟨p, hot, List.mem_cons_self⟩
  have std : tn 0 sd.heap := T.keep _ _ _ stc fun b _ o z => by rw [← esd]; exact pushCells_keeps _ _ _ _ (Heap.get?_push_of_some _ z)
  have stat : ∀ {σ' : L2.St} {H' : Hp} {s' : Shared}, Inv (blkP X p sc Hc scope ce fp) [] σ' H' s' → (∀ b ∈ fp, H' b = none) → ∀ b ∈ fp, FpOk (blkP X p sc Hc scope ce fp) [] H' b := fun {σ' H' s'} I' hn b hb =>
    ⟨hn b hb, (I'.ok.exf b hb).1, I'.ok.exfs b hb, .inl hb, fun x c z => (I'.ok.exf b hb).2 x c z, fun r hr => by
      have z : r = p := by simpa using hr
      rw [z]
      exact ePn b hb⟩
  have loop : codeAny (model X.prog X.w) X.A (.compLoop (.ListComp elt [⟨tg, iter, ifs, 0⟩] scope ps1) 0 (.ref it) (.ref D) ce) (compPost (model X.prog X.w) X.A X.xe use Qf (.ref D) sc.heap.objs.size) sd := by
    refine compLoop_any (fun n s' => ∃ i H', Inv (blkP X p sc Hc scope ce fp) [] (wipe σ (own.map (·.2))) H' s' ∧ tn i s'.heap ∧ (∀ b ∈ fp, H' b = none) ∧ Wt i n H') ?_ m0 ⟨0, Hc, Id, std, nfp, w0⟩
    rintro n se ⟨i, He, Ie, ste, ne, we⟩
    rcases turn i n He we with ⟨stop, qq⟩ | ⟨go, Nx, hNx, step⟩
    · refine thnF (T.done (blkP X p sc Hc scope ce fp) rfl rfl rfl hotB i [] se _ He (fun _ _ => False) Ie (stat Ie ne) ste stop) fun r sf ⟨hr, If⟩ => ?_
      subst hr
      have Ig : Inv X pins σ He sf := Ic.call' (ch := fp) If.os If.base If.hok If.bare fun b hb => ⟨(fc b hb).1.2.2.2.1, (fc b hb).1.2.1, (fc b hb).1.2.2.2.2.1, (fc b hb).1.2.2.2.2.2⟩
      have nC : He sc.heap.objs.size = none := by
        have z : He ce.locals = none := If.free
        rwa [cL] at z
      obtain ⟨m, hn, _⟩ := If.loc
      have hn' : sf.heap.Ns ce.locals m := hn
      rw [cL] at hn'
      exact hRR D sc.heap.objs.size sf m He Ig qq hn' (Ic.fpOk (Nat.le_refl _) nC)
    · refine thnF (T.item (blkP X p sc Hc scope ce fp) rfl rfl rfl hotB i [] se _ He (fun _ _ => False) Ie (stat Ie ne) ste go) fun r sf ⟨u, hr, hf⟩ => ?_
      subst hr
      refine thnF hf fun _ sg ⟨x, Hg, Ig, rg, yg, stg, ng⟩ => ?_
      have Ig' := Ig.pinned (stat Ig ng) (T.obj _ _ stg)
      refine thnF (pg.run _ sg _ Hg x u _ Ig' rg (step x Hg yg)) fun _ sh ⟨σh, Hh, Ih, hwh, qh⟩ => ?_
      refine thnF (pt.run _ sh σh Hh _ Ih qh) fun b si ⟨Hi, Ii, qi⟩ => ?_
      have fin : ∀ {s' : Shared} {H' : Hp}, Inv (blkP X p sc Hc scope ce fp) ([] ++ pinsAt fp sg.heap) σh H' s' → Nx H' → ∃ m, m < n ∧ ∃ i H', Inv (blkP X p sc Hc scope ce fp) [] (wipe σ (own.map (·.2))) H' s' ∧ tn i s'.heap ∧ (∀ b ∈ fp, H' b = none) ∧ Wt i m H' := fun {s' H'} I' nx => by
        obtain ⟨m', hm, w'⟩ := hNx H' nx
        have kept : ∀ b ∈ fp, ∀ o, sg.heap.get? b = some o → s'.heap.get? b = some o ∧ H' b = none := fun b hb o z => by
          have y := I'.pin (b, o) (List.mem_append_right _ (List.mem_append_right _ (mem_pinsAt hb z)))
          exact ⟨y.1, y.2.1⟩
        refine ⟨m', hm, i + 1, H', (I'.unpinned (pins := [])).weak (by rw [← hwh, wipe_length]) (fun j v z => ?_), T.keep _ _ _ stg fun b hb o z => (kept b hb o z).1, fun b hb => ?_, w'⟩
        · rw [← hwh] at z
          exact (wipe_some z).1
        · obtain ⟨o, z, _⟩ := T.obj _ _ stg b hb
          exact (kept b hb o z).2
      cases b with
      | false => exact fin Ii qi
      | true => exact thnF (pe.run _ si σh Hi _ Ii qi) fun z sj ⟨yv, Hj, Ij, rj, acc, hDj, hzj, nx⟩ => app_ok (X := blkP X p sc Hc scope ce fp) Ij hDj hzj rj fun sk Ik => fin Ik nx
  exact codeAny_compStart_list loop (T.self X.A 0 _ _ _ std loop)
theorem pe_lcH {elt tg iter : Expr} {ifs : List Expr} {scope : Scope} {own : List (Str × Nat)} {ps1 : Pos} {wi : TI} {g : TG} {tt : TT} {te : TE} (hc : HotC X) (hN : X.N.Nodup) (hi : PIH X tg iter wi) (ok : BlkOk X.N X.env.scope scope own)
    (hg : ∀ (p : Addr × Obj) (s : Shared) (H : Hp) (C : Addr) (cl : List (Str × Addr)) (fp : List Addr), PG (blkP X p s H scope (compEnvC scope cl C X.env) fp) tg g)
    (ht : ∀ (p : Addr × Obj) (s : Shared) (H : Hp) (C : Addr) (cl : List (Str × Addr)) (fp : List Addr), PTs (blkP X p s H scope (compEnvC scope cl C X.env) fp) ifs tt)
    (he : ∀ (p : Addr × Obj) (s : Shared) (H : Hp) (C : Addr) (cl : List (Str × Addr)) (fp : List Addr), PE (blkP X p s H scope (compEnvC scope cl C X.env) fp) elt te) (hs : ∀ x, foldedSetIterable iter X.env x = pure x := by intro _; rfl) :
    PE X (.ListComp elt [⟨tg, iter, ifs, 0⟩] scope ps1) (tLc wi g tt te (own.map (·.2))) := by
  refine ⟨fun pins s σ H Q I h => ?_⟩
  rw [eval_ListComp]
  refine hot_lc hc hN I hi ok hg ht he hs h fun D C s' m H' J q hn f => ⟨m, hn, fun hh sub => ?_⟩
  obtain ⟨f0, f1, f2, f3, f4, f5⟩ := f
  exact ⟨.ref D, H', J.turned (t' := s'.toks) (fun b o hb z => (sub.2 b hb).trans z) f0 f1 f3 f4 f5, rfl, q⟩
/-- isinstance(e, c), e's object stands in the context -/
theorem call_isP {a D : Addr} {oe : Obj} (C : ExcC X.K D) (hz : Zc (.ref D) none oe) (hf : ∃ vs, oe.data = .fields vs) (hp : (a, oe) ∈ X.pn) : CallR X (.builtin "isinstance") (rIsE X.K D a) := by
  intro pins s σ H xs us Q I r q
  obtain ⟨c, cv, b, rfl, one, e, k⟩ := q
  cases r with
  | cons ra rr =>
    cases rr with
    | cons rt rr =>
      cases rr
      cases ra
      have ec := one _ rt
      subst ec
      have there := (I.pin (a, oe) (List.mem_append_left _ hp)).1
      obtain ⟨vs, hv⟩ := hf
      have J : PySem.W.InstAt s.heap a oe D none := by
        obtain ⟨x1, x2, x3, x4⟩ := oe
        obtain ⟨z1, z2⟩ := hz
        dsimp only at z1 z2 hv
        subst z1 z2 hv
        exact ⟨there, rfl, rfl, trivial⟩
      exact PySem.W.kia_one (PySem.W.handS_kitx_exc C.hg C.hk C.hs C.hd C.ha C.hn C.ht C.hm) I.kIn J e (fun z => nomatch z) fun tk => ⟨.bl b, H, I.kept (t' := tk) fun _ _ z => z, rfl, k⟩
end
end VT
namespace VT
open PySem PySem.Spec PyProof.Rows L2 L2H HotX
variable {Γ : Gx}
def strsOf : List T → Option (List Str)
  | [] => some []
  | .str x :: ts => (strsOf ts).bind fun l => some (x :: l)
  | _ :: _ => none
def joinT (a : Str) : T → Option T
  | .nd k ts => if isSq k = true then (strsOf ts).bind fun ys => if (ys.map (·.length)).sum + ys.length * a.length ≤ 16777216 then some (.str (Txt.join a ys)) else none else none
  | _ => none
theorem strsOf_get {H : Hp} {G : FP} : ∀ {ts : List T} {ys : List Str} {vs : List V}, strsOf ts = some ys → vs.length = ts.length → (∀ (i : Nat) (v : V) (t : T), vs[i]? = some v → ts[i]? = some t → Rep Γ H v t G) → vs = ys.map V.str
  | [], ys, vs, e, hl, _ => by
    cases e
    exact List.length_eq_zero_iff.mp hl
  | t :: ts, ys, vs, e, hl, h => by
    cases t with
    | str x =>
      unfold strsOf at e
      cases e1 : strsOf ts with
      | none => rw [e1] at e; cases e
      | some l =>
        rw [e1] at e
        cases e
        cases vs with
        | nil => simp at hl
        | cons v vs =>
          have r := h 0 v (.str x) rfl rfl
          cases r
          rw [List.map_cons, ← strsOf_get e1 (by simpa using hl) fun i v t a b => h (i + 1) v t (by simpa using a) (by simpa using b)]
    | _ => cases e
theorem joinT_ok {a : Str} : UnT Γ (fun x H Q => ∃ p, ∃ ys : List Str, x = .ref p ∧ (SqL Γ.K H p (ys.map V.str) ∨ SqT Γ.K H p (ys.map V.str)) ∧ (ys.map (·.length)).sum + ys.length * a.length ≤ 16777216 ∧ Q (.str (Txt.join a ys)) H) (joinT a) := by
  intro H x t1 t G1 Q r1 e k
  unfold joinT at e
  split at e
  · rename_i kd ts
    by_cases hk : isSq kd = true
    · rw [if_pos hk] at e
      cases e1 : strsOf ts with
      | none => rw [e1] at e; cases e
      | some ys =>
        rw [e1] at e
        simp only [Option.bind_some] at e
        by_cases hz : (ys.map (·.length)).sum + ys.length * a.length ≤ 16777216
        · rw [if_pos hz] at e
          cases e
          obtain ⟨p, vs, rfl, q, hl, hc⟩ := r1.sq hk
          have ev := strsOf_get e1 hl hc
          subst ev
          exact ⟨p, ys, rfl, q, hz, k _ H FE (Same.refl H) (.str _) new_FE⟩
        · rw [if_neg hz] at e; cases e
    · rw [if_neg hk] at e; cases e
  · cases e
section
variable {X : Cx} {ar : Fx} {W : WX} {e : Expr} {fa : EF} {ga : BF} {pos p0 apos : Pos} {a : Str} {j0 : Nat}
theorem e_join (he : PE X e (rdE Γ ar W fa)) (hK : X.K = Γ.K := by rfl) (hs : starEach [e] X.env = [(false, eval e X.env)] := by rfl) (hbase : attributeBase (.Constant (.str a) j0 p0) "join" X.env (eval (.Constant (.str a) j0 p0) X.env) = eval (.Constant (.str a) j0 p0) X.env := by rfl) (hline : (apos.endLine == pos.line) = true := by rfl) :
    PE X (.Call (.Attribute (.Constant (.str a) j0 p0) "join" apos) [e] [] pos) (rdE Γ ar W (eUn (joinT a) fa)) :=
  PE.imp (pe_join pe_str he hs hbase hline) fun σ H Q q =>
    ⟨⟨a, rfl⟩, rdE_mono (tUn_e joinT_ok σ H Q q) fun y H2 ⟨p, ys, h1, h2, h3, h4⟩ => ⟨a, p, ys, rfl, by rw [h1], by rw [hK]; exact h2, h3, h4⟩⟩
theorem n_isE {i : Nat} {ad D : Addr} {x y : Str} {v : V} {cv : Value} {b : Bool} {p1 p2 p3 : Pos} (hc : CallR X (.builtin "isinstance") (rIsE X.K D ad)) (har : ar i = some (.ref ad)) (hx : PE X (.Name x p2) (tC v)) (one : ∀ u, RelV v u → u = cv) (hb : PySem.W.kitOne X.K (.ref D) cv = some b) (hm : X.mg "isinstance" = none)
    (hg : Gl X "isinstance" := by rfl) (hN : X.N[i]? = some y := by rfl) (hv : Vis X.env.scope y := by first | exact Or.inl rfl | exact Or.inr (Or.inl rfl) | exact Or.inr (Or.inr rfl)) (hd : (y == ("__debug__" : Str)) = false := by decide) (hcd : (y == ("__classdict__" : Str)) = false := by decide)
    (he : starEach [.Name y p1, .Name x p2] X.env = (false, eval (.Name y p1) X.env) :: starEach [.Name x p2] X.env := by rfl) : PE X (.Call (.Name "isinstance" p3) [.Name y p1, .Name x p2] [] pos) (rdN Γ ar (nC (.bl b))) :=
  PE.imp (pe_callB hc hg hm PyProof.Rows.boot_isinstance (pa_cons (pe_var hN hv hd hcd) (pa_cons hx pa_nil) he) (by decide) (by decide) he) fun σ H Q q => by
    obtain ⟨S, F, t, R, e, k⟩ := q
    cases e
    exact ⟨.ref ad, R.arg i _ har, v, cv, b, rfl, one, hb, k _ H FE (Same.refl H) (.bl _) new_FE⟩
variable {elt : Expr} {tg : Expr} {ifs : List Expr} {scope : Scope} {own : List (Str × Nat)} {cond el : EF} {j : Nat}
theorem e_lcRH {e1 : Expr} {p1 pos1 : Pos} (hc : HotC X) (hN : X.N.Nodup) (hm : X.mg "range" = none) (hi : PE X e1 (rdE Γ ar W fa)) (ok : BlkOk X.N X.env.scope scope own)
    (hg : ∀ (p : Addr × Obj) (s : Shared) (H : Hp) (C : Addr) (cl : List (Str × Addr)) (fp : List Addr), PG (blkP X p s H scope (compEnvC scope cl C X.env) fp) tg (gName j))
    (ht : ∀ (p : Addr × Obj) (s : Shared) (H : Hp) (C : Addr) (cl : List (Str × Addr)) (fp : List Addr), PTs (blkP X p s H scope (compEnvC scope cl C X.env) fp) ifs (rdTX Γ (fun _ => True) cond))
    (he : ∀ (p : Addr × Obj) (s : Shared) (H : Hp) (C : Addr) (cl : List (Str × Addr)) (fp : List Addr), PE (blkP X p s H scope (compEnvC scope cl C X.env) fp) elt (rdEX Γ (fun _ => True) el))
    (hj : j ∈ own.map (·.2) := by decide) (hgl : Gl X "range" := by rfl) (hst : starEach [e1] X.env = (false, eval e1 X.env) :: starEach [] X.env := by rfl) (hs : ∀ x, foldedSetIterable (.Call (.Name "range" p1) [e1] [] pos1) X.env x = pure x := by intro _; rfl) :
    PE X (.ListComp elt [⟨tg, .Call (.Name "range" p1) [e1] [] pos1, ifs, 0⟩] scope pos) (rdE Γ ar W (eLcR j (own.map (·.2)) fa cond el)) :=
  PE.imp (pe_lcH hc hN (pi_range1H hgl hm (pa_cons hi pa_nil hst) hst) ok hg ht he hs) fun σ H Q q => lcR_ok hj trivial q
end
structure FnE (P : Program) (w : World) (K : PySem.W.Frag) (mg : Str → Option Value) (base : Heap) (CX : CXT) (k : Nat) (f : Addr) (fd : FuncData) (ps : List Str) (sp : Addr × Obj → Sp) : Prop where
  len : ∀ pr vs H Q E, sp pr vs H Q E → vs.length = ps.length
  run : ∀ (A : Around) (outer : List Env) (s : Shared) (H : Hp) (args : Args) (us : List Value) (vs : List V) (Q : VK) (E : XK) (pr : Addr × Obj), RoomH k A → Hot1 A pr → PinOk outer H s pr → Env0 P w K mg base A outer s H → BindsTo s fd args (ps.zip us) → Vals vs us → sp pr vs H Q E →
    codeAny (model P w) A (.call (.ref f) args) (CR CX outer P w H s Q E) s
theorem fnE_of {CX : CXT} {P : Program} {w : World} {K : PySem.W.Frag} {mg : Str → Option Value} {base : Heap} {k : Nat} {f : Addr} {x1 q1 : Str} {prm : Arguments} {bd : List Stmt} {sc : Scope} {v1 v2 v3 v4 v5 v6 v7 : Value} {a1 a2 : Option Addr}
    {sl : Array (Option Value)} {N ps : List Str} {sp : Addr × Obj → Sp} (lk : K.lookup f = some ⟨v7, a2, .func (PySem.W.fnOf x1 q1 prm bd sc v1 v2 v3 v4 a1 v5 v6), sl⟩) (hcd : PySem.W.codeIn K v5 q1 = true) (S : FnScope N ps sc)
    (len : ∀ pr vs H Q E, sp pr vs H Q E → vs.length = ps.length)
    (hbody : ∀ (A : Around) (outer : List Env) (s : Shared) (H : Hp) (vs : List V) (Q : VK) (E : XK) (pr : Addr × Obj), Hot1 A pr → RoomH k (A.deeper (envOfC q1 sc s.heap.objs.size f v5)) → sp pr vs H Q E →
      ∃ t, PSs (cxH CX P w K mg base N q1 sc f v5 A outer s H E pr) bd t ∧ t { nx := fun _ H' => Q .non H', rt := Q } (L2.start N vs) H) :
    FnE P w K mg base CX (k + 1) f (PySem.W.fnOf x1 q1 prm bd sc v1 v2 v3 v4 a1 v5 v6) ps sp := by
  refine ⟨len, fun A outer s H args us vs Q E pr room hot hpin e0 hb rv hsp => ?_⟩
  have same0 := len _ _ _ _ _ hsp
  have kin : K.In s.heap := e0.mod.kin.keeps fun b o z => (e0.bs b o z).1
  have nlim : s.heap.NoLimit := e0.mod.nolimit.keeps fun b o z => (e0.bs b o z).1
  refine codeAny_call_function room.depth (kin _ _ lk) rfl S.co S.gen rfl (PySem.W.codeRec_of kin hcd) (hb _ _ _ _ ?_)
  refine wpAny_newFunctionEnv_cells S.kind (fun ⟨n, v⟩ hy => (S.par n (List.of_mem_zip hy).1).elim .inl fun z => .inr ⟨z, PySem.W.cellsFrom_some _ _ _ (.inl z)⟩) fun env he s1 x => ?_
  subst he
  refine ⟨nlim.keeps x.toInCall.keep, codeAny_func ?_⟩
  obtain ⟨t, ht, hq⟩ := hbody A outer s H vs Q E pr hot (room.deeper _) hsp
  have I : Inv (cxH CX P w K mg base N q1 sc f v5 A outer s H E pr) [] (L2.start N vs) H s1 := inv_startH S hpin e0 same0 rv x
  refine wpAny_mono (ht.run [] s1 (L2.start N vs) H _ I hq) (fun fl s' hs => ?_) fun e s' hs => hs
  cases fl with
  | ret u =>
    obtain ⟨v, σ', H', J, rr, q⟩ := hs
    exact ⟨v, H', J.os, J.bare, J.base, J.hok, rr, q⟩
  | next =>
    obtain ⟨σ', H', J, q⟩ := hs
    exact ⟨V.non, H', J.os, J.bare, J.base, J.hok, rfl, q⟩
  | brk => obtain ⟨_, _, _, q⟩ := hs; exact q.elim
  | cont => obtain ⟨_, _, _, q⟩ := hs; exact q.elim
section
variable {X : Cx} {CX : CXT} {k : Nat} {f : Addr} {fd : FuncData} {ps : List Str} {sp : Addr × Obj → Sp} {x : Str} {q pos : Pos} {e : Expr} {es : List Expr} {t : TA}
def tCallE (pr : Addr × Obj) (sp : Addr × Obj → Sp) (t : TA) : TE := fun σ H Q => t σ H fun vs H1 => sp pr vs H1 Q E0
/-- the call there; it lets nothing out -/
theorem pe_callE {pr : Addr × Obj} (F : FnE X.prog X.w X.K X.mg X.base CX k f fd ps sp) (room : RoomH k X.A) (hot : Hot1 X.A pr) (hp : pr ∈ X.pn) (hg : Gl X x) (hm : X.mg x = some (.ref f)) (hk : PySem.W.keepIn X.K (.ref f) = true) (hb : Binds X.K fd ps []) (hx : ∀ σ, PassesAt CX X σ E0)
    (ha : PA X (e :: es) t) (hdb : (x == ("__debug__" : Str)) = false := by decide) (he : starEach (e :: es) X.env = (false, eval e X.env) :: starEach es X.env := by rfl) (hpl : (backTo pos (starEach es X.env)).any (·.1) = false := by rfl) :
    PE X (.Call (.Name x q) (e :: es) [] pos) (tCallE pr sp t) := by
  refine ⟨fun pins s σ H Q I h => wpAny_Call_Name_kw (ld_glob I hg hm ?_ hdb)⟩
  refine PySem.W.callWith_K (h₀ := X.base) I.ok.mod.kin hk (thn (ha.run pos pins s σ H _ I h) fun us s1 ⟨vs, H1, J, r, qq⟩ => ⟨J.kIn, ?_⟩) he hpl
  have hl : us.length = ps.length := by rw [← r.length]; exact F.len _ _ _ _ _ qq
  have b := hb s1 us J.kIn (by rw [List.append_nil]; exact hl)
  rw [List.append_nil] at b
  have P1 := J.pin pr (List.mem_append_left _ hp)
  have ok : PinOk X.stack H1 s1 pr := ⟨P1.1, P1.2.1, fun z => (List.mem_cons.mp (J.stkSub pr.1 z)).elim P1.2.2.1 P1.2.2.2.1, P1.2.2.2.2⟩
  refine wpAny_call (codeAny_mono (F.run X.A X.stack s1 H1 ⟨us, []⟩ us vs Q E0 pr room hot ok J.env0 b r qq) fun res s' hq => ?_)
  cases res with
  | error er => exact hx σ pins H1 s1 er s' J hq
  | ok fl =>
    cases fl with
    | ret u => exact J.after hq
    | next => exact hq.elim
    | brk => exact hq.elim
    | cont => exact hq.elim
end
def spK (D : Addr) (kd : Str) : Addr × Obj → Sp := fun pr vs H Q _ => vs = [.ref pr.1] ∧ Zc (.ref D) none pr.2 ∧ (∃ fs, pr.2.data = .fields fs) ∧ ∀ H', Same H H' → Q (.str kd) H'
def arE (a : Addr) : Fx := fun i => if i = 0 then some (.ref a) else none
theorem repS_none {H : Hp} {N : List Str} {a : Addr} (hN : 1 ≤ N.length) : RepS Γ (arE a) H (L2.start N [.ref a]) (List.replicate N.length none) FE := by
  refine ⟨?_, fun i v e => ?_, ⟨fun _ => FE, fun i t e => ?_, fun _ _ _ _ z _ => z, fun _ _ z => z⟩, fun _ z => z.elim⟩
  · unfold L2.start
    simp
    omega
  · unfold arE at e
    split at e
    · rename_i h
      cases e
      subst h
      rfl
    · cases e
  · have := List.mem_of_getElem? e
    rw [List.mem_replicate] at this
    cases this.2
theorem fn_okE {P : Program} {w : World} {mg : Str → Option Value} {base : Heap} {x q : Str} {f : Addr} {fd : FuncData} {N : List Str} {y : Str} {k : Nat} {st : Stmt} {body : SF} {D : Addr} {kd : Str} {S' : TSt} {W : WX} (F : Fun Γ.K x q st f fd) (S : FnScope N [y] (defScope st)) (hN : 1 ≤ N.length)
    (hbody : ∀ (cdv : Value) (A : Around) (outer : List Env) (s : Shared) (H : Hp) (E : XK) (pr : Addr × Obj), Hot1 A pr → RoomH k (A.deeper (PyProof.Rows.envOfC q (defScope st) s.heap.objs.size f cdv)) → Zc (.ref D) none pr.2 → (∃ fs, pr.2.data = .fields fs) →
      PSs (cxH (L2N.CX P w) P w Γ.K mg base N q (defScope st) f cdv A outer s H E pr) (defBody st) (rdS Γ (arE pr.1) W body))
    (he : body (List.replicate N.length none) = some (.rt (.str kd), S')) : FnE P w Γ.K mg base (L2N.CX P w) (k + 1) f fd [y] (spK D kd) := by
  obtain ⟨xc, xd, xk, dc, pq, na, cdv, tc, zs, rfl, lk, hcd⟩ := F.ex
  refine fnE_of lk hcd S (fun pr vs H Q E h => by rw [h.1]; rfl) (fun A outer s H vs Q E pr hot room h => ?_)
  obtain ⟨rfl, z, fs, kk⟩ := h
  refine ⟨_, hbody cdv A outer s H E pr hot room z fs, List.replicate N.length none, FE, _, S', repS_none hN, he, fun v σ' H' F' G o => ?_⟩
  have r := o.r
  cases r
  exact kk H' fun b u hb => o.u.keep b u hb fun z => z
end VT
namespace VT
open PySem PySem.Spec PyProof.Rows L2 L2H HotX
variable {Γ : Gx}
theorem RepS.junk {ar : Fx} {H : Hp} {σ : L2.St} {S : TSt} {F : FP} {i : Nat} (R : RepS Γ ar H σ S F) (hi : ar i = none) (o : Option V) : RepS Γ ar H (σ.set i o) (S.set i none) F := by
  obtain ⟨len, arg, ⟨Fs, h1, h2, h3⟩, al⟩ := R
  refine ⟨by rw [List.length_set, List.length_set, len], fun j v e => ?_, ⟨Fs, fun j t e => ?_, h2, h3⟩, al⟩
  · have hj : i ≠ j := fun z => by rw [z, e] at hi; cases hi
    rw [List.getElem?_set_ne hj]
    exact arg j v e
  · by_cases hj : i = j
    · subst hj
      rw [List.getElem?_set] at e
      split at e
      · split at e <;> cases e
      · rename_i z; exact absurd rfl z
    · rw [List.getElem?_set_ne hj] at e
      obtain ⟨v, ev, r⟩ := h1 j t e
      exact ⟨v, by rw [List.getElem?_set_ne hj]; exact ev, r⟩
structure KindsOk (P : Program) (w : World) (Γ : Gx) (mg : Str → Option Value) (base : Heap) (k : Nat) (x ce : Str) (kn : Nat → Option Str) : Prop where
  ex : ∃ f fd y, mg x = some (.ref f) ∧ PySem.W.keepIn Γ.K (.ref f) = true ∧ Binds Γ.K fd [y] [] ∧ ∀ c kd, kn c = some kd → FnE P w Γ.K mg base (L2N.CX P w) k f fd [y] (spK (Γ.cl c) kd)
  ca : ∃ C : Addr, mg ce = some (.ref C) ∧ ∀ c kd, kn c = some kd → PySem.W.exmOne Γ.K (.ref (Γ.cl c)) (.ref C) = some true
def sTryK (kn : Nat → Option Str) (ie ik : Nat) (s : SF) : SF := fun S => (s S).bind fun rx => match rx with
  | (.ex c, S1) => if ie < S1.length then (kn c).bind fun kd => some (.nx, ((S1.set ie none).set ik (some (.str kd))).set ie none) else none
  | r => some r
section
variable {X : Cx} {ar : Fx} {W : WX} {body : List Stmt} {sb : SF} {pos p1 p2 p3 p4 p5 p6 : Pos} {kn : Nat → Option Str} {k ie ik : Nat} {x ce yk ye : Str}
/-- what the suite does -/
def tsK (Γ : Gx) (kn : Nat → Option Str) (ie ik : Nat) : Addr → Value → Option Addr → TS := fun a cls d D σ H => ∃ c kd, cls = .ref (Γ.cl c) ∧ d = none ∧ kn c = some kd ∧ σ[ie]? = some (some (.ref a)) ∧ ∀ H', Same H H' → D.nx (σ.set ik (some (.str kd))) H'
theorem s_tryK (D : KindsOk X.prog X.w Γ X.mg X.base k x ce kn) (hr : Room k X.A) (tk : L2N.Takes X W) (hie : ar ie = none) (hik : ar ik = none) (hN : X.N.Nodup)
    (hb : ∀ (W : WX) (pn : List (Addr × Obj)) (xe : Value → Shared → Prop), L2N.Takes (X.tr pn xe) W → PassesOwn (model X.prog X.w) X.A X.env xe → PSs (X.tr pn xe) body (rdS Γ ar W sb))
    (hK : X.K = Γ.K := by rfl) (hs : X.stack = X.env :: X.outer := by rfl) (hf : X.env.frame = some X.env.locals := by rfl) (ne : X.N[ie]? = some ye := by rfl) (nk : X.N[ik]? = some yk := by rfl) (le : X.env.kindOf ye = some .local := by rfl) (lk : Loc X.env.scope yk := by first | exact Or.inl rfl | exact Or.inr rfl)
    (ve : Vis X.env.scope ye := by first | exact Or.inl rfl | exact Or.inr (Or.inl rfl) | exact Or.inr (Or.inr rfl)) (hfn : X.fn yk = true ∨ X.env.scope.names.lookup yk = some .local := by first | exact .inl rfl | exact .inr rfl) (hg : Gl X x := by rfl) (gc : Gl X ce := by rfl)
    (d1 : (x == ("__debug__" : Str)) = false := by decide) (d2 : (ce == ("__debug__" : Str)) = false := by decide) (d3 : (ye == ("__debug__" : Str)) = false := by decide) (d4 : (ye == ("__classdict__" : Str)) = false := by decide)
    (hsw : swapsWith (.Call (.Name x p3) [.Name ye p4] [] p5) (some (.Name yk p2)) p6.line X.env = pure false := by rfl)
    (hst : starEach [.Name ye p4] X.env = (false, eval (.Name ye p4) X.env) :: starEach [] X.env := by rfl) (hpl : (backTo p5 (starEach [] X.env)).any (·.1) = false := by rfl) {np p7 : Pos} :
    PS X (.Try body [.ExceptHandler (some (.Name ce np)) (some ye) [.Assign [.Name yk p2] (.Call (.Name x p3) [.Name ye p4] [] p5) p6] p7] [] [] pos) (rdS Γ ar W (sTryK kn ie ik sb)) := by
  obtain ⟨f, fd, y, hm, hk, hbi, hF⟩ := D.ex
  obtain ⟨C, hce, hex⟩ := D.ca
  refine PS.imp (L2N.ps_try_as (tb := fun W => rdS Γ ar W sb) (ts := tsK Γ kn ie ik) (Wout := W) hs hf hN ne le ⟨gc, d2, .inl hce⟩ tk hb fun a oe cls d pn hz hfl => ?_) fun E σ H q => ?_
  · refine ⟨fun pins s σ H E I q => ?_⟩
    obtain ⟨c, kd, rfl, rfl, hkn, hσ, kk⟩ := q
    have hot : Hot1 (X.suite a ((a, oe) :: pn)).A (a, oe) := by
      obtain ⟨vs, hv⟩ := hfl
      exact ⟨rfl, vs, hv, hz.2.2 vs hv⟩
    have F := hF c kd hkn
    rw [← hK] at F hk hbi
    have pc : PE (X.suite a ((a, oe) :: pn)) (.Call (.Name x p3) [.Name ye p4] [] p5) (tCallE (a, oe) (spK (Γ.cl c) kd) (tCons (tVar ie) tNil)) :=
      pe_callE (X := X.suite a ((a, oe) :: pn)) F ⟨hr.dp, hr.un⟩ hot List.mem_cons_self hg hm hk hbi (fun σ pins H s e s' I z => by
        obtain ⟨a', B, H', cls', d', h1, h2, h3, h4, h5, h6, h7, z⟩ := z
        exact z.elim) (pa_cons (pe_var ne ve d3 d4) pa_nil hst) d1 hst hpl
    have pp : PSs (X.suite a ((a, oe) :: pn)) [.Assign [.Name yk p2] (.Call (.Name x p3) [.Name ye p4] [] p5) p6] _ := pss_one (ps_set (X := X.suite a ((a, oe) :: pn)) hN nk lk pc hsw hfn)
    exact pp.run pins s σ H E I ⟨.ref a, hσ, rfl, hz.zc, hfl, fun H' sm => kk H' sm⟩
  · obtain ⟨S, F, fl, S', R, e, kk⟩ := q
    unfold sTryK at e
    cases e1 : sb S with
    | none => rw [e1] at e; cases e
    | some o =>
      obtain ⟨f1, S1⟩ := o
      rw [e1] at e
      simp only [Option.bind_some] at e
      refine ⟨S, F, f1, S1, R, e1, ?_⟩
      cases f1 with
      | ex c =>
        simp only at e
        by_cases hl : ie < S1.length
        · rw [if_pos hl] at e
          cases e2 : kn c with
          | none => rw [e2] at e; cases e
          | some kd =>
          rw [e2] at e
          cases e
          intro σ' H' F' R' u
          refine ⟨true, by rw [hK]; exact hex c kd e2, fun _ a ha => ⟨c, kd, rfl, rfl, e2, ?_, fun H2 sm => ?_⟩, fun z => nomatch z⟩
          · rw [List.getElem?_set_self (by rw [← R'.len]; exact hl)]
          · have R2 := ((((R'.junk hie (some (.ref a))).same sm).putIm (G := FE) hik (.str kd) rfl).junk hie none)
            exact kk _ H2 F' R2 (u.trans (Upd.of_same sm))
        · rw [if_neg hl] at e; cases e
      | nx => cases e; exact kk
      | bk => cases e; exact kk
      | ct => cases e; exact kk
      | rt t => cases e; exact kk
end
end VT
namespace VT
open PySem PySem.Spec PyProof.Rows L2
end VT
namespace VT
open PySem PySem.Spec PyProof.Rows L2
section
variable {Γ : Gx} {X : Cx} {ar : Fx} {W : WX} {e o : Expr} {fa fi : EF} {pos : Pos} {pl : PF} {g gb : BF}
def nLst (gs : BAF) : BF := fun S => (gs S).bind fun l => (valsOf l).bind fun ts => gd (ts.length ≤ 100000 ∧ T.imAll ts = true) (.nd .lst ts)
theorem n_lst {es : List Expr} {gs : BAF} (h : PA X es (rdBA Γ ar gs)) : PE X (.List es pos) (rdN Γ ar (nLst gs)) := PE.imp (pe_lst h) fun σ H Q q => by
  obtain ⟨S, F, t, R, e, k⟩ := q
  unfold nLst at e
  cases e1 : gs S with
  | none => rw [e1] at e; cases e
  | some l =>
    rw [e1] at e
    simp only [Option.bind_some] at e
    cases e2 : valsOf l with
    | none => rw [e2] at e; cases e
    | some ts =>
      rw [e2] at e
      obtain ⟨⟨c1, c2⟩, rfl⟩ := gd_some.mp e
      refine ⟨S, F, l, R, e1, fun vs H1 G1 s1 A1 n1 => ?_⟩
      obtain ⟨len, Gs, h1, h3, h4⟩ := A1.vals e2
      refine ⟨sz5 (by omega), fun p hp => ?_⟩
      have s2 : Same H1 (upd H1 p (.lst vs)) := fun b u z => by rw [upd_ne (ne_of_none z hp)]; exact z
      refine k _ _ (fun a => a = p) (s1.trans s2) (.nd (Fs := fun _ => FE) upd_same len (fun _ => ⟨rfl, fun _ z => z⟩) (fun i v t q1 q2 => ((h1 i v t q1 q2).same s2).im (imAll_iff.mp c2 i t q2) FE) (fun _ _ _ _ z _ => z) fun _ _ z => z.elim) ⟨fun a z => ?_, fun a z => ?_⟩
      · rw [z]; exact s1.free hp
      · rw [z, upd_same]; exact fun y => nomatch y
def sSetVE (i : Nat) (fi fa : EF) : SF := fun S => (fa S).bind fun rx => match rx with
  | (.ex c, S1) => some (.ex c, S1)
  | (.ok t, S1) => if t.im = true then (sl S1 i).bind fun _ => (fi S1).bind fun ry => match ry with
    | (.ex c, S2) => some (.ex c, S2)
    | (.ok (.int k), S2) => (sl S2 i).bind fun u => (setM k u [t]).bind fun ur => some (.nx, S2.set i (some ur.1))
    | _ => none
    else none
theorem s_setVE (i : Nat) {y : Str} {ix : Expr} {pos' pv : Pos} (hi : PE X ix (rdE Γ ar W fi)) (hv : PE X e (rdE Γ ar W fa))
    (hN : X.N[i]? = some y := by rfl) (hvis : Vis X.env.scope y := by first | exact Or.inl rfl | exact Or.inr (Or.inl rfl) | exact Or.inr (Or.inr rfl)) (hd : (y == ("__debug__" : Str)) = false := by decide) (hcd : (y == ("__classdict__" : Str)) = false := by decide)
    (hs : swapsWithSole [.Subscript (.Name y pv) ix pos'] e pos.line X.env = pure false := by rfl) (hw : swappedStores [.Subscript (.Name y pv) ix pos'] e X.env = pure none := by rfl) (h1 : (assignEach [.Subscript (.Name y pv) ix pos'] X.env).map (·.2) = [assign (.Subscript (.Name y pv) ix pos') X.env] := by rfl)
    (hasg : ∀ v, assign (.Subscript (.Name y pv) ix pos') X.env v = (do let ov ← holding [v] (eval (.Name y pv) X.env); let iv ← holding [v, ov] (eval ix X.env); standAt pos'; holding [v, ov, iv] (setItem ov iv v); release [v, ov, iv] []) := by intro _; rfl) :
    PS X (.Assign [.Subscript (.Name y pv) ix pos'] e pos) (rdS Γ ar W (sSetVE i fi fa)) := by
  refine PS.imp (ps_asg hv (pg_sub (pe_var hN hvis hd hcd) hi set_list hasg) hs hw h1) fun D σ H q => ?_
  obtain ⟨S, F, fl, S', R, ee, kk⟩ := q
  unfold sSetVE at ee
  cases q0 : fa S with
  | none => rw [q0] at ee; cases ee
  | some o1 =>
    obtain ⟨r1, S1⟩ := o1
    rw [q0] at ee
    simp only [Option.bind_some] at ee
    refine ⟨S, F, r1, S1, R, q0, ?_⟩
    cases r1 with
    | ex c => cases ee; exact fun H' F' R' u => kk σ H' F' R' u
    | ok t =>
      simp only at ee
      by_cases im : t.im = true
      · rw [if_pos im] at ee
        cases q2 : sl S1 i with
        | none => rw [q2] at ee; cases ee
        | some t0 =>
          rw [q2] at ee
          simp only [Option.bind_some] at ee
          intro v H1 F1 G1 o1
          obtain ⟨v0, ev0, r0⟩ := o1.rs.slot (sl_some.mp q2)
          refine ⟨v0, ev0, ?_⟩
          have u1 : Upd H H1 F F1 := o1.u.sub fun a z => .inl z
          cases q3 : fi S1 with
          | none => rw [q3] at ee; cases ee
          | some o2 =>
            obtain ⟨r2, S2⟩ := o2
            rw [q3] at ee
            simp only [Option.bind_some] at ee
            refine ⟨S1, F1, r2, S2, o1.rs, q3, ?_⟩
            cases r2 with
            | ex c => cases ee; exact fun H' F' R' u => kk σ H' F' R' (u1.trans u)
            | ok w =>
              cases w with
              | int k =>
                simp only at ee
                intro iv H2 F2 G2 o2
                have ri := o2.r
                cases ri
                cases q4 : sl S2 i with
                | none => rw [q4] at ee; cases ee
                | some u =>
                  rw [q4] at ee
                  simp only [Option.bind_some] at ee
                  cases q5 : setM k u [t] with
                  | none => rw [q5] at ee; cases ee
                  | some ur =>
                    obtain ⟨u', res⟩ := ur
                    rw [q5] at ee
                    cases ee
                    have rt : Rep Γ H2 v t FE := by
                      exact (o1.r.im im FE).ke o2.u.toKe fun a z _ => z
                    have A : ArgsP Γ H2 σ [v] [.val t] (FU FE FE) := argsP_nil.val rt fun _ _ z => z
                    have fin := mut_core (p := []) (Q := fun _ H' => D.nx σ H') setM_ok o2.rs A rfl (fun a f g => g.elim id id) (fun a g => g.elim False.elim False.elim) q4 rfl q5 ev0 rfl fun w H' F' G R' rw' d al u2 => kk σ H' F' R' ?_
                    · obtain ⟨y', ey, q⟩ := fin
                      cases ey
                      exact q
                    · exact u1.trans ((o2.u.sub fun a z => .inl z).trans ⟨⟨fun c z hc nf => u2.keep c z hc fun y => y.elim nf fun y => y.elim id id, u2.imm⟩, fun c hc => (u2.new c (.inl hc)).elim (fun y => y.elim .inl fun y => y.elim False.elim False.elim) .inr⟩)
              | _ => cases ee
      · rw [if_neg im] at ee; cases ee
structure RaiseOk (K : PySem.W.Frag) (mg : Str → Option Value) (x : Str) (C : Addr) : Prop where
  exc : PySem.W.excIn K C [.type "ValueError", .type "Exception", .type "BaseException", .type "object"] "ValueError.__new__" = true
  at_ : mg x = some (.ref C)
  kp : PySem.W.keepIn K (.ref C) = true
  sub : PySem.W.subIn K (.ref C) (.type "BaseException") = some true
  ty : PySem.W.typeIn K (.ref C) = some (.type "type")
theorem s_raiseX {c : Nat} {x m : Str} {j : Nat} {p p2 pos2 : Pos} (Rx : RaiseOk X.K X.mg x (Γ.cl c)) (tk : L2N.Takes X W) (hc : X.calm = true := by rfl) (hg : Gl X x := by rfl) (hdb : (x == ("__debug__" : Str)) = false := by decide) :
    PS X (.Raise (some (.Call (.Name x p) [.Constant (.str m) j p2] [] pos)) none pos2) (rdS Γ ar W (sRaise c)) :=
  s_raise hc tk (L2N.pmk_own PySem.F.excBase_ValueError Rx.exc Rx.at_ Rx.kp (raises_own Rx.sub Rx.ty) hg hdb)
end
end VT
namespace VT
open PySem L2
theorem kit_self {K : PySem.W.Frag} {C : Addr} : PySem.W.kitOne K (.ref C) (.ref C) = some true := by
  unfold PySem.W.kitOne
  rw [if_pos (by simp)]
theorem kit_ve {K : PySem.W.Frag} {C : Addr} (h : PySem.W.subIn K (.ref C) (.type "ValueError") = some true) : PySem.W.kitOne K (.ref C) (.type "ValueError") = some true := by
  unfold PySem.W.kitOne PySem.W.kitCls
  rw [if_neg (by simp)]
  simp only
  rw [if_pos (by decide), h]
theorem kit_no {K : PySem.W.Frag} {C A : Addr} (hs : PySem.W.subIn K (.ref C) (.ref C) = some true) (hc : PySem.W.isClsIn K A = true) (ht : PySem.W.typeIn K (.ref A) = some (.type "type")) (h : PySem.W.subIn K (.ref C) (.ref A) = some false) : PySem.W.kitOne K (.ref C) (.ref A) = some false := by
  have hne : C ≠ A := fun z => by rw [← z, hs] at h; cases h
  unfold PySem.W.kitOne PySem.W.kitCls
  rw [if_neg (by simpa using hne)]
  simp only
  have hc' : (PySem.W.clsIn K A).isSome = true := hc
  rw [if_pos (by rw [hc', ht]; decide), h]
end VT
namespace VT
open PySem L2
section
variable {fa fb fi : EF} {g gb : BF} {S S1 : TSt} {i j n c ie ik : Nat} {s : SF} {b : Bool} {t x y u : T} {pl : PF} {gs : BAF} {ts : List T} {p : List Nat} {kn : Nat → Option Str} {tf : GF} {fo : Int → Int → Int} {vs : List Nat} {cond elt : EF}
theorem kSet_ex : kSet i (.ex c, S) = some (.ex c, S) := rfl
theorem kRet_ex : kRet (.ex c, S) = some (.ex c, S) := rfl
theorem sRaise_q : sRaise c S = some (.ex c, S) := rfl
def kTry2 (ie ik : Nat) (S : TSt) (kd : Str) : Option (Fl × TSt) := some (.nx, ((S.set ie none).set ik (some (.str kd))).set ie none)
def kTry (kn : Nat → Option Str) (ie ik : Nat) : Fl × TSt → Option (Fl × TSt)
  | (.ex c, S1) => if ie < S1.length then (kn c).bind (kTry2 ie ik S1) else none
  | r => some r
theorem sTryK_q : sTryK kn ie ik s S = (s S).bind (kTry kn ie ik) := by
  unfold sTryK
  cases s S with
  | none => rfl
  | some r => obtain ⟨f, S1⟩ := r; cases f <;> rfl
theorem kTry_ex : kTry kn ie ik (.ex c, S) = if ie < S.length then (kn c).bind (kTry2 ie ik S) else none := rfl
theorem kTry_nx : kTry kn ie ik (.nx, S) = some (.nx, S) := rfl
theorem kTry_rt : kTry kn ie ik (.rt t, S) = some (.rt t, S) := rfl
theorem kTry2_q {kd : Str} : kTry2 ie ik S kd = some (.nx, ((S.set ie none).set ik (some (.str kd))).set ie none) := rfl
def kSv3 (t : T) (i : Nat) : Rs T × TSt → Option (Fl × TSt)
  | (.ex c, S2) => some (.ex c, S2)
  | (.ok (.int k), S2) => (sl S2 i).bind fun u => (setM k u [t]).bind fun ur => some (.nx, S2.set i (some ur.1))
  | _ => none
def kSv2 (t : T) (i : Nat) (fi : EF) (S : TSt) (_ : T) : Option (Fl × TSt) := (fi S).bind (kSv3 t i)
def kSv1 (i : Nat) (fi : EF) : Rs T × TSt → Option (Fl × TSt)
  | (.ex c, S1) => some (.ex c, S1)
  | (.ok t, S1) => if t.im = true then (sl S1 i).bind (kSv2 t i fi S1) else none
theorem sSetVE_q : sSetVE i fi fa S = (fa S).bind (kSv1 i fi) := by
  unfold sSetVE
  cases fa S with
  | none => rfl
  | some r =>
    obtain ⟨r, S1⟩ := r
    cases r with
    | ex c => rfl
    | ok t =>
      show (if t.im = true then _ else _) = (if t.im = true then _ else _)
      congr 1
theorem kSv1_ok : kSv1 i fi (.ok t, S) = if t.im = true then (sl S i).bind (kSv2 t i fi S) else none := rfl
theorem kSv2_q : kSv2 t i fi S u = (fi S).bind (kSv3 t i) := rfl
def kSv4 (k : Int) (t : T) (i : Nat) (S : TSt) (u : T) : Option (Fl × TSt) := (setM k u [t]).bind fun ur => some (.nx, S.set i (some ur.1))
theorem kSv3_q {k : Int} : kSv3 t i (.ok (.int k), S) = (sl S i).bind (kSv4 k t i S) := rfl
theorem kSv4_ints {k v : Int} {l : List Int} (h0 : 0 ≤ k) (h1 : k < l.length) : kSv4 k (.int v) i S (.nd .lst (l.map .int)) = some (.nx, S.set i (some (.nd .lst ((l.set k.toNat v).map .int)))) := by
  have e : ixN (l.map T.int).length k = some k.toNat := by
    unfold ixN
    rw [List.length_map, if_pos h0, if_pos h1]
  unfold kSv4
  show ((ixN (l.map T.int).length k).bind _).bind _ = _
  rw [e]
  simp [List.map_set]
def kNL2 (ts : List T) : Option T := gd (ts.length ≤ 100000 ∧ T.imAll ts = true) (.nd .lst ts)
def kNL (l : List Arg) : Option T := (valsOf l).bind kNL2
theorem nLst_q : nLst gs S = (gs S).bind kNL := rfl
theorem kNL_q {as : List Arg} : kNL as = (valsOf as).bind kNL2 := rfl
theorem kNL2_q : kNL2 ts = gd (ts.length ≤ 100000 ∧ T.imAll ts = true) (.nd .lst ts) := rfl
def kLR (j : Nat) (vs : List Nat) (cond elt : EF) : Rs T × TSt → Option (Rs T × TSt)
  | (.ex c, S1) => some (.ex c, S1)
  | (.ok (.int n), S1) => if 0 ≤ n ∧ n < 100000 then lcEnd vs S1 (eLcFrom j vs cond elt (rgT n) S1) else none
  | _ => none
theorem eLcR_q : eLcR j vs fa cond elt S = (fa S).bind (kLR j vs cond elt) := by
  unfold eLcR
  cases fa S with
  | none => rfl
  | some r => obtain ⟨r, S1⟩ := r; cases r with
    | ex c => rfl
    | ok w => cases w <;> rfl
theorem kLR_q {k : Int} : kLR j vs cond elt (.ok (.int k), S) = if 0 ≤ k ∧ k < 100000 then lcEnd vs S (eLcFrom j vs cond elt (rgT k) S) else none := rfl
theorem mulT_l {k : Int} : mulT (.nd .lst [u]) (.int k) = gd (0 ≤ k ∧ k ≤ 100000 ∧ u.im = true) (.nd .lst (List.replicate k.toNat u)) := rfl
def rgI (n : Int) : List Int := (List.range n.toNat).map fun (k : Nat) => (k : Int)
theorem rgT_ints (n : Int) : rgT n = (rgI n).map .int := by unfold rgT rgI; rw [List.map_map]; rfl
theorem rgI_length {n : Int} : (rgI n).length = n.toNat := by simp [rgI]
theorem mem_rgI {n k : Int} : k ∈ rgI n ↔ 0 ≤ k ∧ k < n := by
  unfold rgI
  constructor
  · intro h
    obtain ⟨j, hj, rfl⟩ := List.mem_map.mp h
    have := List.mem_range.mp hj
    omega
  · intro h
    exact List.mem_map.mpr ⟨k.toNat, List.mem_range.mpr (by omega), by omega⟩
theorem rep_ints {n : Nat} {v : Int} : List.replicate n (T.int v) = (List.replicate n v).map .int := by simp
theorem get_int {l : List Int} {k : Int} (h0 : 0 ≤ k) (h1 : k < l.length) : (l.map T.int)[k.toNat]? = some (.int (l.getD k.toNat 0)) := by
  have hk : k.toNat < l.length := by omega
  rw [List.getElem?_map, List.getElem?_eq_getElem hk]
  simp [List.getD_eq_getElem?_getD, List.getElem?_eq_getElem hk]
theorem getD_set {l : List Int} {k : Nat} {v : Int} (h : k < l.length) : (l.set k v).getD k 0 = v := by simp [List.getD_eq_getElem?_getD, h]
theorem set_int {l : List Int} {k : Nat} {v : Int} : (l.map T.int).set k (.int v) = (l.set k v).map .int := by rw [List.map_set]
theorem app_int {l : List Int} {v : Int} : l.map T.int ++ [.int v] = (l ++ [v]).map .int := by simp
theorem plI {d : Nat} (l : List Int) : plT (d + 1) (.nd .lst (l.map .int)) = true := by rw [plT]; exact pl_ints l
theorem teq_li {l m : List Int} : teq (.nd .lst (l.map .int)) (.nd .lst (m.map .int)) = decide (l = m) := by
  have h := teq_iff (plI (d := 0) l) (plI (d := 0) m)
  cases e : decide (l = m) with
  | true =>
    have := of_decide_eq_true e
    rw [this]
    exact teq_self (plI (d := 0) m)
  | false =>
    cases e2 : teq (.nd .lst (l.map .int)) (.nd .lst (m.map .int)) with
    | false => rfl
    | true =>
      have z := h.mp e2
      injection z with _ z
      have inj : ∀ {a b : List Int}, a.map T.int = b.map T.int → a = b := fun {a b} => by
        induction a generalizing b with
        | nil => cases b <;> simp
        | cons x a ih => cases b with
          | nil => simp
          | cons y b => intro w; simp only [List.map_cons, List.cons.injEq, T.int.injEq] at w; rw [w.1, ih w.2]
      exact absurd (inj z) (of_decide_eq_false e)
theorem eqT_ln {l : List Int} : eqT (.nd .lst (l.map .int)) (.nd .lst []) = some (.bl (decide (l = []))) := by
  have := teq_li (l := l) (m := [])
  rw [← this]
  exact eqT_pl (plI (d := 7) l) (plI (d := 7) [])
theorem neT_ln {l : List Int} : neT (.nd .lst (l.map .int)) (.nd .lst []) = some (.bl (!decide (l = []))) := by
  have := teq_li (l := l) (m := [])
  rw [← this]
  exact neT_pl (plI (d := 7) l) (plI (d := 7) [])
end
end VT
namespace VT
open PySem PySem.Spec PyProof.Rows L2
section
variable {Γ : Gx} {X : Cx} {ar : Fx} {W : WX} {e o : Expr} {fa fi : EF} {pos : Pos} {pl : PF} {g ga gb : BF}
def negT : T → Option T
  | .int i => some (.int (-i))
  | _ => none
theorem negT_ok : UnT Γ (fun x H Q => rU (fun i => .int (-i)) x H Q) negT := by
  intro H x t1 t G1 Q r1 e k
  unfold negT at e
  split at e
  · cases e
    cases r1
    exact ⟨_, rfl, k _ H FE (Same.refl H) (.int _) new_FE⟩
  · cases e
theorem n_neg (ha : PE X e (rdB Γ ar ga)) : PE X (.UnaryOp .USub e pos) (rdN Γ ar (bUn negT ga)) := PE.imp (pe_un un_neg ha) fun σ H Q q => tUn_b negT_ok σ H Q q
end
end VT
namespace VT
open PySem PySem.Spec PyProof.Rows L2
def keyT : T → Option Key
  | .int i => some (.inl i)
  | .str x => some (.inr x)
  | _ => none
def keysT : List T → Option (List Key)
  | [] => some []
  | t :: ts => (keyT t).bind fun k => (keysT ts).bind fun ks => some (k :: ks)
def ixK {κ : Type} [DecidableEq κ] (k : κ) : List κ → Option Nat
  | [] => none
  | k' :: ks => if k' = k then some 0 else (ixK k ks).bind fun j => some (j + 1)
theorem ixK_lt {κ : Type} [DecidableEq κ] {k : κ} : ∀ {ks : List κ} {j : Nat}, ixK k ks = some j → j < ks.length
  | [], _, e => by cases e
  | k' :: ks, j, e => by
    unfold ixK at e
    by_cases h : k' = k
    · rw [if_pos h] at e; cases e; simp
    · rw [if_neg h] at e
      cases e3 : ixK k ks with
      | none => rw [e3] at e; cases e
      | some j' =>
        rw [e3] at e
        cases e
        have := ixK_lt e3
        simp
        omega
theorem valV_ix {κ : Type} [DecidableEq κ] {k : κ} : ∀ {ks : List κ} {vs : List V}, ks.length = vs.length → valV (ks.zip vs) k = (ixK k ks).bind fun j => vs[j]?
  | [], [], _ => rfl
  | k' :: ks, v :: vs, h => by
    rw [List.zip_cons_cons]
    unfold ixK
    by_cases e : k' = k
    · rw [if_pos e, valV_pos e]; rfl
    · rw [if_neg e, valV_neg e, valV_ix (by simpa using h)]
      cases ixK k ks <;> rfl
  | [], _ :: _, h => by simp at h
  | _ :: _, [], h => by simp at h
theorem putK_some {κ : Type} [DecidableEq κ] {k : κ} {y : V} : ∀ {ks : List κ} {vs : List V} {j : Nat}, ks.Nodup → ks.length = vs.length → ixK k ks = some j → putK (ks.zip vs) k y = ks.zip (vs.set j y) := by
  intro ks vs j nd hl e
  have hs : (valV (ks.zip vs) k).isSome = true := by
    rw [valV_ix hl, e]
    have := ixK_lt e
    show (vs[j]?).isSome = true
    rw [List.getElem?_eq_getElem (by omega)]
    try rfl
  unfold putK
  rw [if_pos (by rw [valV_any]; exact hs)]
  clear hs
  induction ks generalizing vs j with
  | nil => cases e
  | cons k' ks ih =>
    cases vs with
    | nil => simp at hl
    | cons v vs =>
      unfold ixK at e
      rw [List.nodup_cons] at nd
      rw [List.zip_cons_cons, List.map_cons]
      by_cases h : k' = k
      · rw [if_pos h] at e
        cases e
        subst h
        rw [List.set_cons_zero, List.zip_cons_cons]
        simp only [if_true]
        congr 1
        have : ∀ (l : List (κ × V)), (∀ p ∈ l, p.1 ≠ k') → l.map (fun kv => if kv.1 = k' then (kv.1, y) else kv) = l := fun l hl => by
          induction l with
          | nil => rfl
          | cons p l ih2 =>
            rw [List.map_cons, if_neg (hl p List.mem_cons_self), ih2 fun q hq => hl q (List.mem_cons_of_mem _ hq)]
        exact this _ fun p hp hz => nd.1 (by
          rw [← hz]
          exact (List.of_mem_zip (a := p.1) (b := p.2) hp).1)
      · rw [if_neg h] at e
        cases e3 : ixK k ks with
        | none => rw [e3] at e; cases e
        | some j' =>
          rw [e3] at e
          cases e
          rw [if_neg h, List.set_cons_succ, List.zip_cons_cons, ih nd.2 (by simpa using hl) e3]
theorem putK_none {κ : Type} [DecidableEq κ] {k : κ} {y : V} {ks : List κ} {vs : List V} (hl : ks.length = vs.length) (e : ixK k ks = none) : putK (ks.zip vs) k y = (ks ++ [k]).zip (vs ++ [y]) := by
  rw [putK_new y (by rw [valV_ix hl, e]; rfl), List.zip_append hl]
  try rfl
section
variable {Γ : Gx} {ar : Fx} {W : WX} {X : Cx} {a b e o : Expr} {pos : Pos} {ga gb gc g : BF} {fa fb : EF} {pl : PF}
theorem keyT_rep {H : Hp} {v : V} {t : T} {G : FP} {k : Key} (r : Rep Γ H v t G) (e : keyT t = some k) : v = kV k := by
  cases r <;> cases e <;> rfl
theorem keysT_rep {H : Hp} {G : FP} : ∀ {vs : List V} {ts : List T} {ks : List Key}, vs.length = ts.length → (∀ (i : Nat) (v : V) (t : T), vs[i]? = some v → ts[i]? = some t → Rep Γ H v t G) → keysT ts = some ks → vs = ks.map kV
  | [], [], ks, _, _, e => by cases e; rfl
  | v :: vs, t :: ts, ks, hl, h, e => by
    unfold keysT at e
    cases e1 : keyT t with
    | none => rw [e1] at e; cases e
    | some k =>
      rw [e1] at e
      simp only [Option.bind_some] at e
      cases e2 : keysT ts with
      | none => rw [e2] at e; cases e
      | some l =>
        rw [e2] at e
        cases e
        have z := keysT_rep (vs := vs) (ts := ts) (by simpa using hl) (fun i v t a b => h (i + 1) v t (by simpa using a) (by simpa using b)) e2
        rw [List.map_cons, keyT_rep (h 0 v t rfl rfl) e1, z]
  | [], _ :: _, _, hl, _, _ => by simp at hl
  | _ :: _, [], _, hl, _, _ => by simp at hl
def T.kd : T → List T
  | .nd _ ts => ts
  | _ => []
def isDi : T → Bool
  | .nd (.dK _) _ => true
  | .nd (.dT _) _ => true
  | _ => false
/-- where a key stands in a dict -/
def dix : T → T → Option (Option Nat)
  | .nd (.dK ks) _, w => (keyT w).bind fun k => some (ixK k ks)
  | .nd (.dT ks) _, .nd .tup us => (keysT us).bind fun k => some (ixK k ks)
  | _, _ => none
/-- a tuple's object, by its address -/
theorem Rep.tupAt {H : Hp} {x : V} {ts : List T} {G : FP} (h : Rep Γ H x (.nd .tup ts) G) :
    ∃ a vs, x = .ref a ∧ H a = some (.tup vs) ∧ vs.length = ts.length ∧ ∀ (i : Nat) (v : V) (t : T), vs[i]? = some v → ts[i]? = some t → Rep Γ H v t G := by
  cases h with
  | @nd _ _ a vs _ Fs hat hl hm hc hd hs => exact ⟨a, vs, rfl, hat, hl, fun i v t e1 e2 => (hc i v t e1 e2).mono (hs i)⟩
/-- what a look into a dict finds, by the objects -/
theorem dix_at {H : Hp} {k : Kd} {a : Addr} {vs : List V} {ts : List T} {y : V} {w : T} {G' : FP} {o : Option Nat} (hat : At Γ H k a vs) (hl : vs.length = ts.length) (r' : Rep Γ H y w G') (e : dix (.nd k ts) w = some o) :
    IsD H a ∧ DGet H a y (o.bind fun j => vs[j]?) ∧ (∀ j, o = some j → j < ts.length) ∧ isDi (.nd k ts) = true := by
  cases k with
  | dK ks =>
    obtain ⟨hl2, ha⟩ : ks.length = vs.length ∧ H a = some (.dK (ks.zip vs)) := hat
    have e : (keyT w).bind (fun k => some (ixK k ks)) = some o := e
    cases e1 : keyT w with
    | none => rw [e1] at e; cases e
    | some kk =>
      rw [e1] at e
      cases e
      refine ⟨.inl ⟨_, .inl ha⟩, ?_, fun j hj => ?_, rfl⟩
      · rw [keyT_rep r' e1, ← valV_ix hl2]
        exact DGet.k ha
      · have := ixK_lt hj; omega
  | dT ks =>
    obtain ⟨hl2, ha⟩ : ks.length = vs.length ∧ H a = some (.dT (ks.zip vs)) := hat
    cases w with
    | nd kw us =>
      cases kw with
      | tup =>
        have e : (keysT us).bind (fun k => some (ixK k ks)) = some o := e
        cases e1 : keysT us with
        | none => rw [e1] at e; cases e
        | some kk =>
          rw [e1] at e
          cases e
          obtain ⟨b, ws, rfl, hb, hlw, hc⟩ := r'.tupAt
          refine ⟨.inr ⟨_, .inl ha⟩, ?_, fun j hj => ?_, rfl⟩
          · rw [keysT_rep hlw hc e1] at hb
            rw [← valV_ix hl2]
            exact DGet.t ha hb
          · have := ixK_lt hj; omega
      | _ => cases e
    | _ => cases e
  | _ => cases e
theorem dix_get {H : Hp} {x y : V} {u w : T} {G G' : FP} {o : Option Nat} (r : Rep Γ H x u G) (r' : Rep Γ H y w G') (e : dix u w = some o) :
    ∃ (a : Addr) (vs : List V), x = .ref a ∧ vs.length = u.kd.length ∧ IsD H a ∧ DGet H a y (o.bind fun j => vs[j]?) ∧ (∀ j, o = some j → j < u.kd.length) ∧ ∀ (i : Nat) (v : V) (t : T), vs[i]? = some v → u.kd[i]? = some t → Rep Γ H v t G := by
  cases r with
  | @nd _ k a vs ts Fs hat hl hm hc hd hs =>
    obtain ⟨h1, h2, h3, h4⟩ := dix_at hat hl r' e
    exact ⟨a, vs, rfl, hl, h1, h2, h3, fun i v t e1 e2 => (hc i v t e1 e2).mono (hs i)⟩
  | _ => unfold dix at e; cases e
def rDix : R2 := fun x y H Q => ∃ a v, x = .ref a ∧ DGet H a y (some v) ∧ Q v H
theorem ix_dict (hu : X.A.units + 1 < cLine) : IxR X rDix := by
  intro value slice pins s σ H x y v u Q I rx ry h hs
  obtain ⟨a, z, rfl, g, q⟩ := h
  obtain rfl : v = Value.ref a := rx
  have hT := dict_typeIs I g
  unfold subscriptTail
  refine wpAny_bind ?_
  rw [getitemInPython_of_ne hT.not_modules]
  refine wpAny_bind (wpAny_specialOf hT PySem.F.slot_dict_getitem.lookup ?_)
  have fin : wpAny (model X.prog X.w) X.A (subscripted slice false (.ref a) u) (fun r s₃ => wpAny (model X.prog X.w) X.A (letTemporaryGo value (.ref a) r >>= fun _ => pure r) (EP X pins σ Q) X.xe s₃) X.xe s := by
    rw [hs]
    exact wpAny_operating (wpAny_mono (d_getItem hu I g ry fun w' s3 I3 rw' => ⟨z, H, I3, rw', q⟩) (fun r s₃ h₃ => wpAny_bind (wpAny_letTemporaryGo (wpAny_pure h₃))) fun _ _ x => x)
  first
    | exact wpAny_pure (wpAny_bind fin)
    | exact wpAny_bind (wpAny_pure (wpAny_bind fin))
    | exact wpAny_bind fin
def dgetT (u w : T) : Option T := (dix u w).bind fun o => o.bind fun j => (u.kd[j]?).bind imO
theorem dgetT_ok : OpT Γ rDix dgetT := by
  intro H x y t1 t2 t G1 G2 Q r1 r2 e k
  unfold dgetT at e
  cases e1 : dix t1 t2 with
  | none => rw [e1] at e; cases e
  | some o =>
    rw [e1] at e
    simp only [Option.bind_some] at e
    cases o with
    | none => cases e
    | some j =>
      simp only [Option.bind_some] at e
      obtain ⟨e2, hi⟩ := bind_im e
      obtain ⟨a, vs, rfl, hl, _, g, hj, hc⟩ := dix_get r1 r2 e1
      have hj' := hj j rfl
      have ev : vs[j]? = some (vs[j]'(by omega)) := List.getElem?_eq_getElem (by omega)
      refine ⟨a, _, rfl, ?_, k _ H FE (Same.refl H) ((hc j _ t ev e2).im hi FE) new_FE⟩
      rw [← ev]
      exact g
def ixA (u w : T) : Option T := if isDi u = true then dgetT u w else ixT u w
def rIxA (K : PySem.W.Frag) : R2 := fun x y H Q => rIx K x y H Q ∨ rDix x y H Q
theorem ix_any (hu : X.A.units + 1 < cLine) : IxR X (rIxA X.K) := ix_seq.or (ix_dict hu)
theorem ixA_ok : OpT Γ (rIxA Γ.K) ixA := by
  intro H x y t1 t2 t G1 G2 Q r1 r2 e k
  unfold ixA at e
  by_cases h : isDi t1 = true
  · rw [if_pos h] at e
    exact .inr (dgetT_ok H x y t1 t2 t G1 G2 Q r1 r2 e k)
  · rw [if_neg h] at e
    exact .inl (ixT_ok H x y t1 t2 t G1 G2 Q r1 r2 e k)
theorem eIxA (hu : X.A.units + 1 < cLine) (ha : PE X a (rdE Γ ar W fa)) (hb : PE X b (rdE Γ ar W fb)) (hs : PlainIx b) (hK : X.K = Γ.K := by rfl) : PE X (.Subscript a b pos) (rdE Γ ar W (eOp ixA fa fb)) := PE.imp (pe_ix (hK ▸ ix_any hu) ha hb hs) (tOp_e ixA_ok)
theorem eIxEB (hu : X.A.units + 1 < cLine) (ha : PE X a (rdE Γ ar W fa)) (hb : PE X b (rdB Γ ar gb)) (hs : PlainIx b) (hK : X.K = Γ.K := by rfl) : PE X (.Subscript a b pos) (rdE Γ ar W (eOpB ixA fa gb)) := PE.imp (pe_ix (hK ▸ ix_any hu) ha hb hs) fun _ _ _ q => tOp_eb ixA_ok q
def pIxA (pl : PF) (g : BF) : PF := fun S => (pl S).bind fun ip => (sl S ip.1).bind fun t => (tAt ip.2 t).bind fun u => (g S).bind fun w => match u, w with
  | .nd .lst ts, .int k => (ixN ts.length k).bind fun j => some (ip.1, ip.2 ++ [j])
  | u, w => (dix u w).bind fun o => o.bind fun j => some (ip.1, ip.2 ++ [j])
theorem p_ixA (hu : X.A.units + 1 < cLine) (ha : PE X a (rdP Γ ar pl)) (hb : PE X b (rdB Γ ar g)) (hs : PlainIx b) (hK : X.K = Γ.K := by rfl) : PE X (.Subscript a b pos) (rdP Γ ar (pIxA pl g)) := by
  refine PE.imp (pe_ix (hK ▸ ix_list.or (ix_dict hu)) ha hb hs) fun σ H Q q => ?_
  obtain ⟨S, F, i, p', t, t1, R, ep, e0, e1, kk⟩ := q
  unfold pIxA at ep
  cases q1 : pl S with
  | none => rw [q1] at ep; cases ep
  | some ip =>
    obtain ⟨i', p⟩ := ip
    rw [q1] at ep
    simp only [Option.bind_some] at ep
    cases q2 : sl S i' with
    | none => rw [q2] at ep; cases ep
    | some t' =>
      rw [q2] at ep
      simp only [Option.bind_some] at ep
      cases q3 : tAt p t' with
      | none => rw [q3] at ep; cases ep
      | some u =>
        rw [q3] at ep
        simp only [Option.bind_some] at ep
        cases q4 : g S with
        | none => rw [q4] at ep; cases ep
        | some w =>
          rw [q4] at ep
          simp only [Option.bind_some] at ep
          split at ep
          · rename_i ts k
            cases q5 : ixN ts.length k with
            | none => rw [q5] at ep; cases ep
            | some j =>
              rw [q5] at ep
              cases ep
              rw [e0] at q2
              cases q2
              refine ⟨S, F, i, p, t, _, R, q1, e0, q3, fun v0 v H1 h1 h2 s1 => ?_⟩
              refine ⟨S, F, _, R.same s1, q4, fun y H2 G2 s2 r2 => ?_⟩
              cases r2
              obtain ⟨a, vs, vj, rfl, hat, hl, hj, fin⟩ := step_down (u := .non) R e0 e1 q3 kk v0 v h1 h2
              have s12 := s1.trans s2
              refine .inl ⟨a, vs, k, vj, rfl, rfl, .inl (.inl (s12 _ _ hat)), ?_, fin H2 s12⟩
              unfold atI
              rw [hl, q5]
              exact hj
          · cases q5 : dix u w with
            | none => rw [q5] at ep; cases ep
            | some oo =>
              rw [q5] at ep
              simp only [Option.bind_some] at ep
              cases oo with
              | none => cases ep
              | some j =>
                cases ep
                rw [e0] at q2
                cases q2
                refine ⟨S, F, i, p, t, _, R, q1, e0, q3, fun v0 v H1 h1 h2 s1 => ?_⟩
                refine ⟨S, F, _, R.same s1, q4, fun y H2 G2 s2 r2 => ?_⟩
                have s12 := s1.trans s2
                obtain ⟨k, ts, rfl⟩ : ∃ k ts, u = .nd k ts := by
                  cases u with
                  | nd k ts => exact ⟨k, ts, rfl⟩
                  | _ => unfold dix at q5; cases q5
                obtain ⟨a, vs, vj, rfl, hat, hl, hj, fin⟩ := step_down (u := .non) R e0 e1 q3 kk v0 v h1 h2
                have hat2 : At Γ H2 k a vs := hat.keep (fun _ o eo => s12 _ _ eo) fun b o _ eo => s12 _ _ eo
                obtain ⟨_, g, _, _⟩ := dix_at hat2 hl r2 q5
                refine .inr ⟨a, vj, rfl, ?_, fin H2 s12⟩
                rw [← hj]
                exact g
def rDIn (neg : Bool) : R2 := fun y x H Q => ∃ a o, x = .ref a ∧ DGet H a y o ∧ Q (.bl (if neg then !o.isSome else o.isSome)) H
theorem op_dIn (hu : X.A.units + 1 < cLine) : OpR X (compareOp .In) (rDIn false) := by
  intro pins s σ H x y v u Q I rx ry h
  obtain ⟨a, o, rfl, g, q⟩ := h
  obtain rfl : u = Value.ref a := ry
  exact d_in hu I g rx fun s3 I3 => ⟨.bl o.isSome, H, I3, rfl, q⟩
def inAO (t1 t2 : T) : Option Bool := if isDi t2 = true then (dix t2 t1).bind fun o => some o.isSome else inO t1 t2
def inA (t1 t2 : T) : Option T := (inAO t1 t2).map .bl
def rInA (K : PySem.W.Frag) (neg : Bool) : R2 := fun x y H Q => rInT K neg x y H Q ∨ rDIn neg x y H Q
theorem op_inA (hu : X.A.units + 65 < cLine) : OpR X (compareOp .In) (rInA X.K false) := or_OpR (op_inT hu) (op_dIn (by omega))
theorem inAO_ok {neg : Bool} {H : Hp} {x y : V} {t1 t2 : T} {b : Bool} {G1 G2 : FP} {Q : VK} (r1 : Rep Γ H x t1 G1) (r2 : Rep Γ H y t2 G2) (e : inAO t1 t2 = some b) (k : Q (.bl (if neg then !b else b)) H) : rInA Γ.K neg x y H Q := by
  unfold inAO at e
  by_cases h : isDi t2 = true
  · rw [if_pos h] at e
    cases e1 : dix t2 t1 with
    | none => rw [e1] at e; cases e
    | some o =>
      rw [e1] at e
      cases e
      obtain ⟨a, vs, rfl, hl, _, g, hj, hc⟩ := dix_get r2 r1 e1
      refine .inr ⟨a, _, rfl, g, ?_⟩
      have : (o.bind fun j => vs[j]?).isSome = o.isSome := by
        cases o with
        | none => rfl
        | some j =>
          have := hj j rfl
          show (vs[j]?).isSome = true
          rw [List.getElem?_eq_getElem (by omega)]
          try rfl
      rw [this]
      exact k
  · rw [if_neg h] at e
    exact .inl (inO_ok r1 r2 e k)
theorem inA_ok : OpT Γ (rInA Γ.K false) inA := by
  intro H x y t1 t2 t G1 G2 Q r1 r2 e k
  unfold inA at e
  cases e1 : inAO t1 t2 with
  | none => rw [e1] at e; cases e
  | some b =>
    rw [e1] at e
    cases e
    exact inAO_ok r1 r2 e1 (k _ H FE (Same.refl H) (.bl _) new_FE)
def dput (ts : List T) (t : T) (w : Kd) (w' : Kd) : Option Nat → T
  | some j => .nd w (ts.set j t)
  | none => .nd w' (ts ++ [t])
def dputM (w : T) : MuF := fun u us => match u, us with
  | .nd (.dK ks) ts, [t] => (keyT w).bind fun k => if ts.length < 100000 ∧ ks.Nodup then some (dput ts t (.dK ks) (.dK (ks ++ [k])) (ixK k ks), .non) else none
  | .nd (.dT ks) ts, [t] => (match w with | .nd .tup us => keysT us | _ => none).bind fun k => if ts.length < 100000 ∧ ks.Nodup then some (dput ts t (.dT ks) (.dT (ks ++ [k])) (ixK k ks), .non) else none
  | _, _ => none
def rDPut (y : V) : V → List V → Hp → VK → Prop := fun x vs H Q => ∃ v a H4, vs = [v] ∧ x = .ref a ∧ DPut H a y v H4 ∧ Q .non H4
/-- a dict is written -/
theorem dput_core {κ : Type} [DecidableEq κ] {mk : List (κ × V) → HO} {kk : List κ → Kd} {ks : List κ} {k : κ} {H : Hp} {a : Addr} {ws : List V} {ts : List T} {Fs : Nat → FP} {G Gx G0 : FP} {y : V} {t : T} {Q : VK}
    (hmk : ∀ l, ¬ Im (mk l)) (hAt : ∀ (H : Hp) (ks : List κ) (ws : List V), ks.length = ws.length → H a = some (mk (ks.zip ws)) → At Γ H (kk ks) a ws) (hmu : ∀ ks, (kk ks).mu = true)
    (nd : ks.Nodup) (hl : ks.length = ws.length) (ha : H a = some (mk (ks.zip ws))) (hlw : ws.length = ts.length) (ga : G a) (na : ∀ i, ¬ Fs i a)
    (hc : ∀ (i : Nat) (v : V) (t : T), ws[i]? = some v → ts[i]? = some t → Rep Γ H v t (Fs i)) (hdd : ∀ i j a, i ≠ j → Fs i a → Fs j a → False) (hss : ∀ i a, Fs i a → G a)
    (ry : Rep Γ H y t G0) (h0 : ∀ a, G0 a → Gx a) (dj : ∀ a, G a → Gx a → False)
    (kq : ∀ v H' G' Gr, Ke H H' G → (∀ a, G' a ∨ Gr a → G a ∨ Gx a) → (∀ a, G' a → Gr a → False) → (∀ a, H a ≠ none → H' a ≠ none) → Rep Γ H' (.ref a) (dput ts t (kk ks) (kk (ks ++ [k])) (ixK k ks)) G' → Rep Γ H' v .non Gr → Q v H') : Q .non (upd H a (mk (putK (ks.zip ws) k y))) := by
  have dj1 : ∀ a, G a → G0 a → False := fun a g z => dj a g (h0 a z)
  cases ej : ixK k ks with
  | some j =>
    rw [ej] at kq
    have hj : j < ts.length := by have := ixK_lt ej; omega
    rw [putK_some nd hl ej]
    refine kq _ _ (fun x => x = a ∨ ∃ i, (fun m => if m = j then G0 else Fs m) i x) FE (ke_upd ha (hmk _) ga) (fun b z => ?_) (fun _ _ z => z) al_upd
      (node_upd ha (hmk _) (hAt _ _ _ (by rw [List.length_set]; exact hl) upd_same) (by rw [List.length_set, List.length_set]; exact hlw) (set_kids hc ry hj hlw) (set_dj hdd hss dj1) fun i z => ?_) .non
    · rcases z with (z | ⟨i, z⟩) | z
      · rw [z]; exact .inl ga
      · by_cases c1 : i = j
        · simp only [if_pos c1] at z; exact .inr (h0 b z)
        · simp only [if_neg c1] at z; exact .inl (hss i b z)
      · exact z.elim
    · by_cases c1 : i = j
      · simp only [if_pos c1] at z; exact dj1 a ga z
      · simp only [if_neg c1] at z; exact na i z
  | none =>
    rw [ej] at kq
    rw [putK_none hl ej]
    have kkk : ∀ (i : Nat) (v : V) (t' : T), (ws ++ [y])[i]? = some v → (ts ++ [t])[i]? = some t' → Rep Γ H v t' ((fun m => if m = ts.length then G0 else Fs m) i) := fun i v t' q1 q2 => by
      by_cases c1 : i < ts.length
      · simp only [if_neg (show ¬ i = ts.length by omega)]
        rw [List.getElem?_append_left (by omega)] at q1 q2
        exact hc i v t' q1 q2
      · have hj : i = ts.length := by
          have := (List.getElem?_eq_some_iff.mp q2).1
          simp at this
          omega
        subst hj
        simp only [if_true]
        simp at q2
        subst q2
        rw [← hlw] at q1
        simp at q1
        subst q1
        exact ry
    refine kq _ _ (fun x => x = a ∨ ∃ i, (fun m => if m = ts.length then G0 else Fs m) i x) FE (ke_upd ha (hmk _) ga) (fun b z => ?_) (fun _ _ z => z) al_upd
      (node_upd ha (hmk _) (hAt _ _ _ (by simp [hl]) upd_same) (by simp [hlw]) kkk (set_dj hdd hss dj1) fun i z => ?_) .non
    · rcases z with (z | ⟨i, z⟩) | z
      · rw [z]; exact .inl ga
      · by_cases c1 : i = ts.length
        · simp only [if_pos c1] at z; exact .inr (h0 b z)
        · simp only [if_neg c1] at z; exact .inl (hss i b z)
      · exact z.elim
    · by_cases c1 : i = ts.length
      · simp only [if_pos c1] at z; exact dj1 a ga z
      · simp only [if_neg c1] at z; exact na i z
theorem dputM_ok {w : T} {y : V} {Gw : FP} : ∀ (H : Hp) (x : V) (u : T) (us : List T) (u' res : T) (G Gx : FP) (Gs : Nat → FP) (vs : List V) (Q : VK), Rep Γ H y w Gw → Rep Γ H x u G → vs.length = us.length →
  (∀ (j : Nat) (v : V) (t : T), vs[j]? = some v → us[j]? = some t → Rep Γ H v t (Gs j)) → (∀ i j a, i ≠ j → Gs i a → Gs j a → False) → (∀ j a, Gs j a → Gx a) → (∀ a, G a → Gx a → False) → dputM w u us = some (u', res) →
  (∀ v H' G' Gr, Ke H H' G → (∀ a, G' a ∨ Gr a → G a ∨ Gx a) → (∀ a, G' a → Gr a → False) → (∀ a, H a ≠ none → H' a ≠ none) → Rep Γ H' x u' G' → Rep Γ H' v res Gr → Q v H') → rDPut y x vs H Q := by
  intro H x u us u' res G Gx Gs vs Q rk r hl hg hd hs dj e k
  unfold dputM at e
  split at e
  · rename_i ks ts t
    cases e1 : keyT w with
    | none => rw [e1] at e; cases e
    | some kk =>
      rw [e1] at e
      simp only [Option.bind_some] at e
      by_cases hz : ts.length < 100000 ∧ ks.Nodup
      · rw [if_pos hz] at e
        cases e
        cases r with
        | @nd _ _ a ws _ Fs hat hlw hm hc hdd hss =>
          obtain ⟨hln, ha⟩ : ks.length = ws.length ∧ H a = some (.dK (ks.zip ws)) := hat
          match vs, hl with
          | [v], _ =>
            have ry := hg 0 v _ rfl rfl
            refine ⟨v, a, upd H a (.dK (putK (ks.zip ws) kk v)), rfl, rfl, ?_, ?_⟩
            · rw [keyT_rep rk e1]
              exact DPut.k ha (sz5' (by rw [List.length_zip]; omega))
            · exact dput_core (mk := HO.dK) (kk := Kd.dK) (fun _ z => z) (fun _ _ _ h1 h2 => ⟨h1, h2⟩) (fun _ => rfl) hz.2 hln ha hlw (hm rfl).1 (hm rfl).2 hc hdd hss ry (hs 0) dj k
      · rw [if_neg hz] at e; cases e
  · rename_i ks ts t
    cases w with
    | nd kd us' =>
      cases kd with
      | tup =>
        simp only at e
        cases e1 : keysT us' with
        | none => rw [e1] at e; cases e
        | some kk =>
          rw [e1] at e
          simp only [Option.bind_some] at e
          by_cases hz : ts.length < 100000 ∧ ks.Nodup
          · rw [if_pos hz] at e
            cases e
            cases r with
            | @nd _ _ a ws _ Fs hat hlw hm hc hdd hss =>
              obtain ⟨hln, ha⟩ : ks.length = ws.length ∧ H a = some (.dT (ks.zip ws)) := hat
              obtain ⟨b, ys, rfl, hb, hlb, hcb⟩ := rk.tupAt
              rw [keysT_rep hlb hcb e1] at hb
              match vs, hl with
              | [v], _ =>
                have ry := hg 0 v _ rfl rfl
                refine ⟨v, a, upd H a (.dT (putK (ks.zip ws) kk v)), rfl, rfl, ?_, ?_⟩
                · exact DPut.t ha hb (sz5' (by rw [List.length_zip]; omega))
                · exact dput_core (mk := HO.dT) (kk := Kd.dT) (fun _ z => z) (fun _ _ _ h1 h2 => ⟨h1, h2⟩) (fun _ => rfl) hz.2 hln ha hlw (hm rfl).1 (hm rfl).2 hc hdd hss ry (hs 0) dj k
          · rw [if_neg hz] at e; cases e
      | _ => cases e
    | _ => cases e
  · cases e
end
end VT
namespace VT
open PySem PySem.Spec PyProof.Rows L2
section
variable {Γ : Gx} {ar : Fx} {W : WX} {X : Cx} {a b e o : Expr} {pos : Pos} {ga gb gc g : BF} {fa fb : EF} {pl : PF}
def rSetD : V → V → V → Hp → (Hp → Prop) → Prop := fun o i v H Q => ∃ a H4, o = .ref a ∧ DPut H a i v H4 ∧ Q H4
theorem set_dict (hu : X.A.units + 1 < cLine) : PSet X rSetD := by
  intro pins s σ H o i v ov iv u Q I ro ri rv h
  obtain ⟨a, H4, rfl, g, q⟩ := h
  obtain rfl : ov = Value.ref a := ro
  exact d_setItem hu I g ri rv fun s4 I4 => ⟨H4, I4, q⟩
def rSetA : V → V → V → Hp → (Hp → Prop) → Prop := fun o i v H Q => rSetL o i v H Q ∨ rSetD o i v H Q
theorem set_any (hu : X.A.units + 1 < cLine) : PSet X rSetA := by
  intro pins s σ H o i v ov iv u Q I ro ri rv h
  rcases h with h | h
  · exact set_list pins s σ H o i v ov iv u Q I ro ri rv h
  · exact set_dict hu pins s σ H o i v ov iv u Q I ro ri rv h
def setA (w : T) : MuF := fun u us => if isDi u = true then dputM w u us else match w with
  | .int k => setM k u us
  | _ => none
def rSetK (Γ : Gx) (y : V) (w : T) : V → List V → Hp → VK → Prop := fun x vs H Q => (∃ G, Rep Γ H y w G) → ∃ v, vs = [v] ∧ rSetA x y v H fun H3 => Q .non H3
theorem setA_ok {w : T} {y : V} : MutT Γ (rSetK Γ y w) (setA w) := by
  intro H x u us u' res G Gx Gs vs Q r hl hg hd hs dj e k ⟨Gw, rk⟩
  unfold setA at e
  by_cases h : isDi u = true
  · rw [if_pos h] at e
    obtain ⟨v, a, H4, ev, rfl, p, q⟩ := dputM_ok H x u us u' res G Gx Gs vs Q rk r hl hg hd hs dj e k
    exact ⟨v, ev, .inr ⟨a, H4, rfl, p, q⟩⟩
  · rw [if_neg h] at e
    split at e
    · cases rk
      obtain ⟨v, ev, q⟩ := setM_ok H x u us u' res G Gx Gs vs Q r hl hg hd hs dj e k
      exact ⟨v, ev, .inl q⟩
    · cases e
def sSetA (pl : PF) (g : BF) (f : EF) : SF := fun S => (f S).bind fun rx => match rx with
  | (.ex c, S1) => some (.ex c, S1)
  | (.ok t, S1) => (pl S1).bind fun ip => (sl S1 ip.1).bind fun t0 => (tAt ip.2 t0).bind fun u => (g S1).bind fun w => (setA w u [t]).bind fun ur => some (.nx, S1.set ip.1 (some (tPut ip.2 t0 ur.1)))
theorem s_setA {i : Expr} {pos' : Pos} (hu : X.A.units + 1 < cLine) (ho : PE X o (rdP Γ ar pl)) (hi : PE X i (rdB Γ ar g)) (hv : PE X e (rdE Γ ar W fa))
    (hs : swapsWithSole [.Subscript o i pos'] e pos.line X.env = pure false := by rfl) (hw : swappedStores [.Subscript o i pos'] e X.env = pure none := by rfl) (h1 : (assignEach [.Subscript o i pos'] X.env).map (·.2) = [assign (.Subscript o i pos') X.env] := by rfl)
    (hasg : ∀ v, assign (.Subscript o i pos') X.env v = (do let ov ← holding [v] (eval o X.env); let iv ← holding [v, ov] (eval i X.env); standAt pos'; holding [v, ov, iv] (setItem ov iv v); release [v, ov, iv] []) := by intro _; rfl) :
    PS X (.Assign [.Subscript o i pos'] e pos) (rdS Γ ar W (sSetA pl g fa)) := by
  refine PS.imp (ps_asg hv (pg_sub ho hi (set_any hu) hasg) hs hw h1) fun D σ H q => ?_
  obtain ⟨S, F, fl, S', R, ee, kk⟩ := q
  unfold sSetA at ee
  cases q0 : fa S with
  | none => rw [q0] at ee; cases ee
  | some o1 =>
    obtain ⟨r1, S1⟩ := o1
    rw [q0] at ee
    simp only [Option.bind_some] at ee
    cases r1 with
    | ex c => cases ee; exact ⟨S, F, _, _, R, q0, fun H' F' R' u => kk σ H' F' R' u⟩
    | ok t =>
      simp only at ee
      cases q1 : pl S1 with
      | none => rw [q1] at ee; cases ee
      | some ip =>
        obtain ⟨i, p⟩ := ip
        rw [q1] at ee
        simp only [Option.bind_some] at ee
        cases q2 : sl S1 i with
        | none => rw [q2] at ee; cases ee
        | some t0 =>
          rw [q2] at ee
          simp only [Option.bind_some] at ee
          cases q3 : tAt p t0 with
          | none => rw [q3] at ee; cases ee
          | some u =>
            rw [q3] at ee
            simp only [Option.bind_some] at ee
            cases q5 : g S1 with
            | none => rw [q5] at ee; cases ee
            | some w =>
              rw [q5] at ee
              simp only [Option.bind_some] at ee
              cases q4 : setA w u [t] with
              | none => rw [q4] at ee; cases ee
              | some ur =>
                obtain ⟨u', res⟩ := ur
                rw [q4] at ee
                cases ee
                refine ⟨S, F, _, _, R, q0, fun y H1 F1 G1 o1 => ⟨S1, F1, i, p, t0, u, o1.rs, q1, q2, q3, fun v0 v H2 h1 h2 s => ?_⟩⟩
                refine ⟨S1, F1, _, (o1.same s).rs, q5, fun iv H3 G3 s3 r3 => ?_⟩
                have s23 := s.trans s3
                have o2 := o1.same s23
                have A : ArgsP Γ H3 σ [y] [.val t] (FU G1 FE) := argsP_nil.val o2.r fun _ _ z => z
                have fin := mut_core (Q := fun _ H' => D.nx σ H') (setA_ok (w := w) (y := iv)) o2.rs A rfl (fun a f g => g.elim (o2.d a f) fun z => z) (fun a g => g.elim (o2.al a) fun z => z.elim) q2 q3 q4 h1 (vAt_same s23 h2) fun w H' F' G R' rw' d al u2 => kk σ H' F' R' ((o2.u.sub fun a z => z.elim .inl fun z => z.elim .inr fun z => z.elim).trans (u2.sub fun a z => .inl z))
                obtain ⟨y', ey, q⟩ := fin ⟨_, r3⟩
                cases ey
                exact q
end
end VT
namespace VT
open PySem PySem.Spec PyProof.Rows L2
section
variable {Γ : Gx} {ar : Fx} {W : WX} {X : Cx} {a b e o : Expr} {pos : Pos} {ga gb gc g : BF} {fa fb : EF} {pl : PF}
def OpB (Γ : Gx) (r : R2) (f : T → T → Option T) : Prop := ∀ (H : Hp) (x y : V) (t1 t2 t : T) (G1 G2 : FP) (Q : VK), Rep Γ H x t1 G1 → Rep Γ H y t2 G2 → f t1 t2 = some t →
  (∀ v H' G, Same H H' → Rep Γ H' v t G → Q v H') → r x y H Q
theorem tOp_bb {r : R2} {f : T → T → Option T} (h : OpB Γ r f) (σ : L2.St) (H : Hp) (Q : VK) (q : rdB Γ ar (bOp f ga gb) σ H Q) : tOp r (rdB Γ ar ga) (rdB Γ ar gb) σ H Q := by
  obtain ⟨S, F, t, R, e, k⟩ := q
  unfold bOp at e
  cases e1 : ga S with
  | none => rw [e1] at e; cases e
  | some t1 =>
    rw [e1] at e
    simp only [Option.bind_some] at e
    cases e2 : gb S with
    | none => rw [e2] at e; cases e
    | some t2 =>
      rw [e2] at e
      refine ⟨S, F, t1, R, e1, fun x H1 G1 s1 r1 => ⟨S, F, t2, R.same s1, e2, fun y H2 G2 s2 r2 => ?_⟩⟩
      exact h H2 x y t1 t2 t G1 G2 Q (r1.same s2) r2 e fun v H3 G s3 r3 => k v H3 G ((s1.trans s2).trans s3) r3
def ixB (u w : T) : Option T := match u, w with
  | .nd .lst ts, .int i => atI ts i
  | .nd .fz ts, .int i => atI ts i
  | .nd .tup ts, .int i => atI ts i
  | .str z, .int i => if z.length ≤ 100000 then (atI z.cps.toList i).bind fun c => some (.str ⟨#[c]⟩) else none
  | u, w => (dix u w).bind fun o => o.bind fun j => u.kd[j]?
theorem ixB_ok : OpB Γ (rIxA Γ.K) ixB := by
  intro H x y t1 t2 t G1 G2 Q r1 r2 e k
  unfold ixB at e
  split at e
  · obtain ⟨a, vs, rfl, hq, hl, hc⟩ := r1.list (.inl rfl)
    cases r2
    obtain ⟨v, j, q1, q2, q3⟩ := atI_map hl e
    exact .inl (.inl ⟨a, vs, _, v, rfl, rfl, hq, q1, k v H _ (Same.refl H) (hc j v t q2 q3)⟩)
  · obtain ⟨a, vs, rfl, hq, hl, hc⟩ := r1.list (.inr rfl)
    cases r2
    obtain ⟨v, j, q1, q2, q3⟩ := atI_map hl e
    exact .inl (.inl ⟨a, vs, _, v, rfl, rfl, hq, q1, k v H _ (Same.refl H) (hc j v t q2 q3)⟩)
  · obtain ⟨a, vs, rfl, hq, hl, hc⟩ := r1.tupl
    cases r2
    obtain ⟨v, j, q1, q2, q3⟩ := atI_map hl e
    exact .inl (.inr (.inl ⟨a, vs, _, v, rfl, rfl, hq, q1, k v H _ (Same.refl H) (hc j v t q2 q3)⟩))
  · rename_i z i
    by_cases hz : z.length ≤ 100000
    · rw [if_pos hz] at e
      cases e1 : atI z.cps.toList i with
      | none => rw [e1] at e; cases e
      | some c =>
        rw [e1] at e
        cases e
        cases r1
        cases r2
        exact .inl (.inr (.inr ⟨z, i, c, rfl, rfl, sz5 hz, e1, k _ H FE (Same.refl H) (.str _)⟩))
    · rw [if_neg hz] at e; cases e
  · cases e1 : dix t1 t2 with
    | none => rw [e1] at e; cases e
    | some o =>
      rw [e1] at e
      simp only [Option.bind_some] at e
      cases o with
      | none => cases e
      | some j =>
        simp only [Option.bind_some] at e
        obtain ⟨a, vs, rfl, hl, _, g, hj, hc⟩ := dix_get r1 r2 e1
        have hj' := hj j rfl
        have ev : vs[j]? = some (vs[j]'(by omega)) := List.getElem?_eq_getElem (by omega)
        refine .inr ⟨a, _, rfl, ?_, k _ H _ (Same.refl H) (hc j _ t ev e)⟩
        rw [← ev]
        exact g
theorem b_ix (hu : X.A.units + 1 < cLine) (ha : PE X a (rdB Γ ar ga)) (hb : PE X b (rdB Γ ar gb)) (hs : PlainIx b) (hK : X.K = Γ.K := by rfl) : PE X (.Subscript a b pos) (rdB Γ ar (bOp ixB ga gb)) := PE.imp (pe_ix (hK ▸ ix_any hu) ha hb hs) (tOp_bb ixB_ok)
end
section
variable {ts us : List T} {t u w x y : T} {i : Int} {S : TSt} {ks : List Key} {kt : List (List Key)} {pl : PF} {g ga gb gc : BF} {fa : EF} {n : Nat} {p : List Nat} {k : Kd}
theorem ixA_lst : ixA (.nd .lst ts) w = ixT (.nd .lst ts) w := rfl
theorem ixA_fz : ixA (.nd .fz ts) w = ixT (.nd .fz ts) w := rfl
theorem ixA_tup : ixA (.nd .tup ts) w = ixT (.nd .tup ts) w := rfl
theorem ixA_str {z : Str} : ixA (.str z) w = ixT (.str z) w := rfl
theorem ixB_lst : ixB (.nd .lst ts) (.int i) = atI ts i := rfl
theorem ixB_fz : ixB (.nd .fz ts) (.int i) = atI ts i := rfl
theorem ixB_tup : ixB (.nd .tup ts) (.int i) = atI ts i := rfl
def kDo (u : T) (o : Option Nat) : Option T := o.bind fun j => u.kd[j]?
theorem ixB_dK : ixB (.nd (.dK ks) ts) w = (dix (.nd (.dK ks) ts) w).bind (kDo (.nd (.dK ks) ts)) := by cases w <;> rfl
theorem ixB_dT : ixB (.nd (.dT kt) ts) w = (dix (.nd (.dT kt) ts) w).bind (kDo (.nd (.dT kt) ts)) := by cases w <;> rfl
theorem kDo_s : kDo (.nd k ts) (some n) = ts[n]? := rfl
theorem dix_Ki : dix (.nd (.dK ks) ts) (.int i) = some (ixK (.inl i) ks) := rfl
theorem dix_Ks {z : Str} : dix (.nd (.dK ks) ts) (.str z) = some (ixK (.inr z) ks) := rfl
def kDt (kt : List (List Key)) (k : List Key) : Option (Option Nat) := some (ixK k kt)
theorem dix_T : dix (.nd (.dT kt) ts) (.nd .tup us) = (keysT us).bind (kDt kt) := rfl
theorem kDt_q {q : List Key} : kDt kt q = some (ixK q kt) := rfl
theorem keysT_n : keysT [] = some [] := rfl
def kKc (k : Key) (ks : List Key) : Option (List Key) := some (k :: ks)
theorem keysT_i : keysT (.int i :: us) = (keysT us).bind (kKc (.inl i)) := rfl
theorem keysT_s {z : Str} : keysT (.str z :: us) = (keysT us).bind (kKc (.inr z)) := rfl
theorem kKc_q {q : Key} : kKc q ks = some (q :: ks) := rfl
def kX4 (i : Nat) (p : List Nat) (u w : T) : Option (Nat × List Nat) := match u, w with
  | .nd .lst ts, .int k => (ixN ts.length k).bind (kF4 i p)
  | u, w => (dix u w).bind fun o => o.bind (kF4 i p)
def kX5 (g : BF) (S : TSt) (i : Nat) (p : List Nat) (u : T) : Option (Nat × List Nat) := (g S).bind (kX4 i p u)
def kX6 (g : BF) (S : TSt) (i : Nat) (p : List Nat) (t : T) : Option (Nat × List Nat) := (tAt p t).bind (kX5 g S i p)
def kX7 (g : BF) (S : TSt) (ip : Nat × List Nat) : Option (Nat × List Nat) := (sl S ip.1).bind (kX6 g S ip.1 ip.2)
theorem pIxA_q : pIxA pl g S = (pl S).bind (kX7 g S) := rfl
theorem kX7_q : kX7 g S (n, p) = (sl S n).bind (kX6 g S n p) := rfl
theorem kX6_q : kX6 g S n p t = (tAt p t).bind (kX5 g S n p) := rfl
theorem kX5_q : kX5 g S n p t = (g S).bind (kX4 n p t) := rfl
theorem kX4_lst : kX4 n p (.nd .lst ts) (.int i) = (ixN ts.length i).bind (kF4 n p) := rfl
def kX8 (n : Nat) (p : List Nat) (o : Option Nat) : Option (Nat × List Nat) := o.bind (kF4 n p)
theorem kX4_dK : kX4 n p (.nd (.dK ks) ts) w = (dix (.nd (.dK ks) ts) w).bind (kX8 n p) := by cases w <;> rfl
theorem kX4_dT : kX4 n p (.nd (.dT kt) ts) w = (dix (.nd (.dT kt) ts) w).bind (kX8 n p) := by cases w <;> rfl
theorem kX8_s {j : Nat} : kX8 n p (some j) = some (n, p ++ [j]) := rfl
def kSA4 (S : TSt) (i : Nat) (p : List Nat) (t0 : T) (ur : T × T) : Option (Fl × TSt) := some (.nx, S.set i (some (tPut p t0 ur.1)))
def kSA3 (t : T) (S : TSt) (i : Nat) (p : List Nat) (t0 u w : T) : Option (Fl × TSt) := (setA w u [t]).bind (kSA4 S i p t0)
def kSA2 (g : BF) (t : T) (S : TSt) (i : Nat) (p : List Nat) (t0 u : T) : Option (Fl × TSt) := (g S).bind (kSA3 t S i p t0 u)
def kSA1 (g : BF) (t : T) (S : TSt) (i : Nat) (p : List Nat) (t0 : T) : Option (Fl × TSt) := (tAt p t0).bind (kSA2 g t S i p t0)
def kSA0 (g : BF) (t : T) (S : TSt) (ip : Nat × List Nat) : Option (Fl × TSt) := (sl S ip.1).bind (kSA1 g t S ip.1 ip.2)
def kSA (pl : PF) (g : BF) : Rs T × TSt → Option (Fl × TSt)
  | (.ex c, S1) => some (.ex c, S1)
  | (.ok t, S1) => (pl S1).bind (kSA0 g t S1)
theorem sSetA_q : sSetA pl g fa S = (fa S).bind (kSA pl g) := by
  unfold sSetA
  cases fa S with
  | none => rfl
  | some r =>
    obtain ⟨r, S1⟩ := r
    cases r with
    | ex c => rfl
    | ok t => rfl
theorem kSA_ok : kSA pl g (.ok t, S) = (pl S).bind (kSA0 g t S) := rfl
theorem kSA_ex {c : Nat} : kSA pl g (.ex c, S) = some (.ex c, S) := rfl
theorem kSA0_q : kSA0 g t S (n, p) = (sl S n).bind (kSA1 g t S n p) := rfl
theorem kSA1_q : kSA1 g t S n p u = (tAt p u).bind (kSA2 g t S n p u) := rfl
theorem kSA2_q : kSA2 g t S n p u w = (g S).bind (kSA3 t S n p u w) := rfl
theorem kSA3_q : kSA3 t S n p u w x = (setA x w [t]).bind (kSA4 S n p u) := rfl
theorem kSA4_q : kSA4 S n p u (x, y) = some (.nx, S.set n (some (tPut p u x))) := rfl
theorem setA_l : setA (.int i) (.nd .lst ts) [t] = setM i (.nd .lst ts) [t] := rfl
theorem setA_Ki : setA (.int i) (.nd (.dK ks) ts) [t] = if ts.length < 100000 ∧ ks.Nodup then some (dput ts t (.dK ks) (.dK (ks ++ [.inl i])) (ixK (.inl i) ks), .non) else none := rfl
theorem setA_Ks {z : Str} : setA (.str z) (.nd (.dK ks) ts) [t] = if ts.length < 100000 ∧ ks.Nodup then some (dput ts t (.dK ks) (.dK (ks ++ [.inr z])) (ixK (.inr z) ks), .non) else none := rfl
def kSt (kt : List (List Key)) (ts : List T) (t : T) (k : List Key) : Option (T × T) := if ts.length < 100000 ∧ kt.Nodup then some (dput ts t (.dT kt) (.dT (kt ++ [k])) (ixK k kt), .non) else none
theorem setA_T : setA (.nd .tup us) (.nd (.dT kt) ts) [t] = (keysT us).bind (kSt kt ts t) := rfl
theorem kSt_q {q : List Key} : kSt kt ts t q = if ts.length < 100000 ∧ kt.Nodup then some (dput ts t (.dT kt) (.dT (kt ++ [q])) (ixK q kt), .non) else none := rfl
theorem mu_dK : (Kd.dK ks).mu = true := rfl
theorem mu_dT : (Kd.dT kt).mu = true := rfl
theorem im_dK : (T.nd (.dK ks) ts).im = false := by simp [T.im]
theorem im_dT : (T.nd (.dT kt) ts).im = false := by simp [T.im]
theorem inA_l : inA t (.nd .lst ts) = inT t (.nd .lst ts) := rfl
theorem inA_t : inA t (.nd .tup ts) = inT t (.nd .tup ts) := rfl
theorem inA_f : inA t (.nd .fz ts) = inT t (.nd .fz ts) := rfl
theorem negT_i : negT (.int i) = some (.int (-i)) := rfl
end
end VT
namespace VT
open PySem PySem.Spec PyProof.Rows L2
section
variable {Γ : Gx} {ar : Fx} {W : WX} {X : Cx} {a b c e o : Expr} {pos : Pos} {ga gb gc g : BF} {fa fb : EF} {pl : PF} {σ : L2.St} {H : Hp}
def rdTB (Γ : Gx) (ar : Fx) (g : BF) : TT := fun σ H Q => rdB Γ ar g σ H fun x H' => ∃ k, x = .bl k ∧ Q k H'
theorem rdN_b {Q : VK} (q : rdB Γ ar g σ H Q) : rdN Γ ar g σ H Q := by
  obtain ⟨S, F, t, R, e, k⟩ := q
  exact ⟨S, F, t, R, e, fun v H' G s r _ => k v H' G s r⟩
theorem tb_cmp {op : CmpOp} {r : R2} {f : T → T → Option T} (ho : OpR X (compareOp op) r) (hf : OpT Γ r f) (ha : PE X a (rdB Γ ar ga)) (hb : PE X b (rdB Γ ar gb)) (hm : behindInMarks op b = false) : PT X (.Compare a [op] [b] pos) (rdTB Γ ar (bOp f ga gb)) :=
  PT.imp (pt_cmpR ho ha hb hm) fun σ H Q q => tOp_b hf σ H _ (rdN_b q)
def bNot (ga : BF) : BF := fun S => (ga S).bind fun x => match x with
  | .bl b => some (.bl (!b))
  | _ => none
def bAnd (ga gb : BF) : BF := fun S => (ga S).bind fun x => match x with
  | .bl true => gb S
  | .bl false => some (.bl false)
  | _ => none
theorem boolB {S : TSt} {F : FP} {k : Bool} {P : Bool → Hp → Prop} (R : RepS Γ ar H σ S F) (e1 : ga S = some (.bl k)) (h : ∀ H1, Same H H1 → P k H1) : rdB Γ ar ga σ H fun x H1 => ∃ c, x = .bl c ∧ P c H1 := by
  refine ⟨S, F, .bl k, R, e1, fun v H1 G s r => ?_⟩
  cases r
  exact ⟨k, rfl, h H1 s⟩
theorem rdB_after {S : TSt} {F : FP} {H1 : Hp} {t : T} {Q : VK} (R : RepS Γ ar H σ S F) (s : Same H H1) (e : gb S = some t) (k : ∀ v H' G, Same H H' → Rep Γ H' v t G → Q v H') : rdB Γ ar gb σ H1 Q :=
  ⟨S, F, t, R.same s, e, fun v H' G s' r => k v H' G (s.trans s') r⟩
theorem bNot_ok {Q : VK} (q : rdB Γ ar (bNot ga) σ H Q) : rdB Γ ar ga σ H fun x H1 => ∃ c, x = .bl c ∧ Q (.bl (!c)) H1 := by
  obtain ⟨S, F, t, R, e, k⟩ := q
  unfold bNot at e
  cases e1 : ga S with
  | none => rw [e1] at e; cases e
  | some x =>
    rw [e1] at e
    simp only [Option.bind_some] at e
    split at e
    · cases e
      exact boolB R e1 fun H1 s => k _ H1 FE s (.bl _)
    · cases e
theorem bAnd_ok {Q : VK} (q : rdB Γ ar (bAnd ga gb) σ H Q) : rdB Γ ar ga σ H fun x H1 => ∃ c, x = .bl c ∧ if c = true then rdB Γ ar gb σ H1 Q else Q (.bl false) H1 := by
  obtain ⟨S, F, t, R, e, k⟩ := q
  unfold bAnd at e
  cases e1 : ga S with
  | none => rw [e1] at e; cases e
  | some x =>
    rw [e1] at e
    simp only [Option.bind_some] at e
    split at e
    · exact boolB R e1 fun H1 s => iteT (rdB_after R s e k)
    · cases e
      exact boolB R e1 fun H1 s => iteF (k _ H1 FE s (.bl _))
    · cases e
theorem b_not (ha : PE X a (rdB Γ ar ga)) : PE X (.UnaryOp .Not a pos) (rdB Γ ar (bNot ga)) := PE.imp (pe_not ha) fun _ _ _ q => bNot_ok q
theorem b_and {rest : List Expr} (ha : PE X a (rdB Γ ar ga)) (hb : PE X (.BoolOp .And (b :: rest) pos) (rdB Γ ar gb)) : PE X (.BoolOp .And (a :: b :: rest) pos) (rdB Γ ar (bAnd ga gb)) := PE.imp (pe_and ha hb) fun _ _ _ q => bAnd_ok q
def lockT : T → Option T
  | .nd .lst ts => if T.imAll ts = true then some (.nd .fz ts) else none
  | _ => none
theorem PE.locked {t : TE} (h : PE X e t) : PE X e (fun σ H Q => t σ H fun v H' => ∃ d u, H' d = some u ∧ Mut (some u) ∧ ∀ od, Q v (upd H' d (.frz od u))) := by
  refine ⟨fun pins s σ H Q I hw => ?_⟩
  refine thn (h.run pins s σ _ _ I hw) fun v s1 ⟨x, H1, I2, r, d, u, hd, mu, q⟩ => ?_
  obtain ⟨od, I3⟩ := I2.lock hd mu
  exact ⟨x, _, I3, r, q od⟩
theorem n_lock (h : PE X e (rdN Γ ar g)) : PE X e (rdN Γ ar (bUn lockT g)) := PE.imp (VT.PE.locked h) fun σ H Q q => by
  obtain ⟨S, F, t, R, e, k⟩ := q
  unfold bUn at e
  cases e1 : g S with
  | none => rw [e1] at e; cases e
  | some u =>
    rw [e1] at e
    simp only [Option.bind_some] at e
    unfold lockT at e
    split at e
    · rename_i ts
      by_cases im : T.imAll ts = true
      · rw [if_pos im] at e
        cases e
        refine ⟨S, F, _, R, e1, fun v H' G s r n => ?_⟩
        cases r with
        | @nd _ _ p vs _ Fs hat hl hm hc hd hs =>
          have hat : H' p = some (.lst vs) := hat
          have np : H p = none := n.1 p (hm rfl).1
          refine ⟨p, _, hat, trivial, fun od => k _ _ FE (fun b o eb => ?_) ?_ new_FE⟩
          · have : b ≠ p := fun z => by rw [z, np] at eb; cases eb
            rw [upd_ne this]; exact s b o eb
          · refine .nd (Fs := fun _ => FE) (.inl ⟨od, upd_same⟩) hl (fun m => nomatch m) (fun i w t q1 q2 => ?_) (fun _ _ _ _ z => z.elim) fun _ _ z => z.elim
            have r1 := (hc i w t q1 q2).im (imAll_iff.mp im i t q2) FE
            refine r1.frame (fun _ _ z => z.elim) fun b o io eb => ?_
            have : b ≠ p := fun z => by rw [z, hat] at eb; cases eb; exact io
            rw [upd_ne this]; exact eb
      · rw [if_neg im] at e; cases e
    · cases e
end
end VT
namespace VT
open PySem PySem.Spec PyProof.Rows L2
section
variable {Γ : Gx} {ar : Fx} {W : WX} {X : Cx} {a b c e o : Expr} {pos : Pos} {ga gb gc g : BF} {fa fb : EF} {pl : PF} {σ : L2.St} {H : Hp}
/-- a target of a comprehension whose names are vs -/
def TgW (Γ : Gx) (ar : Fx) (vs : List Nat) (g : TG) (tf : GF) : Prop := ∀ (H : Hp) (σ0 : L2.St) (S : TSt) (F G : FP) (v : V) (t : T) (S1 : TSt) (Q : L2.St → Hp → Prop), RepS Γ ar H (wipe σ0 vs) S F → Rep Γ H v t G → tf t S = some S1 →
  (∀ σ1, RepS Γ ar H σ1 S1 F → wipe σ1 vs = wipe σ0 vs → Q σ1 H) → g v (wipe σ0 vs) H Q
theorem tgwN {vs : List Nat} {j : Nat} (hj : j ∈ vs) (har : ar j = none) : TgW Γ ar vs (gName j) (tgN j) := by
  intro H σ0 S F G v t S1 Q R r e k
  unfold tgN at e
  by_cases im : t.im = true
  · rw [if_pos im] at e
    cases e
    exact k _ (R.putIm har r im) (wipe_set hj)
  · rw [if_neg im] at e; cases e
/-- what is made so far, at Dl -/
structure AccN (Γ : Gx) (H0 : Hp) (Dl : Addr) (H : Hp) (tacc : List T) (Ga : FP) : Prop where
  sm : Same H0 H
  at_ : ∃ acc : List V, H Dl = some (.lst acc) ∧ acc.length = tacc.length ∧ ∃ Gs : Nat → FP, (∀ (i : Nat) (v : V) (t : T), acc[i]? = some v → tacc[i]? = some t → Rep Γ H v t (Gs i)) ∧ (∀ i j a, i ≠ j → Gs i a → Gs j a → False) ∧ ∀ i a, Gs i a → Ga a
  nw : ∀ a, Ga a → H0 a = none ∧ H a ≠ none ∧ a ≠ Dl
theorem accN_start {Dl : Addr} (hD : H Dl = none) : AccN Γ H Dl (upd H Dl (.lst [])) [] FE :=
  ⟨fun b o e => by rw [upd_ne (ne_of_none e hD)]; exact e, ⟨[], upd_same, rfl, fun _ => FE, fun i v t e => by simp at e, fun _ _ _ _ z => z.elim, fun _ _ z => z⟩, fun _ z => z.elim⟩
theorem AccN.step {H0 H' : Hp} {Dl : Addr} {tacc : List T} {Ga : FP} (A : AccN Γ H0 Dl H tacc Ga) (s : Same H H') : AccN Γ H0 Dl H' tacc Ga := by
  obtain ⟨sm, ⟨acc, h1, h2, Gs, h3, h4, h5⟩, nw⟩ := A
  exact ⟨sm.trans s, ⟨acc, s _ _ h1, h2, Gs, fun i v t e1 e2 => (h3 i v t e1 e2).same s, h4, h5⟩, fun a z => ⟨(nw a z).1, same_al s (nw a z).2.1, (nw a z).2.2⟩⟩
theorem AccN.add {H0 H' : Hp} {Dl : Addr} {tacc : List T} {Ga G : FP} {v : V} {t : T} (hD : H0 Dl = none) (A : AccN Γ H0 Dl H tacc Ga) (s : Same H H') (r : Rep Γ H' v t G) (n : New H H' G) :
    ∃ acc, H' Dl = some (.lst acc) ∧ acc.length = tacc.length ∧ AccN Γ H0 Dl (upd H' Dl (.lst (acc ++ [v]))) (tacc ++ [t]) (FU Ga G) := by
  have A1 := A.step s
  obtain ⟨sm0, ⟨acc0, k1, _⟩, nw0⟩ := A
  obtain ⟨sm, ⟨acc, h1, h2, Gs, h3, h4, h5⟩, nw⟩ := A1
  have nGD : ∀ a, G a → a ≠ Dl := fun a ga z => by have := n.1 a ga; rw [z, k1] at this; cases this
  have fr : ∀ {w : V} {u : T} {F : FP}, Rep Γ H' w u F → (∀ a, F a → a ≠ Dl) → Rep Γ (upd H' Dl (.lst (acc ++ [v]))) w u F := fun {w u F} rr hF => by
    refine rr.frame (fun b o f q => by rw [upd_ne (hF b f)]; exact q) fun b o im q => ?_
    have : b ≠ Dl := fun z => by rw [z, h1] at q; cases q; exact im
    rw [upd_ne this]; exact q
  have dGa : ∀ a, Ga a → G a → False := fun a z z' => (nw0 a z).2.1 (n.1 a z')
  refine ⟨acc, h1, h2, ⟨fun b o e => ?_, ⟨acc ++ [v], upd_same, by simp [h2], fun i => if i < tacc.length then Gs i else if i = tacc.length then G else FE, fun i w u e1 e2 => ?_, fun i j b ne z z' => ?_, fun i b z => ?_⟩, fun b z => ?_⟩⟩
  · rw [upd_ne (ne_of_none e hD)]; exact sm b o e
  · by_cases c1 : i < tacc.length
    · simp only [if_pos c1]
      rw [List.getElem?_append_left (by omega)] at e1 e2
      exact fr (h3 i w u e1 e2) fun a z => (nw a (h5 i a z)).2.2
    · have hj : i = tacc.length := by
        have := (List.getElem?_eq_some_iff.mp e2).1
        simp at this
        omega
      subst hj
      simp only [if_neg c1, if_true]
      simp at e2
      subst e2
      rw [← h2] at e1
      simp at e1
      subst e1
      exact fr r nGD
  · by_cases c1 : i < tacc.length
    · simp only [if_pos c1] at z
      by_cases c2 : j < tacc.length
      · simp only [if_pos c2] at z'; exact h4 i j b ne z z'
      · simp only [if_neg c2] at z'
        by_cases c3 : j = tacc.length
        · simp only [if_pos c3] at z'; exact dGa b (h5 i b z) z'
        · simp only [if_neg c3] at z'; exact z'
    · simp only [if_neg c1] at z
      by_cases c3 : i = tacc.length
      · simp only [if_pos c3] at z
        by_cases c2 : j < tacc.length
        · simp only [if_pos c2] at z'; exact dGa b (h5 j b z') z
        · simp only [if_neg c2, if_neg (show ¬ j = tacc.length by omega)] at z'; exact z'
      · simp only [if_neg c3] at z; exact z
  · by_cases c1 : i < tacc.length
    · simp only [if_pos c1] at z; exact .inl (h5 i b z)
    · simp only [if_neg c1] at z
      by_cases c3 : i = tacc.length
      · simp only [if_pos c3] at z; exact .inr z
      · simp only [if_neg c3] at z; exact z.elim
  · rcases z with z | z
    · exact ⟨(nw b z).1, al_upd b (nw b z).2.1, (nw b z).2.2⟩
    · refine ⟨?_, al_upd b (n.2 b z), nGD b z⟩
      cases q : H0 b with
      | none => rfl
      | some o =>
        have := n.1 b z
        have h := sm0 b o q
        rw [this] at h
        cases h
theorem AccN.done {H0 : Hp} {Dl : Addr} {tacc : List T} {Ga : FP} (hD : H0 Dl = none) (A : AccN Γ H0 Dl H tacc Ga) : Same H0 H ∧ Rep Γ H (.ref Dl) (.nd .lst tacc) (FU Ga (fun a => a = Dl)) ∧ New H0 H (FU Ga (fun a => a = Dl)) := by
  obtain ⟨sm, ⟨acc, h1, h2, Gs, h3, h4, h5⟩, nw⟩ := A
  refine ⟨sm, .nd (Fs := Gs) h1 h2 (fun _ => ⟨.inr rfl, fun i z => (nw Dl (h5 i Dl z)).2.2 rfl⟩) h3 h4 fun i b z => .inl (h5 i b z), fun b z => z.elim (fun z => (nw b z).1) fun z => by rw [z]; exact hD, fun b z => z.elim (fun z => (nw b z).2.1) fun z => by rw [z, h1]; exact fun y => nomatch y⟩
def runN (tf : GF) (cond elt : BF) : List T → TSt → Option (List T)
  | [], _ => some []
  | t :: ts, S => (tf t S).bind fun S1 => (cond S1).bind fun c => match c with
    | .bl true => (elt S1).bind fun u => (runN tf cond elt ts S).bind fun us => some (u :: us)
    | .bl false => runN tf cond elt ts S
    | _ => none
def rdTBX (Γ : Gx) (C : Fx → Prop) (f : BF) : TT := fun σ H Q => ∃ ar', C ar' ∧ rdTB Γ ar' f σ H Q
def rdNX (Γ : Gx) (C : Fx → Prop) (f : BF) : TE := fun σ H Q => ∃ ar', C ar' ∧ rdN Γ ar' f σ H Q
theorem en_all {C : Fx → Prop} {f : BF} (h : ∀ ar', C ar' → PE X e (rdN Γ ar' f)) : PE X e (rdNX Γ C f) := ⟨fun pins s σ H Q I ⟨ar', c, q⟩ => (h ar' c).run pins s σ H Q I q⟩
theorem tb_one {C : Fx → Prop} {f : BF} {c : Expr} (h : ∀ ar', C ar' → PT X c (rdTB Γ ar' f)) : PTs X [c] (rdTBX Γ C f) := pts_one ⟨fun pins s σ H Q I ⟨ar', c, q⟩ => (h ar' c).run pins s σ H Q I q⟩
/-- one turn -/
theorem turnN {vs : List Nat} {tf : GF} {tg : TG} {cond elt : BF} {C : Fx → Prop} (tk : TgW Γ (freeAt ar vs) vs tg tf) (hC : C (freeAt ar vs)) {H0 : Hp} {F : FP} {σ : L2.St} {Dl : Addr} {S : TSt} {tacc : List T} {Ga G : FP} {x : V} {t : T} {ts : List T} {fin : List T} (hD : H0 Dl = none)
    (R : RepS Γ (freeAt ar vs) H0 (wipe σ vs) S F) (A : AccN Γ H0 Dl H tacc Ga) (hacc : tacc.length < 100000) (r : Rep Γ H x t G) (ee : ∃ us, runN tf cond elt (t :: ts) S = some us ∧ tacc ++ us = fin)
    (P : Hp → Prop) (hP : ∀ H' tacc' Ga', AccN Γ H0 Dl H' tacc' Ga' → tacc'.length ≤ tacc.length + 1 → (∃ us, runN tf cond elt ts S = some us ∧ tacc' ++ us = fin) → P H') :
    tg x (wipe σ vs) H fun σ2 H2 => wipe σ2 vs = wipe σ vs ∧ rdTBX Γ C cond σ2 H2 fun b H3 => if b = true then rdNX Γ C elt σ2 H3 fun y H4 => ∃ acc, H4 Dl = some (.lst acc) ∧ acc.length < sizeLine ∧ P (upd H4 Dl (.lst (acc ++ [y]))) else P H3 := by
  obtain ⟨us, ee, ef⟩ := ee
  unfold runN at ee
  cases e1 : tf t S with
  | none => rw [e1] at ee; cases ee
  | some S1 =>
    rw [e1] at ee
    simp only [Option.bind_some] at ee
    refine tk H σ S F G x t S1 _ (R.same A.sm) r e1 fun σ1 R1 hw => ⟨hw, freeAt ar vs, hC, ?_⟩
    cases e2 : cond S1 with
    | none => rw [e2] at ee; cases ee
    | some cc =>
      rw [e2] at ee
      simp only [Option.bind_some] at ee
      split at ee
      · cases e3 : elt S1 with
        | none => rw [e3] at ee; cases ee
        | some u =>
          rw [e3] at ee
          simp only [Option.bind_some] at ee
          cases e4 : runN tf cond elt ts S with
          | none => rw [e4] at ee; cases ee
          | some us' =>
            rw [e4] at ee
            cases ee
            refine boolB R1 e2 fun H3 s3 => iteT ⟨freeAt ar vs, hC, S1, F, u, R1.same s3, e3, fun y H4 G4 s4 r4 n4 => ?_⟩
            obtain ⟨acc, q1, q2, A5⟩ := (A.step s3).add hD s4 r4 n4
            exact ⟨acc, q1, sz5' (by omega), hP _ _ _ A5 (by simp) ⟨us', e4, by rw [← ef]; simp⟩⟩
      · exact boolB R1 e2 fun H3 s3 => iteF (hP _ _ _ (A.step s3) (by omega) ⟨us, ee, ef⟩)
      · cases ee
def lcN (vs : List Nat) (tf : GF) (cond elt : BF) (ts : List T) (S : TSt) : Option T := if ts.length < 100000 then (runN tf cond elt ts (wipeS S vs)).bind fun us => some (.nd .lst us) else none
section
variable {elt tg iter : Expr} {ifs : List Expr} {scope : Scope} {own : List (Str × Nat)} {cond el gs : BF} {gg : TG} {tf : GF}
abbrev CT' : Fx → Prop := fun _ => True
end
end
end VT
namespace VT
open PySem PySem.Spec PyProof.Rows L2
section
variable {Γ : Gx} {ar : Fx} {W : WX} {X : Cx} {a b c e o : Expr} {pos p : Pos} {ga gb gc g : BF} {fa fb : EF} {pl : PF} {σ : L2.St} {H : Hp}
theorem takesN0 {X : Cx} : L2N.Takes X W0 := fun _ _ x => by
  obtain ⟨_, _, _, _, _, _, _, _, _, _, _, _, _, _, _, _, z⟩ := x
  exact z.elim
def rCatL (K : PySem.W.Frag) : R2 := fun x y H Q => ∃ l b xs zs, x = .ref l ∧ y = .ref b ∧ SqL K H l xs ∧ SqL K H b zs ∧ xs.length + zs.length ≤ sizeLine ∧ ∀ p, H p = none → Q (.ref p) (upd H p (.lst (xs ++ zs)))
theorem op_catL : OpR X (binaryOp .Add) (rCatL X.K) := by
  intro pins s σ H x y v u Q I rx ry h
  obtain ⟨l, b, xs, zs, rfl, rfl, hH, hB, hz, q⟩ := h
  cases rx
  cases ry
  obtain ⟨its, r, ⟨⟨cls, dd, data, sl⟩, n, ho, hc, hdd, hd⟩, z⟩ := I.list hH
  obtain ⟨its2, r2, ⟨⟨cls2, dd2, data2, sl2⟩, n2, ho2, hc2, hdd2, hd2⟩, z2⟩ := I.list hB
  simp only at hc hd hc2 hd2
  subst hc hd hc2 hd2
  have e : its.toArray ++ its2.toArray = (its ++ its2).toArray := by simp
  have hl := r.length
  have hl2 := r2.length
  refine concat_meets ⟨_, ho, rfl⟩ ⟨_, ho2, rfl⟩ noFill_list_add seq_list_add PySem.F.slot_list_add PySem.F.entry_list_add (PySem.F.args_list_add_2 _ _) (list_addW l b its.toArray its2.toArray n n2 dd dd2 sl sl2 (by simp; omega)) ⟨ho, ho2, ?_⟩
  rw [e]
  exact ⟨.ref _, _, I.lnew (t' := s.toks) (r.append r2) (by rw [List.length_append]; omega), rfl, q _ I.fresh⟩
def isLs : Kd → Bool
  | .lst => true
  | .fz => true
  | _ => false
def addA : T → T → Option T
  | .int i, .int j => some (.int (i + j))
  | .str x, .str y => gd (x.length + y.length ≤ 100000) (.str (x ++ y))
  | .nd k xs, .nd k' ys =>
    if isLs k = true ∧ isLs k' = true then gd (xs.length + ys.length ≤ 100000 ∧ T.imAll (xs ++ ys) = true) (.nd .lst (xs ++ ys))
    else match k, k' with
      | .tup, .tup => gd (xs.length + ys.length ≤ 100000 ∧ T.imAll (xs ++ ys) = true ∧ xs.isEmpty = false) (.nd .tup (xs ++ ys))
      | _, _ => none
  | _, _ => none
def rAddA (K : PySem.W.Frag) : R2 := fun x y H Q => (rI0 (fun i j => .int (i + j)) x y H Q ∨ (∃ i j, x = .str i ∧ y = .str j ∧ i.length + j.length ≤ sizeLine ∧ Q (.str (i ++ j)) H)) ∨ (rCatL K x y H Q ∨ rCatT K x y H Q)
theorem op_addA : OpR X (binaryOp .Add) (rAddA X.K) := or_OpR (or_OpR op_add op_add_str) (or_OpR op_catL op_catT)
theorem Rep.lsAt {H : Hp} {x : V} {k : Kd} {ts : List T} {G : FP} (h : Rep Γ H x (.nd k ts) G) (hk : isLs k = true) :
    ∃ a vs, x = .ref a ∧ SqL Γ.K H a vs ∧ vs.length = ts.length ∧ ∀ (i : Nat) (v : V) (t : T), vs[i]? = some v → ts[i]? = some t → Rep Γ H v t G := by
  cases k with
  | lst => exact h.list (.inl rfl)
  | fz => exact h.list (.inr rfl)
  | _ => cases hk
theorem addA_ok : OpT Γ (rAddA Γ.K) addA := by
  intro H x y t1 t2 t G1 G2 Q r1 r2 e k
  unfold addA at e
  split at e
  · cases e
    cases r1
    cases r2
    exact .inl (.inl ⟨_, _, rfl, rfl, k _ H FE (Same.refl H) (.int _) new_FE⟩)
  · obtain ⟨c1, rfl⟩ := gd_some.mp e
    cases r1
    cases r2
    exact .inl (.inr ⟨_, _, rfl, rfl, sz5 c1, k _ H FE (Same.refl H) (.str _) new_FE⟩)
  · rename_i k1 xs k2 ys
    by_cases hk : isLs k1 = true ∧ isLs k2 = true
    · rw [if_pos hk] at e
      obtain ⟨⟨c1, c2⟩, rfl⟩ := gd_some.mp e
      obtain ⟨a, vs, rfl, ha, hl, hc⟩ := r1.lsAt hk.1
      obtain ⟨b, ws, rfl, hb, hl2, hc2⟩ := r2.lsAt hk.2
      refine .inr (.inl ⟨a, b, vs, ws, rfl, rfl, ha, hb, sz5 (by rw [hl, hl2]; exact c1), fun p hp => ?_⟩)
      obtain ⟨s, r, n⟩ := new_lst (Γ := Γ) (ts := _ ++ _) hp (by rw [List.length_append, List.length_append, hl, hl2]) (app_kids hl hc hc2) c2
      exact k _ _ _ s r n
    · rw [if_neg hk] at e
      split at e
      · obtain ⟨⟨c1, c2, c3⟩, rfl⟩ := gd_some.mp e
        obtain ⟨a, vs, rfl, ha, hl, hc⟩ := r1.tupl
        obtain ⟨b, ws, rfl, hb, hl2, hc2⟩ := r2.tupl
        have hv : vs ≠ [] := fun z => by
          rw [z] at hl
          cases xs with
          | nil => cases c3
          | cons x xs => simp at hl
        refine .inr (.inr ⟨a, b, vs, ws, rfl, rfl, ha, hb, hv, sz5 (by rw [hl, hl2]; exact c1), fun hw => ?_, fun hw p hp => ?_⟩)
        · have hy : ys = [] := by
            rw [hw] at hl2
            cases ys with
            | nil => rfl
            | cons y ys => simp at hl2
          subst hy
          rw [List.append_nil] at k c2
          exact k _ H FE (Same.refl H) (r1.im (by rw [im_tup]; exact c2) FE) new_FE
        · obtain ⟨s, r, n⟩ := new_tup (Γ := Γ) (ts := _ ++ _) hp (by rw [List.length_append, List.length_append, hl, hl2]) (app_kids hl hc hc2) c2
          exact k _ _ _ s r n
      · cases e
  · cases e
theorem is_bool_gen {M : Model} {A : Around} {Q : Value → Shared → Prop} {E : Value → Shared → Prop} {s : Shared} {v : Value} {b : Bool} (hv : ∀ id, v ≠ .builtin id) (h : Q (.bool (v == .bool b)) s) : wpAny M A (compareOp .Is v (.bool b)) Q E s := by
  cases v <;> first | exact wpAny_pure h | exact absurd rfl (hv _)
theorem isnot_bool_gen {M : Model} {A : Around} {Q : Value → Shared → Prop} {E : Value → Shared → Prop} {s : Shared} {v : Value} {b : Bool} (hv : ∀ id, v ≠ .builtin id) (h : Q (.bool (!(v == .bool b))) s) : wpAny M A (compareOp .IsNot v (.bool b)) Q E s := by
  cases v <;> first | exact wpAny_pure h | exact absurd rfl (hv _)
def T.isB (b : Bool) : T → Bool
  | .bl c => c == b
  | _ => false
def rIsBl (neg : Bool) : R2 := fun x y H Q => ∃ b, y = .bl b ∧ Q (.bl (if neg then !decide (x = .bl b) else decide (x = .bl b))) H
theorem bl_iff {x : V} {v : Value} {b : Bool} (r : RelV x v) : (v == Value.bool b) = decide (x = .bl b) := by
  cases x with
  | bl c =>
    cases (show v = Value.bool c from r)
    by_cases e : c = b
    · rw [e]; simp
    · rw [decide_eq_false (fun z => e (V.bl.inj z))]
      exact beq_eq_false_iff_ne.mpr fun z => e (Value.bool.inj z)
  | non => cases (show v = Value.none from r); rfl
  | ref a => cases (show v = Value.ref a from r); rfl
  | ty n => cases (show v = Value.type n from r); rfl
  | int i => obtain ⟨t, rfl⟩ := r; rfl
  | str i => obtain ⟨t, rfl⟩ := r; rfl
  | byt i => obtain ⟨t, rfl⟩ := r; rfl
  | flt i => obtain ⟨t, rfl⟩ := r; rfl
theorem nobi {x : V} {v : Value} (r : RelV x v) : ∀ id, v ≠ .builtin id := fun id z => by
  cases x with
  | non => cases (show v = Value.none from r); cases z
  | bl b => cases (show v = Value.bool b from r); cases z
  | ref a => cases (show v = Value.ref a from r); cases z
  | ty n => cases (show v = Value.type n from r); cases z
  | int i => obtain ⟨t, rfl⟩ := r; cases z
  | str i => obtain ⟨t, rfl⟩ := r; cases z
  | byt i => obtain ⟨t, rfl⟩ := r; cases z
  | flt i => obtain ⟨t, rfl⟩ := r; cases z
theorem op_isBool : OpR X (compareOp .Is) (rIsBl false) := by
  intro pins s σ H x y v u Q I rx ry h
  obtain ⟨b, rfl, q⟩ := h
  cases (show u = Value.bool b from ry)
  refine is_bool_gen (nobi rx) ?_
  rw [bl_iff rx]
  exact ⟨.bl _, H, I, rfl, q⟩
theorem op_isNotBool : OpR X (compareOp .IsNot) (rIsBl true) := by
  intro pins s σ H x y v u Q I rx ry h
  obtain ⟨b, rfl, q⟩ := h
  cases (show u = Value.bool b from ry)
  refine isnot_bool_gen (nobi rx) ?_
  rw [bl_iff rx]
  exact ⟨.bl _, H, I, rfl, q⟩
def isA (t1 t2 : T) : Option T := match t2 with
  | .non => some (.bl t1.isN)
  | .bl b => some (.bl (t1.isB b))
  | _ => none
def isNotA (t1 t2 : T) : Option T := match t2 with
  | .non => some (.bl (!t1.isN))
  | .bl b => some (.bl (!t1.isB b))
  | _ => none
theorem op_isA : OpR X (compareOp .Is) (fun x y H Q => (y = .non ∧ Q (.bl (decide (x = .non))) H) ∨ rIsBl false x y H Q) := or_OpR op_isN op_isBool
theorem op_isNotA : OpR X (compareOp .IsNot) (fun x y H Q => (y = .non ∧ Q (.bl (!decide (x = .non))) H) ∨ rIsBl true x y H Q) := or_OpR op_notN op_isNotBool
theorem Rep.isB {H : Hp} {v : V} {t : T} {F : FP} {b : Bool} (h : Rep Γ H v t F) : decide (v = .bl b) = t.isB b := by
  cases h with
  | bl c =>
    show _ = (c == b)
    by_cases e : c = b
    · rw [e]; simp
    · rw [decide_eq_false (fun z => e (V.bl.inj z))]
      exact (beq_eq_false_iff_ne.mpr e).symm
  | _ => rfl
theorem isA_ok : OpT Γ (fun x y H Q => (y = .non ∧ Q (.bl (decide (x = .non))) H) ∨ rIsBl false x y H Q) isA := by
  intro H x y t1 t2 t G1 G2 Q r1 r2 e k
  unfold isA at e
  split at e
  · cases e
    cases r2
    rw [r1.isN]
    exact .inl ⟨rfl, k _ H FE (Same.refl H) (.bl _) new_FE⟩
  · cases e
    cases r2
    refine .inr ⟨_, rfl, ?_⟩
    rw [r1.isB]
    exact k _ H FE (Same.refl H) (.bl _) new_FE
  · cases e
theorem isNotA_ok : OpT Γ (fun x y H Q => (y = .non ∧ Q (.bl (!decide (x = .non))) H) ∨ rIsBl true x y H Q) isNotA := by
  intro H x y t1 t2 t G1 G2 Q r1 r2 e k
  unfold isNotA at e
  split at e
  · cases e
    cases r2
    rw [r1.isN]
    exact .inl ⟨rfl, k _ H FE (Same.refl H) (.bl _) new_FE⟩
  · cases e
    cases r2
    refine .inr ⟨_, rfl, ?_⟩
    rw [r1.isB]
    exact k _ H FE (Same.refl H) (.bl _) new_FE
  · cases e
def strT : T → Option T
  | .int i => gd (i.natAbs.log2 < 1920) (.str (toString i))
  | .str z => some (.str z)
  | _ => none
theorem strT_ok : UnT Γ (fun x => (fun xs H Q => (∃ i, xs = [V.int i] ∧ i.natAbs.log2 < 1920 ∧ Q (.str (toString i)) H) ∨ ∃ a, xs = [V.str a] ∧ Q (.str a) H) [x]) strT := by
  intro H x t1 t G1 Q r1 e k
  unfold strT at e
  split at e
  · obtain ⟨c1, rfl⟩ := gd_some.mp e
    cases r1
    exact .inl ⟨_, rfl, c1, k _ H FE (Same.refl H) (.str _) new_FE⟩
  · cases e
    cases r1
    exact .inr ⟨_, rfl, k _ H FE (Same.refl H) (.str _) new_FE⟩
  · cases e
theorem e_str1 (hm : X.mg "str" = none) (ha : PE X e (rdE Γ ar W fa)) (hg : Gl X "str" := by rfl) (he : starEach [e] X.env = (false, eval e X.env) :: starEach [] X.env := by rfl) : PE X (.Call (.Name "str" p) [e] [] pos) (rdE Γ ar W (eUn strT fa)) := eCallT strT_ok (or_CallR call_str_int SkE.call_str_str) hm (by decide +kernel) ha hg (he := he)
end
section
variable {ts us : List T} {t u w x y : T} {i j : Int} {S : TSt} {ga gb gc gs cond elt : BF} {vs : List Nat} {tf : GF} {k : Kd} {b : Bool}
def kBNot : T → Option T
  | .bl b => some (.bl (!b))
  | _ => none
def kBAnd (gb : BF) (S : TSt) : T → Option T
  | .bl true => gb S
  | .bl false => some (.bl false)
  | _ => none
theorem bNot_q : bNot ga S = (ga S).bind kBNot := by unfold bNot; cases ga S with | none => rfl | some x => cases x <;> rfl
theorem kBNot_q : kBNot (.bl b) = some (.bl (!b)) := rfl
theorem bAnd_q : bAnd ga gb S = (ga S).bind (kBAnd gb S) := by unfold bAnd; cases ga S with | none => rfl | some x => cases x with | bl b => cases b <;> rfl | _ => rfl
theorem kBAnd_q : kBAnd gb S (.bl b) = if b = true then gb S else some (.bl false) := by cases b <;> rfl
theorem lockT_q : lockT (.nd .lst ts) = if T.imAll ts = true then some (.nd .fz ts) else none := rfl
def kNlc (us : List T) : Option T := some (.nd .lst us)
theorem lcN_q : lcN vs tf cond elt ts S = if ts.length < 100000 then (runN tf cond elt ts (wipeS S vs)).bind kNlc else none := rfl
theorem kNlc_q : kNlc us = some (.nd .lst us) := rfl
theorem addA_i : addA (.int i) (.int j) = some (.int (i + j)) := rfl
theorem addA_s {a b : Str} : addA (.str a) (.str b) = gd (a.length + b.length ≤ 100000) (.str (a ++ b)) := rfl
theorem addA_ll : addA (.nd .lst ts) (.nd .lst us) = gd (ts.length + us.length ≤ 100000 ∧ T.imAll (ts ++ us) = true) (.nd .lst (ts ++ us)) := rfl
theorem addA_fl : addA (.nd .fz ts) (.nd .lst us) = gd (ts.length + us.length ≤ 100000 ∧ T.imAll (ts ++ us) = true) (.nd .lst (ts ++ us)) := rfl
theorem addA_tt : addA (.nd .tup ts) (.nd .tup us) = gd (ts.length + us.length ≤ 100000 ∧ T.imAll (ts ++ us) = true ∧ ts.isEmpty = false) (.nd .tup (ts ++ us)) := rfl
theorem isA_n : isA t .non = some (.bl t.isN) := rfl
theorem isA_b : isA t (.bl b) = some (.bl (t.isB b)) := rfl
theorem isNotA_n : isNotA t .non = some (.bl (!t.isN)) := rfl
theorem isNotA_b : isNotA t (.bl b) = some (.bl (!t.isB b)) := rfl
theorem isB_bl {c : Bool} : (T.bl c).isB b = (c == b) := rfl
theorem isB_non : T.non.isB b = false := rfl
theorem isB_int : (T.int i).isB b = false := rfl
theorem isB_str {z : Str} : (T.str z).isB b = false := rfl
theorem isB_nd : (T.nd k ts).isB b = false := rfl
theorem isN_bl : (T.bl b).isN = false := rfl
theorem strT_s {z : Str} : strT (.str z) = some (.str z) := rfl
end
end VT
namespace VT
open PySem L2
mutual
def wlT : Nat → T → Bool
  | _, .non => true
  | _, .bl _ => true
  | _, .int _ => true
  | _, .str x => PyData.strOk x
  | d + 1, .nd .tup ts => wlAll d ts
  | d + 1, .nd .lst ts => wlAll d ts
  | d + 1, .nd .fz ts => wlAll d ts
  | _, _ => false
def wlAll : Nat → List T → Bool
  | _, [] => true
  | d, t :: ts => wlT d t && wlAll d ts
end
theorem wl0 {k : Kd} {us : List T} : wlT 0 (.nd k us) = false := by cases k <;> rfl
theorem wlAll_iff {d : Nat} : ∀ {ts : List T}, wlAll d ts = true ↔ ∀ t ∈ ts, wlT d t = true
  | [] => by simp [wlAll]
  | t :: ts => by simp [wlAll, wlAll_iff (ts := ts)]
mutual
theorem wl_lay : ∀ {d : Nat} {t : T}, wlT d t = true → (dat t).canLay0 = true ∧ (dat t).depth ≤ d
  | _, .non, _ => by simp [dat, PyData.canLay0, PyData.depth]
  | _, .bl _, _ => by simp [dat, PyData.canLay0, PyData.depth]
  | _, .int _, _ => by simp [dat, PyData.canLay0, PyData.depth]
  | _, .str x, h => by simp [wlT] at h; simp [dat, PyData.canLay0, PyData.depth, h]
  | d + 1, .nd .tup ts, h => by
    rw [wlT] at h
    obtain ⟨h1, h2⟩ := wlAll_lay h
    simp [dat, PyData.canLay0, PyData.depth, h1, h2]
  | d + 1, .nd .lst ts, h => by
    rw [wlT] at h
    obtain ⟨h1, h2⟩ := wlAll_lay h
    simp [dat, PyData.canLay0, PyData.depth, h1, h2]
  | d + 1, .nd .fz ts, h => by
    rw [wlT] at h
    obtain ⟨h1, h2⟩ := wlAll_lay h
    simp [dat, PyData.canLay0, PyData.depth, h1, h2]
theorem wlAll_lay : ∀ {d : Nat} {ts : List T}, wlAll d ts = true → PyData.canLayAll0 (datAll ts) = true ∧ PyData.depthAll (datAll ts) ≤ d
  | _, [], _ => by simp [datAll, PyData.canLayAll0, PyData.depthAll]
  | d, t :: ts, h => by
    rw [wlAll, Bool.and_eq_true] at h
    obtain ⟨a1, a2⟩ := wl_lay h.1
    obtain ⟨b1, b2⟩ := wlAll_lay h.2
    simp [datAll, PyData.canLayAll0, PyData.depthAll, a1, b1]
    omega
end
theorem wl_sh {d : Nat} {t : T} (h : wlT d t = true) (hd : d ≤ 64) : shT t = true := by
  obtain ⟨a, b⟩ := wl_lay h
  unfold shT SeqAt.shaped
  rw [a, Bool.true_and]
  exact decide_eq_true (by omega)
mutual
def nrm : T → T
  | .bl b => .int (if b then 1 else 0)
  | .nd .tup ts => .nd .tup (nrmAll ts)
  | .nd .lst ts => .nd .lst (nrmAll ts)
  | .nd .fz ts => .nd .lst (nrmAll ts)
  | t => t
def nrmAll : List T → List T
  | [] => []
  | t :: ts => nrm t :: nrmAll ts
end
mutual
theorem wl_eqX : ∀ (d e : Nat) (t u : T), wlT d t = true → wlT e u = true → (PyData.eqv (dat t) (dat u) = true ↔ nrm t = nrm u)
  | _, _, .non, u, h, g => by
    cases u with
    | nd k us => cases k <;> simp [dat, PyData.eqv, nrm]
    | _ => simp [dat, PyData.eqv, nrm]
  | _, _, .bl b, u, h, g => by
    cases u with
    | nd k us => cases k <;> simp [dat, PyData.eqv, nrm]
    | bl c => cases b <;> cases c <;> simp [dat, PyData.eqv, nrm]
    | _ => cases b <;> simp [dat, PyData.eqv, nrm]
  | _, _, .int i, u, h, g => by
    cases u with
    | nd k us => cases k <;> simp [dat, PyData.eqv, nrm]
    | bl b => cases b <;> simp [dat, PyData.eqv, nrm]
    | _ => simp [dat, PyData.eqv, nrm]
  | _, _, .str x, u, h, g => by
    cases u with
    | nd k us => cases k <;> simp [dat, PyData.eqv, nrm]
    | _ => simp [dat, PyData.eqv, nrm]
  | d + 1, e, .nd .tup ts, u, h, g => by
    cases u with
    | nd k us =>
      cases e with
      | zero => rw [wl0] at g; cases g
      | succ e =>
        cases k with
        | tup =>
          have h : wlAll d ts = true := h
          have g : wlAll e us = true := g
          have := wlAll_eqX _ _ ts us h g
          simp [dat, PyData.eqv, nrm, this]
        | lst => simp [dat, PyData.eqv, nrm]
        | fz => simp [dat, PyData.eqv, nrm]
        | _ => simp [wlT] at g
    | _ => simp [dat, PyData.eqv, nrm]
  | d + 1, e, .nd .lst ts, u, h, g => by
    cases u with
    | nd k us =>
      cases e with
      | zero => rw [wl0] at g; cases g
      | succ e =>
        cases k with
        | lst =>
          have h : wlAll d ts = true := h
          have g : wlAll e us = true := g
          have := wlAll_eqX _ _ ts us h g
          simp [dat, PyData.eqv, nrm, this]
        | fz =>
          have h : wlAll d ts = true := h
          have g : wlAll e us = true := g
          have := wlAll_eqX _ _ ts us h g
          simp [dat, PyData.eqv, nrm, this]
        | tup => simp [dat, PyData.eqv, nrm]
        | _ => simp [wlT] at g
    | _ => simp [dat, PyData.eqv, nrm]
  | d + 1, e, .nd .fz ts, u, h, g => by
    cases u with
    | nd k us =>
      cases e with
      | zero => rw [wl0] at g; cases g
      | succ e =>
        cases k with
        | lst =>
          have h : wlAll d ts = true := h
          have g : wlAll e us = true := g
          have := wlAll_eqX _ _ ts us h g
          simp [dat, PyData.eqv, nrm, this]
        | fz =>
          have h : wlAll d ts = true := h
          have g : wlAll e us = true := g
          have := wlAll_eqX _ _ ts us h g
          simp [dat, PyData.eqv, nrm, this]
        | tup => simp [dat, PyData.eqv, nrm]
        | _ => simp [wlT] at g
    | _ => simp [dat, PyData.eqv, nrm]
termination_by _ _ t => sizeOf t
theorem wlAll_eqX : ∀ (d e : Nat) (ts us : List T), wlAll d ts = true → wlAll e us = true → (PyData.eqvAll (datAll ts) (datAll us) = true ↔ nrmAll ts = nrmAll us)
  | _, _, [], [], _, _ => by simp [datAll, PyData.eqvAll, nrmAll]
  | _, _, [], _ :: _, _, _ => by simp [datAll, PyData.eqvAll, nrmAll]
  | _, _, _ :: _, [], _, _ => by simp [datAll, PyData.eqvAll, nrmAll]
  | d, e, t :: ts, u :: us, h, g => by
    rw [wlAll, Bool.and_eq_true] at h g
    have a := wl_eqX _ _ t u h.1 g.1
    have b := wlAll_eqX _ _ ts us h.2 g.2
    simp [datAll, PyData.eqvAll, nrmAll, a, b]
termination_by _ _ ts => sizeOf ts
end
theorem teq_w {d e : Nat} {a b : T} (h : wlT d a = true) (g : wlT e b = true) : teq a b = true ↔ nrm a = nrm b := wl_eqX d e a b h g
theorem eqT_w {a b : T} (h : wlT 8 a = true) (g : wlT 8 b = true) : eqT a b = some (.bl (teq a b)) := gd_pos ⟨wl_sh h (by decide), wl_sh g (by decide)⟩
theorem eqT_same {a b : T} (h : wlT 8 a = true) (g : wlT 8 b = true) (q : nrm a = nrm b) : eqT a b = some (.bl true) := by rw [eqT_w h g, (teq_w h g).mpr q]
theorem wl_map {α : Type} {g : α → T} {d : Nat} (h : ∀ a, wlT d (g a) = true) (l : List α) : wlAll d (l.map g) = true := wlAll_iff.mpr fun t ht => by
  obtain ⟨a, _, rfl⟩ := List.mem_map.mp ht
  exact h a
theorem wl_ints {d : Nat} (l : List Int) : wlAll d (l.map T.int) = true := wl_map (fun _ => by cases d <;> rfl) l
end VT
namespace VT
open PySem PySem.Spec PyProof.Rows L2
section
variable {Γ : Gx} {ar : Fx} {W : WX} {X : Cx} {a b c e o : Expr} {pos p : Pos} {ga gb gc g : BF} {fa fb : EF} {pl : PF} {σ : L2.St} {H : Hp}
/-- what is known behind a lock -/
theorem own_lock {F : FP} {S' : TSt} {v : V} {ts : List T} {H' : Hp} {F' G : FP} (o : Own Γ ar H F σ S' v (.nd .lst ts) H' F' G) (im : T.imAll ts = true) : ∃ d u, H' d = some u ∧ Mut (some u) ∧ ∀ od, Own Γ ar H F σ S' v (.nd .fz ts) (upd H' d (.frz od u)) F' FE := by
  obtain ⟨rs, r, dj, al, up⟩ := o
  cases r with
  | @nd _ _ p vs _ Fs hat hl hm hc hd hs =>
    have hat : H' p = some (.lst vs) := hat
    have gp : G p := (hm rfl).1
    have np : ¬ F' p := fun z => dj p z gp
    have nw := up.new p (.inr gp)
    refine ⟨p, _, hat, trivial, fun od => ⟨rs.ke (G := fun a => a = p) ⟨fun b o eb nb => by rw [upd_ne nb]; exact eb, fun b o io eb => ?_⟩ fun a f z => by rw [z] at f; exact np f, ?_, fun _ _ z => z, fun _ z => z.elim, ⟨⟨fun b o eb nb => ?_, fun b o io eb => ?_⟩, fun a z => z.elim (fun z => up.new a (.inl z)) fun z => z.elim⟩⟩⟩
    · have : b ≠ p := fun z => by rw [z, hat] at eb; cases eb; exact io
      rw [upd_ne this]; exact eb
    · refine .nd (Fs := fun _ => FE) (.inl ⟨od, upd_same⟩) hl (fun m => nomatch m) (fun i w t q1 q2 => ?_) (fun _ _ _ _ z => z.elim) fun _ _ z => z.elim
      have r1 := (hc i w t q1 q2).im (imAll_iff.mp im i t q2) FE
      refine r1.frame (fun _ _ z => z.elim) fun b o io eb => ?_
      have : b ≠ p := fun z => by rw [z, hat] at eb; cases eb; exact io
      rw [upd_ne this]; exact eb
    · have : b ≠ p := fun z => by
        rw [z] at eb nb
        rcases nw with h | h
        · exact nb h
        · rw [eb] at h; cases h
      rw [upd_ne this]; exact up.keep b o eb nb
    · have h1 := up.imm b o io eb
      have : b ≠ p := fun z => by rw [z, hat] at h1; cases h1; exact io
      rw [upd_ne this]; exact h1
theorem e_lock (h : PE X e (rdE Γ ar W fa)) : PE X e (rdE Γ ar W (eUn lockT fa)) := PE.imp (VT.PE.locked h) fun σ H Q q => by
  obtain ⟨S, F, r, S', R, e, k⟩ := q
  unfold eUn at e
  cases e1 : fa S with
  | none => rw [e1] at e; cases e
  | some o1 =>
    obtain ⟨r1, S1⟩ := o1
    rw [e1] at e
    simp only [Option.bind_some] at e
    cases r1 with
    | ex c => cases e; exact ⟨S, F, _, _, R, e1, k⟩
    | ok x =>
      simp only at e
      cases e2 : lockT x with
      | none => rw [e2] at e; cases e
      | some u =>
        rw [e2] at e
        cases e
        unfold lockT at e2
        split at e2
        · rename_i ts
          by_cases im : T.imAll ts = true
          · rw [if_pos im] at e2
            cases e2
            refine ⟨S, F, _, _, R, e1, fun v H' F' G o => ?_⟩
            obtain ⟨d, u, h1, h2, h3⟩ := own_lock o im
            exact ⟨d, u, h1, h2, fun od => k v _ _ _ (h3 od)⟩
          · rw [if_neg im] at e2; cases e2
        · cases e2
end
section
variable {S : TSt} {i : Nat} {t u : T}
theorem addA_lf {ts us : List T} : addA (.nd .lst ts) (.nd .fz us) = gd (ts.length + us.length ≤ 100000 ∧ T.imAll (ts ++ us) = true) (.nd .lst (ts ++ us)) := rfl
end
end VT
namespace VT
open PySem L2
/-- a number in figures -/
def dg (i : Int) : Str := Str.ofString (toString i)
theorem ofS_ok (s : String) : PyData.strOk (Str.ofString s) = true := by
  unfold PyData.strOk
  rw [Str.ofString_eq_toList]
  simp only [List.all_toArray, List.all_map, List.all_eq_true]
  intro c _
  simp only [Function.comp, decide_eq_true_eq]
  have h := c.valid
  have e : c.toNat = c.val.toNat := rfl
  rw [e]
  rcases h with h | h
  · have : c.val.toNat < 0xd800 := h
    omega
  · have : c.val.toNat < 0x110000 := h.2
    omega
theorem dg_ok (i : Int) : PyData.strOk (dg i) = true := ofS_ok _
theorem len_app (a b : Str) : (a ++ b).length = a.length + b.length := by
  show (a.cps ++ b.cps).size = _
  rw [Array.size_append]
  try rfl
theorem ok_app {a b : Str} (h : PyData.strOk a = true) (g : PyData.strOk b = true) : PyData.strOk (a ++ b) = true := by
  unfold PyData.strOk at *
  show (a.cps ++ b.cps).all _ = true
  rw [Array.all_append, h, g]
  try rfl
theorem str_ext {a b : Str} (h : a.cps.toList = b.cps.toList) : a = b := by
  cases a with
  | mk x =>
    cases b with
    | mk y =>
      congr 1
      exact Array.ext' h
theorem dg_len {i : Int} {k : Nat} (hk : 0 < k) (h : i.natAbs < 10 ^ k) : (dg i).length ≤ k + 1 := by
  unfold dg
  by_cases h0 : 0 ≤ i
  · have := PyProof.Rows.toString_length_le h0 hk (by
      have e : ((10 ^ k : Nat) : Int) = (10 : Int) ^ k := by norm_cast
      rw [← e]
      omega)
    omega
  · obtain ⟨m, rfl⟩ : ∃ m, i = Int.negSucc m := by
      cases i with
      | ofNat m => exact absurd (Int.natCast_nonneg m) h0
      | negSucc m => exact ⟨m, rfl⟩
    have e : toString (Int.negSucc m) = "-" ++ toString ((m + 1 : Nat) : Int) := rfl
    rw [e, PyProof.Rows.ofString_length, String.toList_append, List.length_append]
    have := PyProof.Rows.toString_length_le (v := ((m + 1 : Nat) : Int)) (Int.natCast_nonneg _) hk (by
      have e : ((10 ^ k : Nat) : Int) = (10 : Int) ^ k := by norm_cast
      rw [← e]
      have : (Int.negSucc m).natAbs = m + 1 := rfl
      omega)
    rw [PyProof.Rows.ofString_length] at this
    have l1 : ("-" : String).toList.length = 1 := rfl
    omega
theorem log_ok {i : Int} (h : i.natAbs < 10 ^ 60) : i.natAbs.log2 < 1920 := by
  by_cases h0 : i.natAbs = 0
  · rw [h0]; decide
  · rw [Nat.log2_lt h0]
    refine Nat.lt_of_lt_of_le h ?_
    exact Nat.le_trans (Nat.pow_le_pow_left (show 10 ≤ 2 ^ 4 by decide) 60) (by rw [← Nat.pow_mul]; exact Nat.pow_le_pow_right (by decide) (by decide))
theorem strT_d {i : Int} (h : i.natAbs < 10 ^ 60) : strT (.int i) = some (.str (dg i)) := gd_pos (log_ok h)
theorem beq_tt : (true == true) = true := rfl
theorem beq_tf : (true == false) = false := rfl
theorem beq_ft : (false == true) = false := rfl
theorem beq_ff : (false == false) = true := rfl
theorem strs_map (l : List Str) : strsOf (l.map .str) = some l := by
  induction l with
  | nil => rfl
  | cons x l ih => rw [List.map_cons, strsOf, ih]; rfl
theorem joinT_s {a : Str} {k : Kd} {l : List Str} (hk : isSq k = true) (h : (l.map (·.length)).sum + l.length * a.length ≤ 16777216) : joinT a (.nd k (l.map .str)) = some (.str (Txt.join a l)) := by
  show (if isSq k = true then (strsOf (l.map .str)).bind _ else none) = _
  rw [if_pos hk, strs_map]
  exact if_pos h
theorem ok_join {a : Str} {l : List Str} (h : PyData.strOk a = true) (g : ∀ x ∈ l, PyData.strOk x = true) : PyData.strOk (Txt.join a l) = true := by
  have key : ∀ (m : List Str) (acc : Array Nat), acc.all (· < 0x110000) = true → (∀ x ∈ m, PyData.strOk x = true) → (m.foldl (fun acc p => acc ++ a.cps ++ p.cps) acc).all (· < 0x110000) = true := fun m => by
    induction m with
    | nil => exact fun acc h _ => h
    | cons x m ih =>
      intro acc h1 h2
      refine ih _ ?_ fun y hy => h2 y (List.mem_cons_of_mem _ hy)
      have hx := h2 x List.mem_cons_self
      unfold PyData.strOk at h hx
      rw [Array.all_append, Array.all_append, h1, h, hx]
      try rfl
  cases l with
  | nil => exact ofS_ok ""
  | cons x l => exact key l x.cps (g x List.mem_cons_self) fun y hy => g y (List.mem_cons_of_mem _ hy)
theorem sum_le {l : List Str} {B : Nat} (h : ∀ x ∈ l, x.length ≤ B) : (l.map (·.length)).sum ≤ l.length * B := by
  induction l with
  | nil => simp
  | cons x l ih =>
    have h1 := h x List.mem_cons_self
    have h2 := ih fun y hy => h y (List.mem_cons_of_mem _ hy)
    simp only [List.map_cons, List.sum_cons, List.length_cons, Nat.succ_mul]
    omega
theorem join_len {a : Str} {l : List Str} : (Txt.join a l).length ≤ (l.map (·.length)).sum + l.length * a.length := by
  have key : ∀ (m : List Str) (acc : Array Nat), (m.foldl (fun acc p => acc ++ a.cps ++ p.cps) acc).size = acc.size + (m.map (·.length)).sum + m.length * a.length := fun m => by
    induction m with
    | nil => intro acc; simp
    | cons x m ih =>
      intro acc
      rw [List.foldl_cons, ih]
      simp only [Array.size_append, List.map_cons, List.sum_cons, List.length_cons, Nat.succ_mul]
      show acc.size + a.length + x.length + _ + _ = _
      omega
  cases l with
  | nil => simp [Txt.join, Builtin.Str.glued]; rfl
  | cons x l =>
    have := key l x.cps
    show ((l.foldl (fun acc p => acc ++ a.cps ++ p.cps) x.cps)).size ≤ _
    rw [this]
    simp only [List.map_cons, List.sum_cons, List.length_cons, Nat.succ_mul]
    show x.length + _ + _ ≤ _
    omega
end VT
namespace VT
open PySem PySem.Spec PyProof.Rows L2
end VT
namespace VT
open PySem PySem.Spec PyProof.Rows L2
end VT
namespace VT
open PySem PySem.Spec PyProof.Rows L2
end VT
namespace VT
open PySem L2
end VT
namespace VT
open PySem L2
end VT
namespace VT
open PySem L2
section
variable {Γ : Gx} {ar : Fx} {W : WX} {X : Cx} {pos : Pos}
theorem putK_new {κ : Type} [DecidableEq κ] {k : κ} {v : V} {kvs : List (κ × V)} (h : k ∉ kvs.map (·.1)) : L2.putK kvs k v = kvs ++ [(k, v)] := by
  unfold L2.putK
  rw [if_neg]
  intro z
  rw [List.any_eq_true] at z
  obtain ⟨kv, h1, h2⟩ := z
  exact h (List.mem_map.mpr ⟨kv, h1, of_decide_eq_true h2⟩)
end
end VT
namespace VT
open PySem L2
end VT
namespace VT
open PySem L2
abbrev MR := List T → Option T
abbrev RF := TSt → Option (Option T)
end VT
namespace VT
open PySem L2
end VT
namespace VT
open PySem L2
end VT
namespace VT
open PySem L2
end VT
namespace VT
open PySem L2
section
variable {Γ : Gx} {ar : Fx} {W : WX} {X : Cx} {pos p : Pos} {e : Expr} {ga : BF} {fa : EF}
def slA (lo hi : Option Int) : T → Option T
  | .nd .tup ts => if T.imAll ts = true then some (.nd .tup (cutT ts lo hi)) else none
  | t => slT lo hi t
def rSlY (K : PySem.W.Frag) : V → Option Int → Option Int → Hp → VK → Prop := fun x lo hi H Q => rSlA K x lo hi H Q ∨ rSlX K x lo hi H Q
theorem sl_anyA : SlR X (rSlY X.K) := SlR.or sl_tupA sl_any
theorem slA_ok {lo hi : Option Int} : UnT Γ (fun x H Q => rSlY Γ.K x lo hi H Q) (slA lo hi) := by
  intro H x t1 t G1 Q r1 e k
  unfold slA at e
  split at e
  · rename_i ts
    by_cases hc : T.imAll ts = true
    · rw [if_pos hc] at e
      cases e
      have r0 := r1.im (show (T.nd .tup ts).im = true from hc) FE
      obtain ⟨a, vs, rfl, q, hl, hk⟩ := r1.tupl
      refine .inl ⟨a, vs, rfl, q, fun hw => ?_, fun hw p hp => ?_⟩
      · rw [hl] at hw
        have ec : cutT ts lo hi = ts := by
          unfold cutT
          rw [hw.1, hw.2, List.drop_zero, Nat.sub_zero, List.take_length]
        rw [ec] at k
        exact k _ H FE (Same.refl H) r0 new_FE
      · obtain ⟨c1, c2⟩ := cut_get (lo := lo) (hi := hi) hl hk
        obtain ⟨s, r, n⟩ := new_tup (Γ := Γ) hp c1 c2 (cutT_im hc)
        exact k _ _ _ s r n
    · rw [if_neg hc] at e; cases e
  · exact .inr (slT_ok H x t1 t G1 Q r1 e k)
theorem n_slA {lo hi : Option Expr} {l u : Option Int} {p2 : Pos} (he : PE X e (rdB Γ ar ga)) (hl : PLit X lo l) (hu : PLit X hi u) (hK : X.K = Γ.K := by rfl) : PE X (.Subscript e (.Slice lo hi none p2) pos) (rdN Γ ar (bUn (slA l u) ga)) := PE.imp (pe_slice (hK ▸ sl_anyA) he hl hu) fun σ H Q q => tUn_b slA_ok σ H Q q
theorem slA_lst {lo hi : Option Int} {ts : List T} : slA lo hi (.nd .lst ts) = if T.imAll ts = true then some (.nd .lst (cutT ts lo hi)) else none := rfl
theorem slA_tup {lo hi : Option Int} {ts : List T} : slA lo hi (.nd .tup ts) = if T.imAll ts = true then some (.nd .tup (cutT ts lo hi)) else none := rfl
theorem slA_fz {lo hi : Option Int} {ts : List T} : slA lo hi (.nd .fz ts) = if T.imAll ts = true then some (.nd .lst (cutT ts lo hi)) else none := rfl
end
section
variable {m : MR} {n c i : Nat} {x : Str} {pl : PF} {gs : BAF} {S : TSt} {p : List Nat} {t u : T} {as : List Arg} {ts : List T} {f g : RF} {b : Bool} {gb : BF}
variable {vs : List Nat} {tf : GF} {cond elt : BF} {kt : List (List Key)}
theorem eYes_q : eYes S = some (.ok (.bl true), S) := rfl
end
def fl (n : Int) (f : Int → T) : List T := (rgI n).map f
def up {α : Type} (f : Int → α) (k : Int) (x : α) : Int → α := fun j => if j = k then x else f j
theorem up_same {α : Type} {f : Int → α} {k : Int} {x : α} : up f k x k = x := if_pos rfl
theorem up_ne {α : Type} {f : Int → α} {k j : Int} {x : α} (h : ¬ j = k) : up f k x j = f j := if_neg h
theorem up_id {α : Type} {f : Int → α} {k : Int} : up f k (f k) = f := by
  funext j
  unfold up
  split
  · rename_i h; rw [h]
  · rfl
theorem fl_len {n : Int} {f : Int → T} : (fl n f).length = n.toNat := by rw [fl, List.length_map, rgI_length]
theorem rgI_get {n k : Int} (h0 : 0 ≤ k) (h1 : k < n) : (rgI n)[k.toNat]? = some k := by
  unfold rgI
  rw [List.getElem?_map, List.getElem?_range (by omega)]
  simp only [Option.map_some]
  congr 1
  omega
theorem fl_get {n k : Int} {f : Int → T} (h0 : 0 ≤ k) (h1 : k < n) : (fl n f)[k.toNat]? = some (f k) := by
  rw [fl, List.getElem?_map, rgI_get h0 h1]
  try rfl
theorem fl_getD {n k : Int} {f : Int → T} (h0 : 0 ≤ k) (h1 : k < n) : (fl n f).getD k.toNat .non = f k := by
  rw [List.getD_eq_getElem?_getD, fl_get h0 h1]
  try rfl
theorem fl_set {n k : Int} {f : Int → T} {x : T} (h0 : 0 ≤ k) (h1 : k < n) : (fl n f).set k.toNat x = fl n (up f k x) := by
  apply List.ext_getElem?
  intro j
  by_cases hj : j < n.toNat
  · have e1 : (fl n (up f k x))[j]? = some (up f k x (j : Int)) := by
      have := fl_get (n := n) (k := (j : Int)) (f := up f k x) (by omega) (by omega)
      simpa using this
    have e2 : (fl n f)[j]? = some (f (j : Int)) := by
      have := fl_get (n := n) (k := (j : Int)) (f := f) (by omega) (by omega)
      simpa using this
    rw [e1, List.getElem?_set]
    by_cases c : k.toNat = j
    · rw [if_pos c, if_pos (by rw [fl_len]; omega)]
      have : (j : Int) = k := by omega
      rw [this, up_same]
    · rw [if_neg c, e2, up_ne (by omega)]
  · rw [List.getElem?_eq_none (by rw [List.length_set, fl_len]; omega), List.getElem?_eq_none (by rw [fl_len]; omega)]
theorem ixN_fl {n k : Int} (h0 : 0 ≤ k) (h1 : k < n) : ixN n.toNat k = some k.toNat := by
  unfold ixN
  rw [if_pos h0, if_pos (by omega)]
theorem atI_fl {n k : Int} {f : Int → T} (h0 : 0 ≤ k) (h1 : k < n) : atI (fl n f) k = some (f k) := by
  unfold atI
  rw [fl_len, ixN_fl h0 h1, Option.bind_some, fl_get h0 h1]
theorem ixB_fl {n k : Int} {f : Int → T} (h0 : 0 ≤ k) (h1 : k < n) : ixB (.nd .lst (fl n f)) (.int k) = some (f k) := by rw [ixB_lst, atI_fl h0 h1]
theorem kX4_fl {n k : Int} {f : Int → T} {i : Nat} {p : List Nat} (h0 : 0 ≤ k) (h1 : k < n) : kX4 i p (.nd .lst (fl n f)) (.int k) = some (i, p ++ [k.toNat]) := by rw [kX4_lst, fl_len, ixN_fl h0 h1]; rfl
theorem setA_fl {n k : Int} {f : Int → T} {x : T} (h0 : 0 ≤ k) (h1 : k < n) : setA (.int k) (.nd .lst (fl n f)) [x] = some (.nd .lst (fl n (up f k x)), .non) := by rw [setA_l, setM_q, fl_len, ixN_fl h0 h1, Option.bind_some, kSM_q, fl_set h0 h1]
end VT
namespace VT
open PySem PySem.Spec PyProof.Rows L2
end VT
namespace VT
open PySem PySem.Spec PyProof.Rows L2
end VT
namespace VT
open PySem PySem.Spec PyProof.Rows L2
end VT
namespace VT
open PySem PySem.Spec PyProof.Rows L2
def intsOf : List T → Option (List Int)
  | [] => some []
  | .int i :: ts => (intsOf ts).bind fun l => some (i :: l)
  | _ => none
theorem intsOf_map (l : List Int) : intsOf (l.map .int) = some l := by
  induction l with
  | nil => rfl
  | cons a l ih => rw [List.map_cons, intsOf, ih]; rfl
theorem intsOf_eq : ∀ {ts : List T} {l : List Int}, intsOf ts = some l → ts = l.map .int
  | [], l, h => by cases h; rfl
  | .int i :: ts, l, h => by
    unfold intsOf at h
    cases e : intsOf ts with
    | none => rw [e] at h; cases h
    | some m =>
      rw [e] at h
      cases h
      rw [intsOf_eq e]
      try rfl
  | .non :: _, _, h => by cases h
  | .bl _ :: _, _, h => by cases h
  | .str _ :: _, _, h => by cases h
  | .nd _ _ :: _, _, h => by cases h
section
variable {Γ : Gx} {ar : Fx} {W : WX} {X : Cx} {ga : BF}
theorem ints_vs {H : Hp} {vs : List V} {l : List Int} {Fs : Nat → FP} (hl : vs.length = (l.map T.int).length) (hc : ∀ (i : Nat) (v : V) (t : T), vs[i]? = some v → (l.map T.int)[i]? = some t → Rep Γ H v t (Fs i)) : vs = l.map V.int := by
  refine List.ext_getElem? fun i => ?_
  by_cases hi : i < vs.length
  · have e1 : vs[i]? = some vs[i] := List.getElem?_eq_getElem hi
    have hj : i < l.length := by rw [List.length_map] at hl; omega
    have e2 : (l.map T.int)[i]? = some (.int l[i]) := by rw [List.getElem?_map, List.getElem?_eq_getElem hj]; rfl
    have r := hc i _ _ e1 e2
    rw [e1, List.getElem?_map, List.getElem?_eq_getElem hj]
    generalize vs[i] = v at r ⊢
    cases r
    rfl
  · rw [List.getElem?_eq_none (by omega), List.getElem?_eq_none (by rw [List.length_map] at hl ⊢; omega)]
end
end VT
namespace VT
open PySem PySem.Spec PyProof.Rows L2
def kBd : T → Option (Option Int)
  | .int i => some (some i)
  | _ => none
def bnd : Option BF → TSt → Option (Option Int)
  | none, _ => some none
  | some g, S => (g S).bind kBd
theorem bnd_n {S : TSt} : bnd none S = some none := rfl
theorem bnd_s {g : BF} {S : TSt} : bnd (some g) S = (g S).bind kBd := rfl
theorem kBd_i {i : Int} : kBd (.int i) = some (some i) := rfl
def rdO (Γ : Gx) (ar : Fx) (o : Option BF) : TO := fun σ H Q => ∃ S F l, RepS Γ ar H σ S F ∧ bnd o S = some l ∧ ∀ H', Same H H' → Q l H'
def kSl1 (hi : Option BF) (S : TSt) (t : T) (l : Option Int) : Option T := (bnd hi S).bind fun u => slA l u t
def kSl0 (lo hi : Option BF) (S : TSt) (t : T) : Option T := (bnd lo S).bind (kSl1 hi S t)
def bSl (lo hi : Option BF) (ga : BF) : BF := fun S => (ga S).bind (kSl0 lo hi S)
theorem bSl_q {lo hi : Option BF} {ga : BF} {S : TSt} : bSl lo hi ga S = (ga S).bind (kSl0 lo hi S) := rfl
theorem kSl0_q {lo hi : Option BF} {S : TSt} {t : T} : kSl0 lo hi S t = (bnd lo S).bind (kSl1 hi S t) := rfl
theorem kSl1_q {hi : Option BF} {S : TSt} {t : T} {l : Option Int} : kSl1 hi S t l = (bnd hi S).bind fun u => slA l u t := rfl
section
variable {Γ : Gx} {ar : Fx} {W : WX} {X : Cx} {e : Expr} {ga g : BF} {fa : EF} {pos p2 : Pos}
theorem po_n : PO X none (rdO Γ ar none) := PO.imp po_none fun σ H Q q => by
  obtain ⟨S, F, l, R, e, k⟩ := q
  cases e
  exact k H (Same.refl H)
theorem po_s (h : PE X e (rdB Γ ar g)) : PO X (some e) (rdO Γ ar (some g)) := PO.imp (po_some h) fun σ H Q q => by
  obtain ⟨S, F, l, R, e, k⟩ := q
  rw [bnd_s] at e
  cases e1 : g S with
  | none => rw [e1] at e; cases e
  | some t =>
    rw [e1] at e
    simp only [Option.bind_some] at e
    unfold kBd at e
    split at e
    · rename_i i
      cases e
      refine ⟨S, F, _, R, e1, fun v H1 G s r => ?_⟩
      cases r
      exact ⟨i, rfl, k H1 s⟩
    · cases e
theorem n_slB {lo hi : Option Expr} {l u : Option BF} (he : PE X e (rdB Γ ar ga)) (hl : PO X lo (rdO Γ ar l)) (hu : PO X hi (rdO Γ ar u)) (hK : X.K = Γ.K := by rfl) : PE X (.Subscript e (.Slice lo hi none p2) pos) (rdN Γ ar (bSl l u ga)) := by
  refine PE.imp (pe_slice (hK ▸ sl_anyA) he hl hu) fun σ H Q q => ?_
  obtain ⟨S, F, t, R, ee, k⟩ := q
  rw [bSl_q] at ee
  cases e1 : ga S with
  | none => rw [e1] at ee; cases ee
  | some t1 =>
    rw [e1] at ee
    simp only [Option.bind_some, kSl0_q] at ee
    cases e2 : bnd l S with
    | none => rw [e2] at ee; cases ee
    | some li =>
      rw [e2] at ee
      simp only [Option.bind_some, kSl1_q] at ee
      cases e3 : bnd u S with
      | none => rw [e3] at ee; cases ee
      | some ui =>
        rw [e3] at ee
        simp only [Option.bind_some] at ee
        exact ⟨S, F, t1, R, e1, fun x H1 G1 s1 r1 => ⟨S, F, li, R.same s1, e2, fun H2 s2 => ⟨S, F, ui, (R.same s1).same s2, e3, fun H3 s3 =>
          slA_ok H3 x t1 t G1 Q (r1.same (s2.trans s3)) ee fun v H' G s r n => k v H' G ((s1.trans (s2.trans s3)).trans s) r (n.back (s1.trans (s2.trans s3)))⟩⟩⟩
end
end VT
namespace VT
open PySem L2
end VT
namespace VT
open PySem PySem.Spec PyProof.Rows L2
end VT
namespace VT
open PySem PySem.Spec PyProof.Rows L2
end VT
namespace VT
open PySem PySem.Spec PyProof.Rows L2
end VT
namespace VT
open PySem PySem.Spec PyProof.Rows L2
end VT
namespace VT
open PySem PySem.Spec PyProof.Rows L2
section
variable {Γ : Gx} {X : Cx} {ar : Fx} {W : WX} {e o : Expr} {pos p apos : Pos} {ga gb g : BF} {fa : EF}
def GlV (mg : Str → Option Value) (x : Str) (v : V) : Prop := ∃ u, mg x = some u ∧ RelV v u
theorem n_gi {x : Str} {i : Int} (h : GlV X.mg x (.int i)) (hg : Gl X x := by rfl) (hdb : (x == ("__debug__" : Str)) = false := by decide) : PE X (.Name x pos) (rdN Γ ar (nC (.int i))) := by
  obtain ⟨u, h1, h2⟩ := h
  exact pe_c (pe_glob hg h1 h2 hdb) fun _ => .int i
theorem n_gs {x z : Str} (h : GlV X.mg x (.str z)) (hg : Gl X x := by rfl) (hdb : (x == ("__debug__" : Str)) = false := by decide) : PE X (.Name x pos) (rdN Γ ar (nC (.str z))) := by
  obtain ⟨u, h1, h2⟩ := h
  exact pe_c (pe_glob hg h1 h2 hdb) fun _ => .str z
def sgIn (neg : Bool) (k : Nat) (z : Str) : Bool := if neg then !decide (k ∈ z.cps.toList) else decide (k ∈ z.cps.toList)
def rInS (neg : Bool) : R2 := fun x y H Q => ∃ c z, x = .str ⟨#[c]⟩ ∧ y = .str z ∧ Q (.bl (sgIn neg c z)) H
theorem op_notInS : OpR X (compareOp .NotIn) (rInS true) := op_notIn_sign
def inSs (neg : Bool) (t1 t2 : T) : Option T := match t1, t2 with
  | .str ⟨⟨[c]⟩⟩, .str z => some (.bl (sgIn neg c z))
  | _, _ => none
def notInS : T → T → Option T := inSs true
theorem inSs_ok {neg : Bool} : OpT Γ (rInS neg) (inSs neg) := by
  intro H x y t1 t2 t G1 G2 Q r1 r2 e k
  unfold inSs at e
  split at e
  · rename_i c z
    cases e
    cases r1
    cases r2
    exact ⟨c, z, rfl, rfl, k _ H FE (Same.refl H) (.bl _) new_FE⟩
  · cases e
theorem notInS_ok : OpT Γ (rInS true) notInS := inSs_ok
def intS : T → Option T
  | .str a => if a.length ≤ 640 then (intText? a).bind fun n => some (.int n) else none
  | _ => none
theorem intS_ok : UnT Γ (fun x H Q => ∃ a n, [x] = [V.str a] ∧ intText? a = some n ∧ a.length ≤ 640 ∧ Q (.int n) H) intS := by
  intro H x t1 t G1 Q r1 e k
  unfold intS at e
  split at e
  · rename_i a
    by_cases h : a.length ≤ 640
    · rw [if_pos h] at e
      cases e1 : intText? a with
      | none => rw [e1] at e; cases e
      | some n =>
        rw [e1] at e
        cases e
        cases r1
        exact ⟨a, n, rfl, e1, h, k _ H FE (Same.refl H) (.int _) new_FE⟩
    · rw [if_neg h] at e; cases e
  · cases e
theorem n_intS (hm : X.mg "int" = none) (ha : PE X e (rdB Γ ar ga)) (hg : Gl X "int" := by rfl) (he : starEach [e] X.env = (false, eval e X.env) :: starEach [] X.env := by rfl) : PE X (.Call (.Name "int" p) [e] [] pos) (rdN Γ ar (bUn intS ga)) := nCallT intS_ok call_int_str hm PyProof.Rows.boot_int ha hg (he := he)
def splitS (t1 t2 : T) : Option T := match t1, t2 with
  | .str a, .str b => if (b.length == 0) = false ∧ a.length ≤ 99000 then some (.nd .lst ((Txt.split a b).map .str)) else none
  | _, _ => none
theorem strs_rep {H : Hp} {ys : List Str} {q : Addr} (hq : H q = none) : Same H (upd H q (.lst (ys.map V.str))) ∧ Rep Γ (upd H q (.lst (ys.map V.str))) (.ref q) (.nd .lst (ys.map T.str)) (fun a => a = q) ∧ New H (upd H q (.lst (ys.map V.str))) (fun a => a = q) := by
  refine ⟨fun b o eb => by rw [upd_ne (ne_of_none eb hq)]; exact eb, .nd (Fs := fun _ => FE) upd_same (by simp) (fun _ => ⟨rfl, fun _ z => z⟩) (fun i v t e1 e2 => ?_) (fun _ _ _ _ z => z.elim) (fun _ _ z => z.elim), fun a z => by rw [z]; exact hq, fun a z => by rw [z, upd_same]; exact fun y => nomatch y⟩
  rw [List.getElem?_map] at e1 e2
  cases q1 : ys[i]? with
  | none => rw [q1] at e1; cases e1
  | some y =>
    rw [q1] at e1 e2
    cases e1
    cases e2
    exact .str _
theorem n_split (ho : PE X o (rdB Γ ar ga)) (he : PE X e (rdB Γ ar gb)) (hst : starEach [e] X.env = [(false, eval e X.env)] := by rfl) (hbase : attributeBase o "split" X.env (eval o X.env) = eval o X.env := by rfl) (hline : (apos.endLine == pos.line) = true := by rfl) :
    PE X (.Call (.Attribute o "split" apos) [e] [] pos) (rdN Γ ar (bOp splitS ga gb)) := by
  refine PE.imp (pe_split ho he hst hbase hline) fun σ H Q q => ?_
  obtain ⟨S, F, t, R, ee, k⟩ := q
  unfold bOp at ee
  cases e1 : ga S with
  | none => rw [e1] at ee; cases ee
  | some t1 =>
    rw [e1] at ee
    simp only [Option.bind_some] at ee
    cases e2 : gb S with
    | none => rw [e2] at ee; cases ee
    | some t2 =>
      rw [e2] at ee
      simp only [Option.bind_some] at ee
      unfold splitS at ee
      split at ee
      · rename_i a b
        by_cases h : (b.length == 0) = false ∧ a.length ≤ 99000
        · rw [if_pos h] at ee
          cases ee
          refine ⟨S, F, _, R, e1, fun x H1 G1 s1 r1 => ?_⟩
          cases r1
          refine ⟨⟨a, rfl⟩, S, F, _, R.same s1, e2, fun y H2 G2 s2 r2 => ?_⟩
          cases r2
          refine ⟨a, b, rfl, rfl, h.1, sz5 (by omega), fun q hq => ?_⟩
          obtain ⟨s3, r3, n3⟩ := strs_rep (Γ := Γ) (ys := Txt.split a b) hq
          exact k _ _ _ ((s1.trans s2).trans s3) r3 (n3.back (s1.trans s2))
        · rw [if_neg h] at ee; cases ee
      · cases ee
def sgT (z : Str) : List T := z.cps.toList.map fun c => .str ⟨#[c]⟩
theorem sgT_get {z : Str} {i : Nat} {c : Nat} (h : z.cps[i]? = some c) : (sgT z)[i]? = some (.str ⟨#[c]⟩) := by
  unfold sgT
  rw [List.getElem?_map, Array.getElem?_toList, h]
  try rfl
theorem sgT_len (z : Str) : (sgT z).length = z.cps.size := by unfold sgT; rw [List.length_map, Array.length_toList]
def kFS (tf : GF) (body : SF) (S : TSt) : T → Option (Fl × TSt)
  | .str z => runL tf body (sgT z) S
  | _ => none
def sForS (tf : GF) (gs : BF) (body : SF) : SF := fun S => (gs S).bind (kFS tf body S)
theorem s_forS {tg iter : Expr} {body : List Stmt} {sb : SF} {tf : GF} {gg : TG} (hp : PassesOwn (model X.prog X.w) X.A X.env X.xe) (hc : X.calm = true) (tk : TgOk Γ ar gg tf) (hi : PE X iter (rdB Γ ar ga)) (hg : PG X tg gg) (hb : PSs X body (rdS Γ ar W sb))
    (hs : ∀ x, foldedSetIterable iter X.env x = pure x := by intro _; rfl) : PS X (.For tg iter body [] pos) (rdS Γ ar W (sForS tf ga sb)) := by
  refine PS.imp (ps_for hp hc (pi_str hi) hg hb hs) fun D σ H q => ?_
  obtain ⟨S, F, fl, SN, R, ee, kk⟩ := q
  unfold sForS at ee
  cases e1 : ga S with
  | none => rw [e1] at ee; cases ee
  | some t =>
    rw [e1] at ee
    simp only [Option.bind_some] at ee
    unfold kFS at ee
    split at ee
    · rename_i z
      refine ⟨S, F, _, R, e1, fun v H1 G s1 rv => ?_⟩
      cases rv
      refine ⟨z, rfl, fun i m σ' H' => m = z.cps.size - i ∧ i ≤ z.cps.size ∧ ∃ S' F', RepS Γ ar H' σ' S' F' ∧ Upd H1 H' F F' ∧ runL tf sb ((sgT z).drop i) S' = some (fl, SN), ⟨_, rfl, Nat.zero_le _, S, F, R.same s1, Upd.refl H1 F, ee⟩, ?_⟩
      rintro i m σ' H' ⟨rfl, hi, S', F', R', u', e'⟩
      by_cases c : i < z.cps.size
      · refine .inr ⟨c, fun σ2 H2 => ∃ S' F', RepS Γ ar H2 σ2 S' F' ∧ Upd H1 H2 F F' ∧ runL tf sb ((sgT z).drop (i + 1)) S' = some (fl, SN), fun σ2 H2 v => ⟨_, by omega, rfl, by omega, v⟩, fun x H2 yl => ?_⟩
        obtain ⟨eH, c', hc', ex⟩ := yl
        subst eH
        subst ex
        rw [drop_get (sgT_get hc')] at e'
        exact loop_step tk R' (.str (F := FE) _) e' _ (fun σ2 H2 S2 F2 R2 u2 e2 => ⟨S2, F2, R2, u'.trans u2, e2⟩) (flp_after ((Upd.of_same s1).trans u') kk) fun _ _ _ z => z
      · refine .inl ⟨by show z.cps.size ≤ i; omega, ?_⟩
        rw [List.drop_eq_nil_of_le (by rw [sgT_len]; omega)] at e'
        cases e'
        exact kk σ' H' F' R' ((Upd.of_same s1).trans u')
    · cases ee
def kLS (vs : List Nat) (tf : GF) (cond elt : BF) (S : TSt) : T → Option T
  | .str z => lcN vs tf cond elt (sgT z) S
  | _ => none
def bLcS (vs : List Nat) (tf : GF) (gs cond elt : BF) : BF := fun S => (gs S).bind (kLS vs tf cond elt S)
theorem lcS_ok {vs : List Nat} {tf : GF} {tg : TG} {gs cond elt : BF} {C : Fx → Prop} {σ : L2.St} {H : Hp} {Q : VK} (tk : TgW Γ (freeAt ar vs) vs tg tf) (hC : C (freeAt ar vs)) (q : rdN Γ ar (bLcS vs tf gs cond elt) σ H Q) : tLc (iStr (rdB Γ ar gs)) tg (rdTBX Γ C cond) (rdNX Γ C elt) vs σ H Q := by
  obtain ⟨S, F, t, R, ee, kk⟩ := q
  unfold bLcS at ee
  cases e1 : gs S with
  | none => rw [e1] at ee; cases ee
  | some u =>
    rw [e1] at ee
    simp only [Option.bind_some] at ee
    unfold kLS at ee
    split at ee
    · rename_i z
      unfold lcN at ee
      by_cases hz : (sgT z).length < 100000
      · rw [if_pos hz] at ee
        cases e3 : runN tf cond elt (sgT z) (wipeS S vs) with
        | none => rw [e3] at ee; cases ee
        | some fin =>
          rw [e3] at ee
          cases ee
          refine ⟨S, F, _, R, e1, fun v H1 G s1 rv => ?_⟩
          cases rv
          have R0 := (R.same s1).wiped (ar' := freeAt ar vs) vs free_ok.2
          refine ⟨z, rfl, fun Dl hD => ?_⟩
          refine ⟨fun j m H' => m = z.cps.size - j ∧ j ≤ z.cps.size ∧ ∃ tacc Ga, AccN Γ H1 Dl H' tacc Ga ∧ tacc.length ≤ j ∧ ∃ us, runN tf cond elt ((sgT z).drop j) (wipeS S vs) = some us ∧ tacc ++ us = fin, ⟨_, rfl, Nat.zero_le _, [], FE, accN_start hD, Nat.le_refl _, fin, e3, rfl⟩, ?_⟩
          rintro j m H' ⟨rfl, hj, tacc, Ga, A, hta, e'⟩
          rw [sgT_len] at hz
          by_cases hjl : j < z.cps.size
          · refine .inr ⟨hjl, fun H2 => ∃ tacc Ga, AccN Γ H1 Dl H2 tacc Ga ∧ tacc.length ≤ j + 1 ∧ ∃ us, runN tf cond elt ((sgT z).drop (j + 1)) (wipeS S vs) = some us ∧ tacc ++ us = fin, fun H2 y => ⟨_, by omega, rfl, by omega, y⟩, ?_⟩
            rintro x H2 ⟨rfl, c', hc', rfl⟩
            rw [drop_get (sgT_get hc')] at e'
            exact turnN tk hC hD R0 A (by omega) (.str (F := FE) _) e' (fun H' => ∃ tacc Ga, AccN Γ H1 Dl H' tacc Ga ∧ tacc.length ≤ j + 1 ∧ ∃ us, runN tf cond elt ((sgT z).drop (j + 1)) (wipeS S vs) = some us ∧ tacc ++ us = fin)
              fun H2 ta2 Ga2 A2 hl2 e2 => ⟨ta2, Ga2, A2, by omega, e2⟩
          · obtain ⟨us', e', ef⟩ := e'
            rw [List.drop_eq_nil_of_le (by rw [sgT_len]; omega)] at e'
            cases e'
            rw [List.append_nil] at ef
            subst ef
            obtain ⟨d1, d2, d3⟩ := A.done hD
            exact .inl ⟨by show z.cps.size ≤ j; omega, kk _ H' _ (s1.trans d1) d2 (d3.back s1)⟩
      · rw [if_neg hz] at ee; cases ee
    · cases ee
theorem n_lcS {elt tg iter : Expr} {ifs : List Expr} {scope : Scope} {own : List (Str × Nat)} {cond el gs : BF} {gg : TG} {tf : GF} (hc : X.calm = true) (hN : X.N.Nodup) (tk : ∀ ar : Fx, (∀ v ∈ own.map (·.2), ar v = none) → TgW Γ ar (own.map (·.2)) gg tf) (hi : PE X iter (rdB Γ ar gs)) (ok : BlkOk X.N X.env.scope scope own) (hg : ∀ (s : Shared) (H : Hp) (C : Addr) (cl : List (Str × Addr)) (fp : List Addr), PG (X.blk s H scope (compEnvC scope cl C X.env) fp) tg gg)
    (ht : ∀ (s : Shared) (H : Hp) (C : Addr) (cl : List (Str × Addr)) (fp : List Addr), PTs (X.blk s H scope (compEnvC scope cl C X.env) fp) ifs (rdTBX Γ CT' cond)) (he : ∀ (s : Shared) (H : Hp) (C : Addr) (cl : List (Str × Addr)) (fp : List Addr), PE (X.blk s H scope (compEnvC scope cl C X.env) fp) elt (rdNX Γ CT' el))
    (hs : ∀ x, foldedSetIterable iter X.env x = pure x := by intro _; rfl) : PE X (.ListComp elt [⟨tg, iter, ifs, 0⟩] scope pos) (rdN Γ ar (bLcS (own.map (·.2)) tf gs cond el)) :=
  PE.imp (pe_lc hc hN (pi_str hi) ok hg ht he hs) fun σ H Q q => lcS_ok (tk _ free_ok.1) trivial q
theorem sForS_q {tf : GF} {gs : BF} {body : SF} {S : TSt} : sForS tf gs body S = (gs S).bind (kFS tf body S) := rfl
theorem bLcS_q {vs : List Nat} {tf : GF} {gs cond elt : BF} {S : TSt} : bLcS vs tf gs cond elt S = (gs S).bind (kLS vs tf cond elt S) := rfl
theorem kLS_q {vs : List Nat} {tf : GF} {cond elt : BF} {S : TSt} {z : Str} : kLS vs tf cond elt S (.str z) = lcN vs tf cond elt (sgT z) S := rfl
end
end VT
namespace VT
open PySem PySem.Spec PyProof.Rows L2
def dcnt (l : List Int) : Nat := (PyProof.Rows.firstMet (fun i => l.getD i 0) l.length).length
theorem dcnt_le (l : List Int) : dcnt l ≤ l.length := PyProof.Rows.firstMet_length_le _ _
def tLenD (K : PySem.W.Frag) (ta : TE) : TE := fun σ H Q => ta σ H fun x H1 => ∃ (l : Addr) (ns : List Int), x = .ref l ∧ SqL K H1 l (ns.map V.int) ∧ ns.length ≤ 4000 ∧ Q (.int (dcnt ns : Nat)) H1
theorem pe_lenD {X : Cx} {a : Expr} {ta : TE} {p p2 q pos : Pos} (hg : Gl X "len") (hm : X.mg "len" = none) (hg2 : Gl X "set") (hm2 : X.mg "set" = none) (ha : PE X a ta) (hc : X.calm = true := by rfl)
    (na : starEach [a] X.env = (false, eval a X.env) :: starEach [] X.env := by rfl) : PE X (.Call (.Name "len" p) [.Call (.Name "set" p2) [a] [] q] [] pos) (tLenD X.K ta) := by
  refine ⟨fun pins s σ H Q I h => ?_⟩
  refine Call_ (ld_blt I hg hm PySem.boot_len ?_)
  refine PyProof.Rows.callWith_builtin1 (PyProof.Rows.args_cons ?_ rfl) rfl rfl
  refine Call_ (ld_blt I hg2 hm2 PyProof.Rows.boot_set ?_)
  refine PyProof.Rows.callWith_type1 (PyProof.Rows.args_cons (thn (ha.run pins s σ H _ I h) fun v s1 ⟨x, H1, I1, r1, q1⟩ => PyProof.Rows.args_nil ?_) na) na rfl
  obtain ⟨l, ns, rfl, hq, hl, q1⟩ := q1
  cases r1
  obtain ⟨its, r, pl, hz⟩ := I1.list hq
  have hlen : its.toArray.size = ns.length := by rw [List.size_toArray, ← r.length, List.length_map]
  refine PySem.call_set_list (I1.ok.hd hc) pl.isList (ns := ns) (by simpa using RZ.intsAre_vals r) (by rw [hlen]; unfold scanBound; omega) fun h' tk hS hk => ?_
  refine PyProof.Rows.args_nil ?_
  rw [hlen] at hS
  obtain ⟨o, es, ep, t, ho, hex, hd, _, _, _, hf, hn⟩ := hS
  have I2 : Inv X pins σ H1 { s1 with heap := h', toks := tk } := I1.kept fun b o e => hk b o (Heap.lt_size e) e
  have hle := dcnt_le ns
  have hn2 : es.size = dcnt ns := hn
  exact call_len_set ho hex hd hf (by rw [hn2] <;> omega) ⟨.int (dcnt ns), H1, I2.tok _, ⟨_, by rw [hn2]⟩, q1⟩
def kLd (l : List Int) : Option T := if l.length ≤ 4000 then some (.int (dcnt l : Nat)) else none
def lsetD : T → Option T
  | .nd .lst ts => (intsOf ts).bind kLd
  | _ => none
section
variable {Γ : Gx} {ar : Fx} {W : WX} {X : Cx} {ga : BF}
theorem n_lsetD {a : Expr} {p p2 q pos : Pos} (hm : X.mg "len" = none) (hm2 : X.mg "set" = none) (ha : PE X a (rdB Γ ar ga)) (hc : X.calm = true := by rfl) (hK : X.K = Γ.K := by rfl) (hg : Gl X "len" := by rfl) (hg2 : Gl X "set" := by rfl)
    (na : starEach [a] X.env = (false, eval a X.env) :: starEach [] X.env := by rfl) : PE X (.Call (.Name "len" p) [.Call (.Name "set" p2) [a] [] q] [] pos) (rdN Γ ar (bUn lsetD ga)) := by
  refine PE.imp (pe_lenD hg hm hg2 hm2 ha hc na) fun σ H Q qq => ?_
  obtain ⟨S, F, t, R, e, k⟩ := qq
  unfold bUn at e
  cases e1 : ga S with
  | none => rw [e1] at e; cases e
  | some u =>
    rw [e1] at e
    simp only [Option.bind_some] at e
    refine ⟨S, F, u, R, e1, fun x H1 G1 s1 r1 => ?_⟩
    rw [hK]
    unfold lsetD at e
    split at e
    · rename_i ts
      cases e2 : intsOf ts with
      | none => rw [e2] at e; cases e
      | some l =>
        rw [e2] at e
        simp only [Option.bind_some] at e
        unfold kLd at e
        by_cases hz : l.length ≤ 4000
        · rw [if_pos hz] at e
          cases e
          have et := intsOf_eq e2
          subst et
          cases r1 with
          | @nd _ _ ad vs _ Fs hat hl hm hcc hd hs =>
            have hat : H1 ad = some (.lst vs) := hat
            exact ⟨ad, l, rfl, .inl (.inl (by rw [← ints_vs hl hcc]; exact hat)), hz, k _ H1 FE s1 (.int _) new_FE⟩
        · rw [if_neg hz] at e; cases e
    · cases e
end
theorem lsetD_l {l : List Int} (h : l.length ≤ 4000) : lsetD (.nd .lst (l.map .int)) = some (.int (dcnt l : Nat)) := by
  show (intsOf (l.map .int)).bind kLd = _
  rw [intsOf_map]
  exact if_pos h
end VT
namespace VT
open PySem PySem.Spec PyProof.Rows L2 HandSPX
section
variable {M : Model} {A : Around} {E : Value → Shared → Prop} {s : Shared} {base : Heap} {env : Env} {outer : List Env} {L e : Addr} {Z : Obj → Prop}
theorem note_congr {x : Value} {env env' : Env} (h : env.frame = env'.frame) : noteFrame x env = noteFrame x env' := by
  unfold noteFrame PySem.frameOf
  rw [h]
theorem note_any {v : Value} {Q : Unit → Shared → Prop} (hZ : PXN.Steady1 Z) (hfr : A.frames = some (env :: outer)) (hf : env.frame = some L) (hv : (v == rawInt L) = false) (hkb : base.StaysIn s.heap) (hen : base.get? e = none)
    (hl : s.heap.FunFrames base (env :: outer)) (ht : TracedZ s.heap base e Z v)
    (hQ : ∀ h', HeldZ base (env :: outer) e Z L h' → s.heap.UpToSlots h' → Q () { s with heap := h' }) : wpAny M A (noteFrame (.ref e) env) Q E s := by
  obtain ⟨oe, vs, T, oT, ts, he, hz, hd, h1, hnT, hTe, hT, hdT, h3⟩ := ht
  unfold noteFrame
  simp only [hf]
  refine wpAny_bind (wpAny_field he hd h1 ?_)
  rw [if_pos (show (Value.ref T != Value.none) = true from by simp)]
  refine wpAny_bind (wpAny_field hT hdT h3 ?_)
  rw [if_neg (by rw [hv]; exact Bool.false_ne_true)]
  refine wpAny_bind (wpAny_setField hT hdT (Array.getElem?_eq_some_iff.mp h3).1 ?_)
  have other : ∀ b, b ≠ T → (s.heap.update T (Obj.mapFields (·.setIfInBounds 3 Value.none))).get? b = s.heap.get? b := fun b hb => Heap.get?_update_other _ _ (Ne.symm hb)
  have rec_ : ∀ b o, s.heap.get? b = some o → (∀ vs, o.data ≠ .fields vs) → b ≠ T := fun b o hb hnf q => by
    rw [q, hT] at hb
    cases hb
    exact hnf ts hdT
  refine PXN.wpAny_entryZ hZ hfr (hl.of_keeps fun b o hb hnf => ⟨o, (other b (rec_ b o hb hnf)).trans hb, rfl⟩) hf ((other e (Ne.symm hTe)).trans he)
    (fun b o hbo => (other b fun q => by rw [q, hnT] at hbo; cases hbo).trans (hkb b o hbo)) hen hd (Array.getElem?_eq_some_iff.mp h1).1 hz fun h' hN => ?_
  obtain ⟨x1, x2, x3, x4⟩ := hN
  exact hQ h' ⟨x1, hen, x2, x3⟩ fun b o hb hnf => x4 b o ((other b (rec_ b o hb hnf)).trans hb) hnf
theorem frames_but {h h' B B' : Heap} {C : Addr} (sb : Heap.SameBut C h h') (hB : ∀ b, B.get? b = none → B'.get? b = none) : ∀ {l : List Env}, (∀ b ∈ frs l, b ≠ C) → h.FunFrames B l → h'.FunFrames B' l
  | [], _, _ => trivial
  | env :: r, hc, ⟨h1, ⟨L, o, h2, h3, h4, h5⟩, h6⟩ => by
    have e : frs (env :: r) = L :: frs r := by
      unfold frs
      rw [List.filterMap_cons, h2]
    rw [e] at hc
    exact ⟨h1, ⟨L, o, h2, hB L h3, (sb.2 L (hc L List.mem_cons_self)).trans h4, h5⟩, frames_but sb hB (fun b hb => hc b (List.mem_cons_of_mem _ hb)) h6⟩
def compX (M : Model) (A : Around) (E : Value → Shared → Prop) (use : Option (Value → Sem Unit)) (Q : Value → Shared → Prop) (acc : Value) (C : Addr) (fr : Option Addr) (r : Result) (s' : Shared) : Prop :=
  match r, use with
  | .ok _, none => ∃ m, s'.heap.Ns C m ∧ ∀ h', Heap.SameBut C s'.heap h' → Q acc { s' with heap := h' }
  | .ok _, some u => wpAny M A (u acc) (fun _ s'' => ∃ m, s''.heap.Ns C m ∧ ∀ h', Heap.SameBut C s''.heap h' → Q .none { s'' with heap := h' }) E s'
  | .error x, _ => ∃ m, s'.heap.Ns C m ∧ ∀ h', Heap.SameBut C s'.heap h' → ∀ cenv : Env, cenv.frame = fr → wpAny M A (passOn "comprehension.variables-let-go" x cenv : Sem Value) (fun _ _ => False) E { s' with heap := h' }
end
section
variable {X : Cx} {pins : List (Addr × Obj)} {σ : L2.St} {W : WX}
/-- what a step lets out is let out by the comprehension -/
theorem tk_blk {s3 : Shared} {H3 : Hp} {scope : Scope} {ce : Env} {fp : List Addr} {use : Option (Value → Sem Unit)} {Qf : Value → Shared → Prop} {acc : Value} (I3 : L2.Inv X pins σ H3 s3) (f3 : ∀ b ∈ fp, FpOk X pins H3 b ∧ b < s3.heap.objs.size)
    (hs : X.stack = X.env :: X.outer) (hf : X.env.frame = some X.env.locals) (tk : L2N.Takes X W) (hW : ∀ c d σ1 σ2 H, W c d σ1 H → W c d σ2 H) (hL : ce.locals = s3.heap.objs.size) (hfr : ce.frame = X.env.frame) :
    L2N.Takes ((X.blk s3 H3 scope ce fp).wish (notedBy (model X.prog X.w) X.A ce fun e s' => compX (model X.prog X.w) X.A X.xe use Qf acc s3.heap.objs.size X.env.frame (.error e) s')) W := by
  rintro u s' ⟨a, B, sI, pb, σb, Hb, cls, d, rfl, Ib, nb, up, sky, na, os, ag, w⟩
  have Ib := Ib.unwish
  obtain ⟨m, hn, _⟩ := Ib.loc
  have hn : sI.heap.Ns ce.locals m := hn
  have nC : Hb ce.locals = none := Ib.free
  rw [hL] at hn nC
  have sky : L2.Sky B X.stack a (L2N.Zn cls d) ce.locals s'.heap := sky
  have nb : ∀ b o, sI.heap.get? b = some o → b ∉ frs X.stack → B.get? b = some o := nb
  have w : W cls d σb Hb := w
  have hCf : s3.heap.objs.size ∉ frs X.stack := fun hm => by
    rcases List.mem_cons.mp (I3.stkSub _ hm) with z | z
    · have := I3.lt
      rw [← z] at this
      exact absurd this (Nat.lt_irrefl _)
    · exact I3.nofs (Nat.le_refl _) z
  obtain ⟨o, es, ep, ho, hd, ks, hfnd⟩ := hn
  have hB : B.get? s3.heap.objs.size = some o := nb _ o ho hCf
  have fC : FpOk X pins Hb s3.heap.objs.size := I3.fpOk (Nat.le_refl _) nC
  obtain ⟨g0, g1, g2, g3, g4, g5⟩ := fC
  have I7 : L2.Inv X pins σ Hb sI := I3.call' (ch := fp) Ib.os Ib.base Ib.hok Ib.bare fun b hb => ⟨(f3 b hb).1.2.2.2.1, (f3 b hb).1.2.1, (f3 b hb).1.2.2.2.2.1, (f3 b hb).1.2.2.2.2.2⟩
  have hg : ∀ b o, (PySem.W.hideAll sI.heap [s3.heap.objs.size]).get? b = some o → b ≠ s3.heap.objs.size := fun b o e z => by
    rw [z, PySem.W.hideAll_none [s3.heap.objs.size] List.mem_cons_self] at e
    cases e
  have I2 : L2.Inv X pins σ Hb { sI with heap := PySem.W.hideAll sI.heap [s3.heap.objs.size], toks := sI.toks } := I7.turned (t' := sI.toks) (it := s3.heap.objs.size) (fun b o hb e => PySem.W.hideAll_get _ e (by simpa using hb)) g0 (Ne.symm (Ne.symm g1)) g3 g4 g5
  have key : ∀ h1, HeldZ B (X.env :: X.outer) a (L2N.Zn cls d) X.env.locals h1 → s'.heap.UpToSlots h1 →
      compX (model X.prog X.w) X.A X.xe use Qf acc s3.heap.objs.size X.env.frame (.error (.ref a)) { s' with heap := h1 } := by
    intro h1 hh up1
    refine ⟨m, ⟨o, es, ep, hh.1 _ o hB, hd, ks, hfnd⟩, fun h2 sb cenv hcf => ?_⟩
    have sb : Heap.SameBut s3.heap.objs.size h1 h2 := sb
    have hB2 : ∀ b, B.get? b = none → (PySem.W.hideAll B [s3.heap.objs.size]).get? b = none := fun b e => by
      cases q : (PySem.W.hideAll B [s3.heap.objs.size]).get? b with
      | none => rfl
      | some o =>
        have := PySem.W.of_hideAll _ q
        rw [e] at this
        cases this
    have hBn : ∀ b o, (PySem.W.hideAll B [s3.heap.objs.size]).get? b = some o → b ≠ s3.heap.objs.size := fun b o e z => by
      rw [z, PySem.W.hideAll_none [s3.heap.objs.size] List.mem_cons_self] at e
      cases e
    have hh2 : HeldZ (PySem.W.hideAll B [s3.heap.objs.size]) (X.env :: X.outer) a (L2N.Zn cls d) X.env.locals h2 := by
      obtain ⟨k1, k2, k3, oe, vs, T, oT, ts, he, hz, hd', h1', hnT, hTe, hT, hdT, h3⟩ := hh
      have na : ∀ b, B.get? b = none → b ≠ s3.heap.objs.size := fun b e z => by
        rw [z, hB] at e
        cases e
      refine ⟨fun b o e => (sb.2 b (hBn b o e)).trans (k1 b o (PySem.W.of_hideAll _ e)), hB2 a k2, frames_but sb hB2 (fun b hb z => ?_) k3,
        oe, vs, T, oT, ts, (sb.2 a (na a k2)).trans he, hz, hd', h1', hB2 T hnT, hTe, (sb.2 T (na T hnT)).trans hT, hdT, h3⟩
      rw [← hs] at hb
      rw [z] at hb
      exact hCf hb
    obtain ⟨k1, k2, k3, oe, vs, T, oT, ts, he, hz, hd', h1', hr⟩ := id hh2
    unfold PySem.passOn
    refine wpAny_bind (wpAny_field he hd' h1' ?_)
    rw [if_neg (show ¬ ((Value.ref T == Value.none) = true) from by simp)]
    have fin : wpAny (model X.prog X.w) X.A (setFlight (.ref a) cenv.frame) (fun _ s4 => wpAny (model X.prog X.w) X.A (throw (.ref a) : Sem Value) (fun _ _ => False) X.xe s4) X.xe { s' with heap := h2 } := by
      rw [hcf, hf]
      refine HandSPX.setFlight_onZ hh2 fun h4 hh4 up4 => wpAny_throw (tk _ _ ?_)
      refine ⟨a, PySem.W.hideAll B [s3.heap.objs.size], { sI with heap := PySem.W.hideAll sI.heap [s3.heap.objs.size], toks := sI.toks }, pins, σ, Hb, cls, d, rfl, I2, fun b o e hb => ?_, fun b o e hnf => ?_, .inr (.inr (by rw [hs]; exact hh4)), na, os, ag, hW _ _ _ _ _ w⟩
      · exact PySem.W.hideAll_get _ (nb b o (PySem.W.of_hideAll _ e) hb) (by simpa using hg b o e)
      · obtain ⟨sl, e1⟩ := (up.trans up1) b o (PySem.W.of_hideAll _ e) hnf
        obtain ⟨sl2, e2⟩ := up4 b _ ((sb.2 b (hg b o e)).trans e1) hnf
        exact ⟨sl2, e2⟩
    first
      | exact wpAny_bind (wpAny_pure (wpAny_bind fin))
      | exact wpAny_bind fin
  show wpAny (model X.prog X.w) X.A (noteFrame (.ref a) ce) _ _ s'
  rw [note_congr (env' := X.env) hfr]
  have hfrm : X.A.frames = some (X.env :: X.outer) := by rw [I3.ok.frames, hs]
  rw [hs] at sky
  rcases sky with ⟨hB', hn', hl', oe, vs, he, hz, hd', h1'⟩ | fl | hh
  · exact PXN.look_newZ L2N.Zn.steady hfrm hl' hf he hB' hn' hd' h1' hz key
  · exact PXN.looks_onZ L2N.Zn.steady hfrm hf fl key
  · obtain ⟨k1, k2, k3, k4⟩ := hh
    refine note_any L2N.Zn.steady hfrm hf ?_ k1 k2 k3 k4 key
    have hlt := I3.lt
    have hne : s3.heap.objs.size ≠ X.env.locals := fun z => absurd (by rw [z] at hlt; exact hlt) (Nat.lt_irrefl _)
    rw [hL]
    refine beq_eq_false_iff_ne.mpr fun z => hne ?_
    unfold rawInt at z
    injection z with z1
    exact Int.ofNat.inj z1
end
end VT
namespace VT
open PySem PySem.Spec PyProof.Rows L2 HandSPX
section
variable {M : Model} {A : Around} {E : Value → Shared → Prop} {s : Shared} {env : Env}
theorem comp_freeX {e : Expr} {scope : Scope} {pos : Pos} {newAcc first : Sem Value} {g : Comprehension} {gs : List Comprehension} {cl : List (Str × Addr)} {use : Option (Value → Sem Unit)} {Q : Value → Shared → Prop}
    (hcl : clausesOf e = g :: gs) (hs : ∀ x, foldedSetIterable g.iter env x = pure x) (hclos : closureFor scope env = pure cl) (hkind : scope.kind = .function) (hnames : ∀ x ∈ scope.names, x.2 = .local → scope.names.lookup x.1 = some .local)
    (h : wpAny M A first (fun x s₁ => wpAny M A (pyIter x) (fun it s₂ => wpAny M A newAcc (fun acc s₃ => wpAny M A (newFunctionEnv scope env.globals cl [] env.qual none .none (some env)) (fun cenv s₄ =>
      cenv.frame = env.frame ∧ codeAny M A (.compStart e 0 it acc { cenv with scope := relabel scope env }) (compX M A E use Q acc cenv.locals env.frame) s₄) E s₃) E s₂) E s₁) E s) :
    wpAny M A (comprehension e scope env pos newAcc false first use) Q E s := by
  unfold comprehension
  rw [hclos, hcl]
  refine wpAny_bind (wpAny_mono h (fun x s₁ h₁ => ?_) fun _ _ z => z)
  refine wpAny_bind (wpAny_standAt (wpAny_bind (wpAny_of_eq (hs x) (wpAny_bind (wpAny_holding (wpAny_mono h₁ (fun it s₂ h₂ => ?_) fun _ _ z => z))))))
  refine wpAny_standIf (wpAny_bind (wpAny_mono h₂ (fun acc s₃ h₃ => ?_) fun _ _ z => z))
  refine wpAny_bind (wpAny_pure (wpAny_bind (wpAny_mono h₃ (fun cenv s₄ h₄ => ?_) fun _ _ z => z)))
  obtain ⟨hfr, h₄⟩ := h₄
  dsimp only
  have hv : ∀ x ∈ (scope.names.filter fun x => (x.2 == .local || x.2 == .cell) && x.1 != (".0" : Str)).reverse, x.2 = .local → Env.kindOf { cenv with scope := relabel scope env } x.1 = some .local :=
    fun x hx hl => lookup_relabel_local (hnames x (List.mem_filter.mp (List.mem_reverse.mp hx)).1 hl)
  have hv' : ∀ x ∈ (scope.names.filter fun x => (x.2 == .local || x.2 == .cell) && x.1 != (".0" : Str)).reverse.drop 1 ++ (scope.names.filter fun x => (x.2 == .local || x.2 == .cell) && x.1 != (".0" : Str)).reverse.take 1,
      x.2 = .local → Env.kindOf { cenv with scope := relabel scope env } x.1 = some .local := fun x hx hl => by
    rcases List.mem_append.mp hx with z | z
    · exact hv x (List.mem_of_mem_drop z) hl
    · exact hv x (List.mem_of_mem_take z) hl
  refine wpAny_holding (wpAny_bind (wpAny_attempt (wpAny_holding (wpAny_run (codeAny_mono h₄ fun r s' hr => ?_)))))
  cases r with
  | ok f =>
    cases use with
    | none =>
      obtain ⟨m, hn, hr⟩ := hr
      exact wpAny_bind (wpAny_holding (wpAny_comp_letGo (cenv := { cenv with scope := relabel scope env }) hkind _ s' m hv hn fun h' _ _ hs' => wpAny_pure (hr h' hs')))
    | some u =>
      refine wpAny_bind (wpAny_rule (wpAny_bind (wpAny_holding (wpAny_mono hr (fun _ s'' hr' => ?_) fun _ _ z => z))))
      obtain ⟨m, hn, hr'⟩ := hr'
      exact wpAny_bind (wpAny_comp_letGo (cenv := { cenv with scope := relabel scope env }) hkind _ s'' m hv' hn fun h' _ _ hs' => wpAny_pure (hr' h' hs'))
  | error x =>
    have hr' : compX M A E none Q acc cenv.locals env.frame (.error x) s' := by cases use <;> exact hr
    obtain ⟨m, hn, hr⟩ := hr'
    exact wpAny_bind (wpAny_holding (wpAny_comp_letGo (cenv := { cenv with scope := relabel scope env }) hkind _ s' m hv hn fun h' _ _ hs' => wpAny_mono (hr h' hs' { cenv with scope := relabel scope env } hfr) (fun _ _ z => z.elim) fun _ _ z => z))
end
section
variable {X : Cx}
theorem lc_coreX {pins : List (Addr × Obj)} {s : Shared} {σ : L2.St} {H : Hp} {Q : VK} {W : WX} {elt tg iter : Expr} {ifs : List Expr} {scope : Scope} {own : List (Str × Nat)} {pos pos' : Pos} {wi : TI} {g : TG} {tt : TT} {te : TE} {use : Option (Value → Sem Unit)} {Qf : Value → Shared → Prop}
    (hc : X.calm = true) (hN : X.N.Nodup) (hst : X.stack = X.env :: X.outer) (hfm : X.env.frame = some X.env.locals) (tk : L2N.Takes X W) (hW : ∀ c d σ1 σ2 H, W c d σ1 H → W c d σ2 H) (I : L2.Inv X pins σ H s) (hi : PI X tg iter wi) (ok : BlkOk X.N X.env.scope scope own)
    (hg : ∀ (s : Shared) (H : Hp) (C : Addr) (cl : List (Str × Addr)) (fp : List Addr), PG (X.blk s H scope (compEnvC scope cl C X.env) fp) tg g) (ht : ∀ (s : Shared) (H : Hp) (C : Addr) (cl : List (Str × Addr)) (fp : List Addr), PTs (X.blk s H scope (compEnvC scope cl C X.env) fp) ifs tt)
    (he : ∀ (s : Shared) (H : Hp) (C : Addr) (cl : List (Str × Addr)) (fp : List Addr) (E : Value → Shared → Prop), L2N.Takes ((X.blk s H scope (compEnvC scope cl C X.env) fp).wish E) W → PE ((X.blk s H scope (compEnvC scope cl C X.env) fp).wish E) elt te) (hs : ∀ x, foldedSetIterable iter X.env x = pure x)
    (h : tLc wi g tt te (own.map (·.2)) σ H Q)
    (hRR : ∀ D C s' m H', L2.Inv X pins σ H' s' → Q (.ref D) H' → s'.heap.Ns C m → FpOk X pins H' C → compX (model X.prog X.w) X.A X.xe use Qf (.ref D) C X.env.frame (.ok .next) s') :
    wpAny (model X.prog X.w) X.A (comprehension (.ListComp elt [⟨tg, iter, ifs, 0⟩] scope pos) scope X.env pos' (newList []) false (eval iter X.env) use) Qf X.xe s := by
  have free : ∀ y ∈ scope.names, y.2 = .free → ∃ c, X.env.cells.lookup y.1 = some c := fun y hy e => (ok.free y hy e).elim (fun k => I.ok.has _ (.inl k)) fun k => I.ok.has _ (.inr k)
  refine comp_freeX (use := use) rfl hs (closure_ok free) ok.kind (fun y hy e => by rw [ok.uniq y hy, e]) (thn (hi.run pins s σ H _ I h) fun xv s1 hx => thn hx fun itv s2 h2 => ?_)
  obtain ⟨it, fp, tn, J, H2, e, I2, T, st2, f2, q⟩ := h2
  subst e
  refine wpAny_newObj_type (newEnv_comp ⟨rfl, ?_⟩) (by show 0 ≤ sizeLine; decide)
  generalize hD : s2.heap.objs.size = D
  have hDn : H2 D = none := I2.hok.fresh (Nat.le_of_eq hD)
  obtain ⟨Wv, ⟨m0, w0⟩, turn⟩ := q D hDn
  generalize hs3 : ({ s2 with heap := s2.heap.push { cls := .type "list", data := .seq ([] : List Value).toArray } } : Shared) = s3
  have I3 : L2.Inv X pins σ (upd H2 D (.lst [])) s3 := by
    rw [← hs3]
    refine I2.laid (t' := s2.toks) (fun b o e => Heap.get?_push_of_some _ e) (Nat.le_of_eq hD) ⟨Nat.zero_le _, [], 0, .nil, ?_⟩
    rw [← hD]
    exact Heap.get?_push_size _ rfl
  have h3 : s3.heap = s2.heap.push { cls := .type "list", data := .seq ([] : List Value).toArray } := by rw [← hs3]
  have f3 : ∀ b ∈ fp, FpOk X pins (upd H2 D (.lst [])) b ∧ b < s3.heap.objs.size := fun b hb => by
    obtain ⟨o, e, _⟩ := T.obj _ _ st2 b hb
    have hlt := Heap.lt_size e
    refine ⟨⟨?_, (f2 b hb).2⟩, by rw [h3, Heap.size_push]; exact Nat.lt_succ_of_lt hlt⟩
    rw [upd_ne (by rw [← hD]; exact Nat.ne_of_lt hlt)]
    exact (f2 b hb).1
  have st3 : tn 0 s3.heap := T.keep _ _ _ st2 fun b _ o e => by rw [h3]; exact Heap.get?_push_of_some _ e
  have I4 := block_start I3 ok hN f3
  have pg := hg s3 (upd H2 D (.lst [])) s3.heap.objs.size (cellsFrom (s3.heap.objs.size + 1) scope.names (cloFrom X.env.cells scope.names [])) fp
  have pt := ht s3 (upd H2 D (.lst [])) s3.heap.objs.size (cellsFrom (s3.heap.objs.size + 1) scope.names (cloFrom X.env.cells scope.names [])) fp
  have pe := he s3 (upd H2 D (.lst [])) s3.heap.objs.size (cellsFrom (s3.heap.objs.size + 1) scope.names (cloFrom X.env.cells scope.names [])) fp
    (notedBy (model X.prog X.w) X.A (compEnvC scope (cellsFrom (s3.heap.objs.size + 1) scope.names (cloFrom X.env.cells scope.names [])) s3.heap.objs.size X.env) fun e s' => compX (model X.prog X.w) X.A X.xe use Qf (.ref D) s3.heap.objs.size X.env.frame (.error e) s')
    (tk_blk I3 f3 hst hfm tk hW rfl rfl)
  show codeAny _ _ (.compStart (.ListComp elt [⟨tg, iter, ifs, 0⟩] scope pos) 0 (.ref it) (.ref D) (compEnvC scope (cellsFrom (s3.heap.objs.size + 1) scope.names (cloFrom X.env.cells scope.names [])) s3.heap.objs.size X.env)) (compX (model X.prog X.w) X.A X.xe use Qf (.ref D) s3.heap.objs.size X.env.frame) { s3 with heap := pushCells (s3.heap.push { cls := .type "dict", data := .dict #[] }) scope.names }
  have nfp : ∀ b ∈ fp, (upd H2 D (.lst [])) b = none := fun b hb => (f3 b hb).1.1
  generalize hce : compEnvC scope (cellsFrom (s3.heap.objs.size + 1) scope.names (cloFrom X.env.cells scope.names [])) s3.heap.objs.size X.env = ce at I4 pg pt pe ⊢
  have cL : ce.locals = s3.heap.objs.size := by subst hce; rfl
  generalize hH3 : upd H2 D (.lst []) = H3 at I3 I4 pg pt pe w0 nfp f3
  generalize hs4 : ({ s3 with heap := pushCells (s3.heap.push { cls := .type "dict", data := .dict #[] }) scope.names } : Shared) = s4 at I4 ⊢
  have st4 : tn 0 s4.heap := T.keep _ _ _ st3 fun b _ o e => by rw [← hs4]; exact pushCells_keeps _ _ _ _ (Heap.get?_push_of_some _ e)
  have stat : ∀ {σ' : L2.St} {H' : Hp} {s' : Shared}, L2.Inv (X.blk s3 H3 scope ce fp) [] σ' H' s' → (∀ b ∈ fp, H' b = none) → ∀ b ∈ fp, FpOk (X.blk s3 H3 scope ce fp) [] H' b := fun {σ' H' s'} I' hn b hb =>
    ⟨hn b hb, (I'.ok.exf b hb).1, I'.ok.exfs b hb, .inl hb, fun x c e => (I'.ok.exf b hb).2 x c e, fun p hp => absurd (show p ∈ ([] : List (Addr × Obj)) ++ [] from hp) (by simp)⟩
  have loop : codeAny (model X.prog X.w) X.A (.compLoop (.ListComp elt [⟨tg, iter, ifs, 0⟩] scope pos) 0 (.ref it) (.ref D) ce) (compX (model X.prog X.w) X.A X.xe use Qf (.ref D) s3.heap.objs.size X.env.frame) s4 := by
    refine compLoop_any (fun n s' => ∃ i H', L2.Inv (X.blk s3 H3 scope ce fp) [] (wipe σ (own.map (·.2))) H' s' ∧ tn i s'.heap ∧ (∀ b ∈ fp, H' b = none) ∧ Wv i n H') ?_ m0 ⟨0, H3, I4, st4, nfp, w0⟩
    rintro n s5 ⟨i, H5, I5, st5, n5, w5⟩
    rcases turn i n H5 w5 with ⟨stop, qq⟩ | ⟨go, Nx, hNx, step⟩
    · have td := T.done (X.blk s3 H3 scope ce fp) rfl rfl rfl hc i [] s5 _ H5 (fun _ _ => False) I5 (stat I5 n5) st5 stop
      refine thnF td fun r s6 ⟨hr, I6⟩ => ?_
      subst hr
      have I7 : L2.Inv X pins σ H5 s6 := I3.call' (ch := fp) I6.os I6.base I6.hok I6.bare fun b hb => ⟨(f3 b hb).1.2.2.2.1, (f3 b hb).1.2.1, (f3 b hb).1.2.2.2.2.1, (f3 b hb).1.2.2.2.2.2⟩
      have nC : H5 s3.heap.objs.size = none := by
        have z : H5 ce.locals = none := I6.free
        rw [cL] at z
        exact z
      obtain ⟨m, hn, _⟩ := I6.loc
      have hn : s6.heap.Ns ce.locals m := hn
      rw [cL] at hn
      exact hRR D s3.heap.objs.size s6 m H5 I7 qq hn (I3.fpOk (Nat.le_refl _) nC)
    · have ti := T.item (X.blk s3 H3 scope ce fp) rfl rfl rfl hc i [] s5 _ H5 (fun _ _ => False) I5 (stat I5 n5) st5 go
      refine thnF ti fun r s6 ⟨u, hr, h6⟩ => ?_
      subst hr
      refine thnF h6 fun _ s7 ⟨x, H7, I7, r7, y7, st7, n7⟩ => ?_
      have I7' := I7.pinned (stat I7 n7) (T.obj _ _ st7)
      refine thnF (pg.run _ s7 _ H7 x u _ I7' r7 (step x H7 y7)) fun _ s8 ⟨σ8, H8, I8, hw8, q8⟩ => ?_
      refine thnF (pt.run _ s8 σ8 H8 _ I8 q8) fun b s9 ⟨H9, I9, q9⟩ => ?_
      have fin : ∀ {s' : Shared} {H' : Hp}, L2.Inv (X.blk s3 H3 scope ce fp) ([] ++ pinsAt fp s7.heap) σ8 H' s' → Nx H' → ∃ m, m < n ∧ ∃ i H', L2.Inv (X.blk s3 H3 scope ce fp) [] (wipe σ (own.map (·.2))) H' s' ∧ tn i s'.heap ∧ (∀ b ∈ fp, H' b = none) ∧ Wv i m H' := fun {s' H'} I' nx => by
        obtain ⟨m', hm, w'⟩ := hNx H' nx
        have pin' : ∀ b ∈ fp, ∀ o, s7.heap.get? b = some o → s'.heap.get? b = some o ∧ H' b = none := fun b hb o e =>
          let z := I'.pin (b, o) (List.mem_append_right _ (List.mem_append_right _ (mem_pinsAt hb e)))
          ⟨z.1, z.2.1⟩
        have hl : (wipe σ (own.map (·.2))).length = σ8.length := by rw [← hw8, wipe_length]
        refine ⟨m', hm, i + 1, H', (I'.unpinned (pins := [])).weak hl (fun j v e => ?_), T.keep _ _ _ st7 fun b hb o e => (pin' b hb o e).1, fun b hb => ?_, w'⟩
        · rw [← hw8] at e
          exact (wipe_some e).1
        · obtain ⟨o, e, _⟩ := T.obj _ _ st7 b hb
          exact (pin' b hb o e).2
      cases b with
      | false =>
        simp only [Bool.false_eq_true, if_false] at q9 ⊢
        exact fin I9 q9
      | true =>
        simp only [if_true] at q9 ⊢
        refine thn (pe.run _ s9 σ8 H9 _ (I9.wish _) q9) fun z s10 ⟨yv, H10, I10, r10, acc, hD10, hz10, nx⟩ => ?_
        exact app_ok (X := X.blk s3 H3 scope ce fp) I10.unwish hD10 hz10 r10 fun s11 I11 => fin I11 nx
  exact codeAny_compStart_list loop (T.self X.A 0 _ _ _ st4 loop)
variable {W : WX} {elt tg iter : Expr} {ifs : List Expr} {scope : Scope} {own : List (Str × Nat)} {pos spos : Pos} {wi : TI} {g : TG} {tt : TT} {te : TE}
theorem ps_setLcX {i : Nat} {y : Str} {py : Pos} (hc : X.calm = true) (hN : X.N.Nodup) (hst : X.stack = X.env :: X.outer) (hfm : X.env.frame = some X.env.locals) (tk : L2N.Takes X W) (hW : ∀ c d σ1 σ2 H, W c d σ1 H → W c d σ2 H) (hy : X.N[i]? = some y) (hyl : X.env.scope.names.lookup y = some .local)
    (hsw : swapsWith (.ListComp elt [⟨tg, iter, ifs, 0⟩] scope pos) (some (.Name y py)) spos.line X.env = pure true) (hi : PI X tg iter wi) (ok : BlkOk X.N X.env.scope scope own)
    (hg : ∀ (s : Shared) (H : Hp) (C : Addr) (cl : List (Str × Addr)) (fp : List Addr), PG (X.blk s H scope (compEnvC scope cl C X.env) fp) tg g) (ht : ∀ (s : Shared) (H : Hp) (C : Addr) (cl : List (Str × Addr)) (fp : List Addr), PTs (X.blk s H scope (compEnvC scope cl C X.env) fp) ifs tt)
    (he : ∀ (s : Shared) (H : Hp) (C : Addr) (cl : List (Str × Addr)) (fp : List Addr) (E : Value → Shared → Prop), L2N.Takes ((X.blk s H scope (compEnvC scope cl C X.env) fp).wish E) W → PE ((X.blk s H scope (compEnvC scope cl C X.env) fp).wish E) elt te)
    (hs : ∀ x, foldedSetIterable iter X.env x = pure x := by intro _; rfl) : PS X (.Assign [.Name y py] (.ListComp elt [⟨tg, iter, ifs, 0⟩] scope pos) spos) (tAsg (tLc wi g tt te (own.map (·.2))) (gName i)) := by
  refine ⟨fun pins s σ H D I h => ?_⟩
  rw [exec_Assign_Name_used _ _ _ _ hsw]
  refine wpAny_bind (wpAny_standAt (wpAny_bind ?_))
  show wpAny _ X.A (do let _ ← comprehension (.ListComp elt [⟨tg, iter, ifs, 0⟩] scope pos) scope X.env (firstIterPos [⟨tg, iter, ifs, 0⟩] pos) (newList []) false (eval iter X.env) (some (assign (.Name y py) X.env))) _ _ s
  have h : tLc wi g tt te (own.map (·.2)) σ H (fun x H1 => gName i x σ H1 D.nx) := h
  refine wpAny_bind (thn (lc_coreX (Qf := fun _ s' => SP X pins D .next s') hc hN hst hfm tk hW I hi ok hg ht he hs h fun L C s' m H' I' q hn f => ?_) fun _ s' hq => wpAny_pure (wpAny_pure hq))
  show wpAny _ _ (assign (.Name y py) X.env (.ref L)) _ _ _
  refine wpAny_assign_Name (store_ok2 (v := V.ref L) I' hN hy (.inl hyl) rfl (fun s2 I2 ⟨a, sb, ha⟩ => ?_) (.inr hyl))
  obtain ⟨f0, f1, f2, f3, f4, f5⟩ := f
  have haC : C ≠ a := by
    rcases ha with z | z
    · rw [z]; exact f1
    · exact fun e => f4 y a z e.symm
  refine ⟨m, hn.sameBut sb haC, fun h3 sb3 => ?_⟩
  exact ⟨_, H', I2.turned (t' := s2.toks) (fun b o hb e => (sb3.2 b hb).trans e) f0 f1 f3 f4 f5, q⟩
end
end VT
namespace VT
open PySem PySem.Spec L2
variable {Γ : Gx} {ar : Fx} {W : WX} {fa : EF}
def runX (j : Nat) (vs : List Nat) (elt : EF) : List T → TSt → List T → Option (Rs (List T) × TSt)
  | [], S, acc => some (.ok acc, S)
  | t :: ts, S, acc => (tgN j t S).bind fun S1 => (elt S1).bind fun ru => match ru with
    | (.ok u, S3) => runX j vs elt ts (wipeS S3 vs) (acc ++ [u])
    | (.ex c, S3) => some (.ex c, S3)
abbrev WSame (W : WX) : Prop := ∀ c d σ1 σ2 H, W c d σ1 H → W c d σ2 H
theorem turnX {j : Nat} {vs : List Nat} {elt : EF} {ar' : Fx} (hj : j ∈ vs) (haj : ar' j = none) (hfr : ∀ v ∈ vs, ar' v = none) (hW : WSame W) {tt : TT} {te : TE} (ht : ∀ σ H Q, rdT Γ ar' W0 eYes σ H Q → tt σ H Q) (he : ∀ σ H Q, rdE Γ ar' W elt σ H Q → te σ H Q)
    {H0 H : Hp} {F0 F Ga G : FP} {σ : L2.St} {Dl : Addr} {S : TSt} {tacc : List T} {x : V} {t : T} {ts : List T} {fin : Rs (List T) × TSt} (A : Acc Γ ar' H0 F0 (wipe σ vs) Dl H S F tacc Ga) (hacc : tacc.length < 100000) (r : Rep Γ H x t G) (ee : runX j vs elt (t :: ts) S tacc = some fin)
    (kx : ∀ c S3, fin = (.ex c, S3) → ∀ H' F', RepS Γ ar' H' (wipe σ vs) (wipeS S3 vs) F' → Upd H0 H' F0 F' → ∀ σ2, W (.ref (Γ.cl c)) none σ2 H')
    (P : Hp → Prop) (hP : ∀ H' S' F' tacc' Ga', Acc Γ ar' H0 F0 (wipe σ vs) Dl H' S' F' tacc' Ga' → tacc'.length ≤ tacc.length + 1 → runX j vs elt ts S' tacc' = some fin → P H') :
    gName j x (wipe σ vs) H fun σ2 H2 => wipe σ2 vs = wipe σ vs ∧ tt σ2 H2 fun b H3 => if b = true then te σ2 H3 fun y H4 => ∃ acc, H4 Dl = some (.lst acc) ∧ acc.length < sizeLine ∧ P (upd H4 Dl (.lst (acc ++ [y]))) else P H3 := by
  unfold runX at ee
  cases e1 : tgN j t S with
  | none => rw [e1] at ee; cases ee
  | some S1 =>
    rw [e1] at ee
    simp only [Option.bind_some] at ee
    unfold tgN at e1
    by_cases im : t.im = true
    · rw [if_pos im] at e1
      cases e1
      have R1 := A.rs.putIm haj r im
      refine ⟨wipe_set hj, ht _ _ _ ?_⟩
      have A1 := A.step R1 (Upd.refl H F)
      have back : ∀ {H' : Hp} {S' : TSt} {F' : FP} {ta : List T} {Gb : FP}, Acc Γ ar' H0 F0 ((wipe σ vs).set j (some x)) Dl H' S' F' ta Gb → Acc Γ ar' H0 F0 (wipe σ vs) Dl H' (wipeS S' vs) F' ta Gb := fun {H' S' F' ta Gb} B => by
        have R3 := B.rs.wiped (ar' := ar') vs fun i w q => ⟨fun z => (by rw [hfr i z] at q; cases q), q⟩
        rw [wipe_set hj] at R3
        exact B.step R3 (Upd.refl H' F')
      refine bool_then R1 (show eYes _ = _ from rfl) fun H3 F3 R3 u3 => iteT ?_
      have A3 := A1.step R3 u3
      cases e3 : elt (S.set j (some t)) with
      | none => rw [e3] at ee; cases ee
      | some ru =>
        obtain ⟨r3, S3⟩ := ru
        rw [e3] at ee
        simp only [Option.bind_some] at ee
        cases r3 with
        | ex c =>
          simp only at ee
          cases ee
          refine he _ _ _ ⟨_, F3, _, _, R3, e3, fun H4 F4 R4 u4 => ?_⟩
          have A5 := back (A3.step R4 u4)
          exact kx c S3 rfl H4 F4 A5.rs (A5.up.sub fun a z => .inl z) _
        | ok u =>
          simp only at ee
          refine he _ _ _ ⟨_, F3, _, _, R3, e3, fun v H4 F4 G4 ow => ?_⟩
          have A4 := A3.step ow.rs (ow.u.sub fun a z => .inl z)
          obtain ⟨acc3, hD3, _⟩ := A3.at_
          have nwG : ∀ a, G4 a → F3 a ∨ H3 a = none := fun a z => ow.u.new a (.inr z)
          obtain ⟨acc, q1, q2, A5⟩ := A4.add ow.r ow.d (fun a z z' => (nwG a z').elim (fun f => A3.dj a f z) (A3.al a z)) (fun z => (nwG _ z).elim A3.nF fun y => by rw [hD3] at y; cases y) ow.al
            (fun a z => (nwG a z).elim (fun f => A3.up.new a (.inl f)) fun y => by
              by_cases f0 : F0 a
              · exact .inl f0
              · exact .inr (A3.up.toKe.free y f0))
          exact ⟨acc, q1, sz5' (by omega), hP _ _ _ _ _ (back A5) (by simp) ee⟩
    · rw [if_neg im] at e1; cases e1
theorem wipe_twice {σ : L2.St} {vs : List Nat} {j : Nat} (hj : j ∈ vs) : wipe (wipe σ vs) vs = wipe σ vs := by
  have := wipe_set (σ := σ) (x := ((wipe σ vs)[j]?).getD none) hj
  by_cases hl : j < (wipe σ vs).length
  · have e4 : (wipe σ vs).set j (((wipe σ vs)[j]?).getD none) = wipe σ vs := by
      apply List.ext_getElem?
      intro i
      by_cases hi : j = i
      · subst hi
        rw [List.getElem?_set_self hl, List.getElem?_eq_getElem hl]
        try rfl
      · rw [List.getElem?_set_ne hi]
    rw [e4] at this
    exact this
  · rw [List.set_eq_of_length_le (by omega)] at this
    exact this
theorem coreX {j : Nat} {vs : List Nat} {elt : EF} {ar' : Fx} (hj : j ∈ vs) (hfr : ∀ v ∈ vs, ar' v = none) (hW : WSame W) {tt : TT} {te : TE} (ht : ∀ σ H Q, rdT Γ ar' W0 eYes σ H Q → tt σ H Q) (he : ∀ σ H Q, rdE Γ ar' W elt σ H Q → te σ H Q)
    {H1 : Hp} {σ : L2.St} {S1 : TSt} {F1 G : FP} {x : V} {k : Kd} {ts : List T} {fin : Rs (List T) × TSt} {Q : VK} (r : Rep Γ H1 x (.nd k ts) G) (hk : isSq k = true) (dj : ∀ a, F1 a → G a → False) (im : T.imAll ts = true) (R : RepS Γ ar H1 σ S1 F1) (har : ∀ (j : Nat) (v : V), ar' j = some v → j ∉ vs ∧ ar j = some v)
    (hz : ts.length < 100000) (e1 : runX j vs elt ts (wipeS S1 vs) [] = some fin)
    (kx : ∀ c S3, fin = (.ex c, S3) → ∀ H' F', RepS Γ ar' H' (wipe σ vs) (wipeS S3 vs) F' → Upd H1 H' F1 F' → ∀ σ2, W (.ref (Γ.cl c)) none σ2 H')
    (kk : ∀ us S3, fin = (.ok us, S3) → ∀ v H' F' G, RepS Γ ar' H' (wipe σ vs) (wipeS S3 vs) F' → Rep Γ H' v (.nd .lst us) G → (∀ a, F' a → G a → False) → (∀ a, G a → H' a ≠ none) → Upd H1 H' F1 (FU F' G) → Q v H') :
    ∃ a ws, x = .ref a ∧ SqX Γ.K H1 k a ws ∧ CompR (gName j) tt te vs σ Q (ItX Γ.K a k) H1 := by
  obtain ⟨a, ws, rfl, hl, st⟩ := iter_ok r dj im
  refine ⟨a, ws, rfl, At.sqx (st H1 F1 (Upd.refl H1 F1)).1 hk, fun Dl hD => ?_⟩
  have upG : ∀ {H' : Hp} {S' : TSt} {F' Ga : FP} {tacc : List T}, Acc Γ ar' H1 F1 (wipe σ vs) Dl H' S' F' tacc Ga → Upd H1 H' F1 F' := fun A => A.up.sub fun a z => .inl z
  have h0 : ∃ S' F' tacc Ga, Acc Γ ar' H1 F1 (wipe σ vs) Dl (upd H1 Dl (.lst [])) S' F' tacc Ga ∧ tacc.length ≤ 0 ∧ runX j vs elt (ts.drop 0) S' tacc = some fin := ⟨_, F1, [], FE, acc_start R hD har, Nat.le_refl _, e1⟩
  have hs : ∀ (i : Nat) (y : V) (H' : Hp), ws[i]? = some y → (∃ S' F' tacc Ga, Acc Γ ar' H1 F1 (wipe σ vs) Dl H' S' F' tacc Ga ∧ tacc.length ≤ i ∧ runX j vs elt (ts.drop i) S' tacc = some fin) →
      gName j y (wipe σ vs) H' fun σ2 H2 => wipe σ2 vs = wipe σ vs ∧ tt σ2 H2 fun b H3 => if b = true then te σ2 H3 fun y H4 => ∃ acc, H4 Dl = some (.lst acc) ∧ acc.length < sizeLine ∧ (∃ S' F' tacc Ga, Acc Γ ar' H1 F1 (wipe σ vs) Dl (upd H4 Dl (.lst (acc ++ [y]))) S' F' tacc Ga ∧ tacc.length ≤ i + 1 ∧ runX j vs elt (ts.drop (i + 1)) S' tacc = some fin)
        else ∃ S' F' tacc Ga, Acc Γ ar' H1 F1 (wipe σ vs) Dl H3 S' F' tacc Ga ∧ tacc.length ≤ i + 1 ∧ runX j vs elt (ts.drop (i + 1)) S' tacc = some fin := by
    rintro i y H' hy ⟨S', F', tacc, Ga, A, hta, e'⟩
    have hi : i < ts.length := by rw [← hl]; exact (List.getElem?_eq_some_iff.mp hy).1
    have et : ts[i]? = some ts[i] := List.getElem?_eq_getElem hi
    rw [drop_get et] at e'
    exact turnX hj (hfr j hj) hfr hW ht he A (by omega) ((st H' F' (upG A)).2 i y _ hy et) e' kx (fun H' => ∃ S' F' tacc Ga, Acc Γ ar' H1 F1 (wipe σ vs) Dl H' S' F' tacc Ga ∧ tacc.length ≤ i + 1 ∧ runX j vs elt (ts.drop (i + 1)) S' tacc = some fin)
      fun H2 S2 F2 ta2 Ga2 A2 hl2 e2 => ⟨S2, F2, ta2, Ga2, A2, by omega, e2⟩
  have hd : ∀ H' : Hp, (∃ S' F' tacc Ga, Acc Γ ar' H1 F1 (wipe σ vs) Dl H' S' F' tacc Ga ∧ tacc.length ≤ ws.length ∧ runX j vs elt (ts.drop ws.length) S' tacc = some fin) → Q (.ref Dl) H' := by
    rintro H' ⟨S', F', tacc, Ga, A, _, e'⟩
    rw [hl, List.drop_length] at e'
    cases e'
    obtain ⟨d1, d2, d3⟩ := A.done
    have R3 := A.rs.wiped (ar' := ar') vs fun i w q => ⟨fun z => (by rw [hfr i z] at q; cases q), q⟩
    rw [wipe_twice hj] at R3
    exact kk _ _ rfl _ H' F' _ R3 d1 d2 d3 A.up
  have sq : ∀ (i : Nat) (H' : Hp), i ≤ ws.length → (∃ S' F' tacc Ga, Acc Γ ar' H1 F1 (wipe σ vs) Dl H' S' F' tacc Ga ∧ tacc.length ≤ i ∧ runX j vs elt (ts.drop i) S' tacc = some fin) → SqX Γ.K H' k a ws := fun i H' _ ⟨_, F', _, _, A, _⟩ => At.sqx (st H' F' (upG A)).1 hk
  cases k with
  | tup => exact lc_tup (K := Γ.K) (a := a) (xs := ws) (Qd := fun H' => Q (.ref Dl) H') (fun i H' => ∃ S' F' tacc Ga, Acc Γ ar' H1 F1 (wipe σ vs) Dl H' S' F' tacc Ga ∧ tacc.length ≤ i ∧ runX j vs elt (ts.drop i) S' tacc = some fin) h0 sq hs hd
  | lst => exact lc_list (K := Γ.K) (a := a) (xs := ws) (Qd := fun H' => Q (.ref Dl) H') (fun i H' => ∃ S' F' tacc Ga, Acc Γ ar' H1 F1 (wipe σ vs) Dl H' S' F' tacc Ga ∧ tacc.length ≤ i ∧ runX j vs elt (ts.drop i) S' tacc = some fin) h0 sq hs hd
  | fz => exact lc_list (K := Γ.K) (a := a) (xs := ws) (Qd := fun H' => Q (.ref Dl) H') (fun i H' => ∃ S' F' tacc Ga, Acc Γ ar' H1 F1 (wipe σ vs) Dl H' S' F' tacc Ga ∧ tacc.length ≤ i ∧ runX j vs elt (ts.drop i) S' tacc = some fin) h0 sq hs hd
  | dK _ => cases hk
  | dT _ => cases hk
  | obj _ _ => cases hk
def kLXe (vs : List Nat) (S1 : TSt) : Rs (List T) × TSt → Option (Rs T × TSt)
  | (.ok us, S2) => some (.ok (.nd .lst us), restS S1 (wipeS S2 vs) vs)
  | (.ex c, S2) => some (.ex c, restS S1 (wipeS S2 vs) vs)
def kLX1 (j : Nat) (vs : List Nat) (elt : EF) (S1 : TSt) (kt : Kd × List T) : Option (Rs T × TSt) := if kt.2.length < 100000 then (runX j vs elt kt.2 (wipeS S1 vs) []).bind (kLXe vs S1) else none
def kLX (j : Nat) (vs : List Nat) (elt : EF) : Rs T × TSt → Option (Rs T × TSt)
  | (.ex c, S1) => some (.ex c, S1)
  | (.ok t, S1) => (seqO t).bind (kLX1 j vs elt S1)
def eLcX (j : Nat) (vs : List Nat) (f elt : EF) : EF := fun S => (f S).bind (kLX j vs elt)
def rdEW (Γ : Gx) (W : WX) (C : Fx → Prop) (f : EF) : TE := fun σ H Q => ∃ ar', C ar' ∧ rdE Γ ar' W f σ H Q
theorem ew_all {X : Cx} {e : Expr} {C : Fx → Prop} {f : EF} (h : ∀ ar', C ar' → PE X e (rdE Γ ar' W f)) : PE X e (rdEW Γ W C f) := ⟨fun pins s σ H Q I ⟨ar', c, q⟩ => (h ar' c).run pins s σ H Q I q⟩
theorem lcX_ok {j : Nat} {vs : List Nat} {elt : EF} {C : Fx → Prop} (hj : j ∈ vs) (hC : C (freeAt ar vs)) (hW : WSame W) {σ : L2.St} {H : Hp} {Q : VK} (q : rdE Γ ar W (eLcX j vs fa elt) σ H Q) : tLc (iSeq Γ.K (rdE Γ ar W fa)) (gName j) (rdTX Γ C eYes) (rdEW Γ W C elt) vs σ H Q := by
  obtain ⟨S, F, r, S', R, ee, kk⟩ := q
  unfold eLcX at ee
  cases e1 : fa S with
  | none => rw [e1] at ee; cases ee
  | some o1 =>
    obtain ⟨r1, S1⟩ := o1
    rw [e1] at ee
    simp only [Option.bind_some] at ee
    cases r1 with
    | ex c => cases ee; exact .inl ⟨S, F, _, _, R, e1, kk⟩
    | ok t =>
      simp only [kLX] at ee
      cases e2 : seqO t with
      | none => rw [e2] at ee; cases ee
      | some kt =>
        obtain ⟨k, ts⟩ := kt
        rw [e2] at ee
        simp only [Option.bind_some] at ee
        obtain ⟨rfl, hk, im⟩ := seqO_some e2
        unfold kLX1 at ee
        by_cases hz : ts.length < 100000
        · rw [if_pos hz] at ee
          cases e3 : runX j vs elt ts (wipeS S1 vs) [] with
          | none => rw [e3] at ee; cases ee
          | some fin =>
            rw [e3] at ee
            simp only [Option.bind_some] at ee
            have main : ∀ v H' F' G, Own Γ ar H F σ S1 v (.nd k ts) H' F' G → ∃ a ws, v = .ref a ∧ SqX Γ.K H' k a ws ∧ CompR (gName j) (rdTX Γ C eYes) (rdEW Γ W C elt) vs σ Q (ItX Γ.K a k) H' := fun v H' F' G ow => by
              refine coreX hj free_ok.1 hW (fun σ H Q z => ⟨_, hC, z⟩) (fun σ H Q z => ⟨_, hC, z⟩) ow.r hk ow.d im ow.rs free_ok.2 hz e3 (fun c S3 ef H2 F2 R2 u2 σ2 => ?_) fun us S3 ef w H2 F2 G2 R2 r2 d2 al2 u2 => ?_
              · subst ef
                cases ee
                exact hW _ _ _ _ _ (kk H2 F2 (ow.rs.rest u2.imm (ow.rs.unwipe R2 (wipeS_idem vs)) vs) ((ow.u.sub fun a z => .inl z).trans u2))
              · subst ef
                cases ee
                exact kk w H2 F2 G2 ⟨(ow.rs.rest u2.imm (ow.rs.unwipe R2 (wipeS_idem vs)) vs), r2, d2, al2, (ow.u.sub fun a z => .inl z).trans u2⟩
            cases k with
            | tup =>
              refine .inr ⟨S, F, _, _, R, e1, fun v H' F' G ow => ?_⟩
              obtain ⟨a, ws, ev, hq, lp⟩ := main v H' F' G ow
              exact ⟨a, ev, ⟨ws, hq⟩, lp⟩
            | lst =>
              refine .inl ⟨S, F, _, _, R, e1, fun v H' F' G ow => ?_⟩
              obtain ⟨a, ws, ev, hq, lp⟩ := main v H' F' G ow
              exact ⟨a, ev, ⟨ws, hq⟩, lp⟩
            | fz =>
              refine .inl ⟨S, F, _, _, R, e1, fun v H' F' G ow => ?_⟩
              obtain ⟨a, ws, ev, hq, lp⟩ := main v H' F' G ow
              exact ⟨a, ev, ⟨ws, hq⟩, lp⟩
            | dK _ => cases hk
            | dT _ => cases hk
            | obj _ _ => cases hk
        · rw [if_neg hz] at ee; cases ee
section
variable {X : Cx} {elt tg iter : Expr} {scope : Scope} {own : List (Str × Nat)} {pos spos : Pos} {j : Nat} {el : EF}
theorem s_lcX (i : Nat) {y : Str} {py : Pos} (hi' : ar i = none) (hc : X.calm = true) (hN : X.N.Nodup) (hst : X.stack = X.env :: X.outer) (hfm : X.env.frame = some X.env.locals) (tk : L2N.Takes X W) (hW : WSame W)
    (hsw : swapsWith (.ListComp elt [⟨tg, iter, [], 0⟩] scope pos) (some (.Name y py)) spos.line X.env = pure true) (hi : PE X iter (rdE Γ ar W fa)) (ok : BlkOk X.N X.env.scope scope own) (hg : ∀ (s : Shared) (H : Hp) (C : Addr) (cl : List (Str × Addr)) (fp : List Addr), PG (X.blk s H scope (compEnvC scope cl C X.env) fp) tg (gName j))
    (he : ∀ (s : Shared) (H : Hp) (C : Addr) (cl : List (Str × Addr)) (fp : List Addr) (E : Value → Shared → Prop), L2N.Takes ((X.blk s H scope (compEnvC scope cl C X.env) fp).wish E) W → PE ((X.blk s H scope (compEnvC scope cl C X.env) fp).wish E) elt (rdEW Γ W CT el))
    (hy : X.N[i]? = some y := by rfl) (hyl : X.env.scope.names.lookup y = some .local := by rfl) (hj : j ∈ own.map (·.2) := by decide) (hK : X.K = Γ.K := by rfl) (hs : ∀ x, foldedSetIterable iter X.env x = pure x := by intro _; rfl) :
    PS X (.Assign [.Name y py] (.ListComp elt [⟨tg, iter, [], 0⟩] scope pos) spos) (rdS Γ ar W (sSet i (eLcX j (own.map (·.2)) fa el))) := by
  refine PS.imp (ps_setLcX hc hN hst hfm tk hW hy hyl hsw (pi_seq hi) ok hg (fun _ _ _ _ _ => tt_nil (Γ := Γ) (C := CT)) he hs) fun D σ H q => ?_
  rw [hK]
  exact lcX_ok hj trivial hW (set_ok hi' q)
end
section
variable {j : Nat} {vs : List Nat} {f elt : EF} {S S1 S2 : TSt} {t : T} {ts us acc : List T} {c : Nat} {k : Kd}
theorem eLcX_q : eLcX j vs f elt S = (f S).bind (kLX j vs elt) := rfl
theorem kLX_ok : kLX j vs elt (.ok t, S) = (seqO t).bind (kLX1 j vs elt S) := rfl
theorem kLX1_q : kLX1 j vs elt S (k, ts) = if ts.length < 100000 then (runX j vs elt ts (wipeS S vs) []).bind (kLXe vs S) else none := rfl
theorem kLXe_ok : kLXe vs S (.ok us, S2) = some (.ok (.nd .lst us), restS S (wipeS S2 vs) vs) := rfl
end
end VT
namespace VT
open PySem PySem.Spec L2
def lockA : T → Option T
  | .nd .lst ts => lockT (.nd .lst ts)
  | t => if t.im = true then some t else none
theorem e_lockA {Γ : Gx} {ar : Fx} {W : WX} {X : Cx} {e : Expr} {fa : EF} (h : PE X e (rdE Γ ar W fa)) : PE X e (rdE Γ ar W (eUn lockA fa)) := by
  refine ⟨fun pins s σ H Q I q => ?_⟩
  obtain ⟨S, F, r, S', R, ee, k⟩ := q
  rw [eUn_q] at ee
  cases e1 : fa S with
  | none => rw [e1] at ee; cases ee
  | some o =>
    obtain ⟨r1, S1⟩ := o
    rw [e1, Option.bind_some] at ee
    cases r1 with
    | ex c =>
      cases ee
      exact h.run pins s σ H Q I ⟨S, F, _, _, R, e1, k⟩
    | ok u =>
      rw [kUn_ok] at ee
      unfold lockA at ee
      split at ee
      · rename_i ts
        refine (e_lock h).run pins s σ H Q I ⟨S, F, r, S', R, ?_, k⟩
        rw [eUn_q, e1, Option.bind_some, kUn_ok]
        exact ee
      · by_cases im : u.im = true
        · rw [if_pos im] at ee
          cases ee
          exact h.run pins s σ H Q I ⟨S, F, _, _, R, e1, k⟩
        · rw [if_neg im] at ee; cases ee
theorem lockA_l {ts : List T} : lockA (.nd .lst ts) = if T.imAll ts = true then some (.nd .fz ts) else none := rfl
theorem lockA_n : lockA .non = some .non := rfl
theorem lockA_i {i : Int} : lockA (.int i) = some (.int i) := rfl
end VT
namespace K23
open PySem L2 VT
def ct : Nat → List Str
  | _ => []
abbrev gx (K : PySem.W.Frag) (cl : Nat → Addr) (okc : ∀ c f, f ∈ ct c → Cls K (cl c) ∧ NoAttr K (cl c) f) : Gx := ⟨K, cl, ct, okc⟩
structure Bi (mg : Str → Option Value) : Prop where
  ValueError : mg "ValueError" = none
  bool : mg "bool" = none
  int : mg "int" = none
  isinstance : mg "isinstance" = none
  len : mg "len" = none
  min : mg "min" = none
  range : mg "range" = none
  set : mg "set" = none
  str : mg "str" = none
theorem hu1 {A : Around} {k : Nat} (hr : Room k A) : A.units + 1 < cLine := by have := hr.un; omega
theorem hu65 {A : Around} {k : Nat} (hr : Room k A) : A.units + 65 < cLine := by have := hr.un; omega
def kn : Nat → Option Str
  | 13 => some ("BadRow+" : Str)
  | _ => none
theorem sc_read_number : FnScope ["text", "sign"] ["text"] (defScope s_read_number) := ⟨rfl, rfl, rfl, by decide +kernel, rfl, by decide +kernel, by decide +kernel⟩
def b_read_number : SF := (sSeq (sIf (eOr (eNot (eOfN (bUn (isiT "str") (bOfP (pVar 0))))) (eOr (eOfN (bOp eqT (bOfP (pVar 0)) (nC (.str "")))) (eOfN (bOp gtT (bUn lenT (bOfP (pVar 0))) (nC (.int 40)))))) (sRaise 13) sNil)
    (sSeq (sForS (tgN 1) (bOfP (pVar 0)) (sIf (eOfN (bOp notInS (bOfP (pVar 1)) (nC (.str "0123456789")))) (sRaise 13) sNil))
    (sSeq (sIf (eAnd (eOfN (bOp eqT (bOp ixB (bOfP (pVar 0)) (nC (.int 0))) (nC (.str "0")))) (eOfN (bOp neT (bOfP (pVar 0)) (nC (.str "0"))))) (sRaise 13) sNil)
    (sRet (eOfN (bUn intS (bOfP (pVar 0))))))))
def m_read_number : MF := mBody 1 2 b_read_number
theorem sc_read_signed : FnScope ["text", "number"] ["text"] (defScope s_read_signed) := ⟨rfl, rfl, rfl, by decide +kernel, rfl, by decide +kernel, by decide +kernel⟩
def b_read_signed : SF := (sSeq (sIf (eNot (eOfN (bUn (isiT "str") (bOfP (pVar 0))))) (sRaise 13) sNil)
    (sSeq (sIf (eOfN (bOp neT (bUn (slA none (some 1)) (bOfP (pVar 0))) (nC (.str "-")))) (sRet (eCall m_read_number 1 (aRef 0 aNil))) sNil)
    (sSeq (sSet 1 (eCall m_read_number 1 (aVal (eOfN (bUn (slA (some 1) none) (bOfP (pVar 0)))) aNil)))
    (sSeq (sIf (eOfN (bOp eqT (bOfP (pVar 1)) (nC (.int 0)))) (sRaise 13) sNil)
    (sRet (eOfN (bUn negT (bOfP (pVar 1)))))))))
def m_read_signed : MF := mBody 1 2 b_read_signed
theorem sc_read_pages : FnScope ["text", "pages", "word"] ["text"] (defScope s_read_pages) := ⟨rfl, rfl, rfl, by decide +kernel, rfl, by decide +kernel, by decide +kernel⟩
def b_read_pages : SF := (sSeq (sIf (eNot (eOfN (bUn (isiT "str") (bOfP (pVar 0))))) (sRaise 13) sNil)
    (sSeq (sIf (eOfN (bOp eqT (bOfP (pVar 0)) (nC (.str "-")))) (sRet (eDisp .lst aNil)) sNil)
    (sSeq (sSet 1 (eLcX 2 [2] (eOfN (bOp splitS (bOfP (pVar 0)) (nC (.str ",")))) (eCall m_read_number 1 (aRef 2 aNil))))
    (sSeq (sIf (eOr (eOfN (bOp gtT (bUn lenT (bOfP (pVar 1))) (nC (.int 40)))) (eOfN (bOp ltT (bUn lsetD (bOfP (pVar 1))) (bUn lenT (bOfP (pVar 1)))))) (sRaise 13) sNil)
    (sRet (eVar 1))))))
def m_read_pages : MF := mBody 1 3 b_read_pages
theorem sc_law_bag : FnScope ["script", "k", "cell", "seed"] ["script", "k"] (defScope s_law_bag) := ⟨rfl, rfl, rfl, by decide +kernel, rfl, by decide +kernel, by decide +kernel⟩
def b_law_bag : SF := (sSeq (sSet 2 (eOfN (nC (.int 0))))
    (sSeq (sIf (eOfN (bOp ltT (bOfP (pVar 1)) (bUn lenT (bOfP (pVar 0))))) (sSet 2 (eOfN (bOp modT (bOp ixB (bOfP (pVar 0)) (bOfP (pVar 1))) (bOp powT (nC (.int 10)) (nC (.int 60)))))) sNil)
    (sSeq (sSet 3 (eOfN (bOp addA (nC (.int 1)) (bOp modT (bOp addA (bOp addA (bOp addA (bOp mulT (bOp modT (bOfP (pVar 2)) (nC (.int 2147483629))) (nC (.int 16807))) (bOp mulT (bOp mulT (nC (.int 40009)) (bOfP (pVar 1))) (bOfP (pVar 1)))) (bOp mulT (nC (.int 7919)) (bOfP (pVar 1)))) (nC (.int 1009))) (nC (.int 2147483645))))))
    (sSeq (sIf (eOfN (bOp ltT (bOfP (pVar 2)) (bOp powT (nC (.int 10)) (nC (.int 18))))) (sRet (eDisp .lst (aVal (eOfN (nC (.int 0))) (aVal (eVar 3) aNil)))) sNil)
    (sRet (eDisp .lst (aVal (eVar 2) (aVal (eVar 3) aNil))))))))
def m_law_bag : MF := mBody 2 4 b_law_bag
theorem sc_law_take : FnScope ["bag", "many", "found"] ["bag", "many"] (defScope s_law_take) := ⟨rfl, rfl, rfl, by decide +kernel, rfl, by decide +kernel, by decide +kernel⟩
def b_law_take : SF := (sSeq (sIf (eOfN (bOp gtT (bOp ixB (bOfP (pVar 0)) (nC (.int 0))) (nC (.int 0)))) (sSeq (sSet 2 (eOfN (bOp modT (bOp ixB (bOfP (pVar 0)) (nC (.int 0))) (bOfP (pVar 1)))))
    (sSeq (sSetA (pVar 0) (nC (.int 0)) (eOfN (bOp fdivT (bOp ixB (bOfP (pVar 0)) (nC (.int 0))) (bOfP (pVar 1)))))
    (sRet (eVar 2)))) sNil)
    (sSeq (sSetA (pVar 0) (nC (.int 1)) (eOfN (bOp modT (bOp mulT (bOp ixB (bOfP (pVar 0)) (nC (.int 1))) (nC (.int 48271))) (nC (.int 2147483647)))))
    (sRet (eOfN (bOp modT (bOp fdivT (bOp modT (bOp mulT (bOp fdivT (bOp ixB (bOfP (pVar 0)) (nC (.int 1))) (nC (.int 13))) (bOp addA (bOp modT (bOp ixB (bOfP (pVar 0)) (nC (.int 1))) (nC (.int 32749))) (nC (.int 17)))) (nC (.int 2147483629))) (nC (.int 32))) (bOfP (pVar 1)))))))
def m_law_take : MF := mBody 2 3 b_law_take
theorem sc_law_whole : FnScope ["thing"] ["thing"] (defScope s_law_whole) := ⟨rfl, rfl, rfl, by decide +kernel, rfl, by decide +kernel, by decide +kernel⟩
def b_law_whole : SF := (sRet (eOfN (nOfB (bAnd (bUn (isiT "int") (bOfP (pVar 0))) (bNot (bUn (isiT "bool") (bOfP (pVar 0))))))))
def m_law_whole : MF := mBody 1 1 b_law_whole
theorem sc_law_kinds : FnScope ["e", "some", "words", "k"] ["e"] (defScope s_law_kinds) := ⟨rfl, rfl, rfl, by decide +kernel, rfl, by decide +kernel, by decide +kernel⟩
def b_law_kinds (b0 b1 b2 b3 b4 b5 b6 b7 b8 b9 b10 b11 b12 b13 : Bool) : SF := (sSeq (sSet 1 (eDisp .lst (aVal (eOfN (nC (.bl b3))) (aVal (eOfN (nC (.bl b2))) (aVal (eOfN (nC (.bl b1))) (aVal (eOfN (nC (.bl b0))) aNil))))))
    (sSeq (sSet 1 (eOfN (bOp addA (bOfP (pVar 1)) (nLst (baVal (nC (.bl b7)) (baVal (nC (.bl b6)) (baVal (nC (.bl b5)) (baVal (nC (.bl b4)) baNil))))))))
    (sSeq (sSet 1 (eOfN (bOp addA (bOfP (pVar 1)) (nLst (baVal (nC (.bl b11)) (baVal (nC (.bl b10)) (baVal (nC (.bl b9)) (baVal (nC (.bl b8)) baNil))))))))
    (sSeq (sSet 2 (eDisp .lst (aVal (eOfN (nC (.str "Asleep"))) (aVal (eOfN (nC (.str "BadRow"))) (aVal (eOfN (nC (.str "Here"))) (aVal (eOfN (nC (.str "NoCall"))) (aVal (eOfN (nC (.str "NoDeed"))) (aVal (eOfN (nC (.str "NoHand"))) (aVal (eOfN (nC (.str "NoLeaf"))) (aVal (eOfN (nC (.str "NoPage"))) (aVal (eOfN (nC (.str "NoRight"))) (aVal (eOfN (nC (.str "NoRoom"))) aNil))))))))))))
    (sSeq (sSet 2 (eOfN (bOp addA (bOfP (pVar 2)) (nLst (baVal (nC (.str "NoSpace")) (baVal (nC (.str "Taken")) (baVal (nC (.str "Waits")) (baVal (nC (.str "+")) baNil))))))))
    (sSeq (sSet 1 (eOfN (bOp addA (bOfP (pVar 1)) (nLst (baVal (nC (.bl b13)) (baVal (nC (.bl b12)) baNil))))))
    (sRet (eUn (joinT "") (eLcR 3 [3] (eOfN (nC (.int 14))) (eOfN (bOp ixT (bOfP (pVar 1)) (bOfP (pVar 3)))) (eOfN (bOp ixT (bOfP (pVar 2)) (bOfP (pVar 3)))))))))))))
theorem sc_law_figures : FnScope ["bag", "many", "k"] ["bag"] (defScope s_law_figures) := ⟨rfl, rfl, rfl, by decide +kernel, rfl, by decide +kernel, by decide +kernel⟩
def b_law_figures : SF := (sSeq (sSet 1 (eOp ixA (eDisp .lst (aVal (eOp addA (eOfN (nC (.int 1))) (eCall m_law_take 2 (aRef 0 (aVal (eOfN (nC (.int 3))) aNil)))) (aVal (eOp addA (eOfN (nC (.int 38))) (eCall m_law_take 2 (aRef 0 (aVal (eOfN (nC (.int 5))) aNil)))) (aVal (eOfN (nC (.int 1))) aNil)))) (eCall m_law_take 2 (aRef 0 (aVal (eOfN (nC (.int 3))) aNil)))))
    (sRet (eUn (joinT "") (eLcR 2 [2] (eVar 1) eYes (eOp ixA (eOfN (nC (.str "0123456789"))) (eCall m_law_take 2 (aRef 0 (aVal (eOfN (nC (.int 10))) aNil))))))))
def m_law_figures : MF := mBody 1 3 b_law_figures
theorem sc_law_text : FnScope ["bag", "way", "many", "words", "k"] ["bag"] (defScope s_law_text) := ⟨rfl, rfl, rfl, by decide +kernel, rfl, by decide +kernel, by decide +kernel⟩
def b_law_text : SF := (sSeq (sSet 1 (eCall m_law_take 2 (aRef 0 (aVal (eOfN (nC (.int 4))) aNil))))
    (sSeq (sIf (eOfN (bOp ltT (bOfP (pVar 1)) (nC (.int 2)))) (sRet (eOp addA (eOfN (nOfB (bOp ixB (nLst (baVal (nC (.str "")) (baVal (nC (.str "-")) baNil))) (bOfP (pVar 1))))) (eCall m_law_figures 1 (aRef 0 aNil)))) sNil)
    (sSeq (sSet 2 (eOp ixA (eDisp .lst (aVal (eCall m_law_take 2 (aRef 0 (aVal (eOfN (nC (.int 5))) aNil))) (aVal (eOp addA (eOfN (nC (.int 39))) (eCall m_law_take 2 (aRef 0 (aVal (eOfN (nC (.int 4))) aNil)))) aNil))) (eUn intT (eOpB eqT (eCall m_law_take 2 (aRef 0 (aVal (eOfN (nC (.int 4))) aNil))) (nC (.int 0))))))
    (sSeq (sSet 3 (eLcR 4 [4] (eVar 2) eYes (eUn strT (eOp addA (eOfN (bOp mulT (nC (.int 3)) (bOfP (pVar 4)))) (eCall m_law_take 2 (aRef 0 (aVal (eOfN (nC (.int 2))) aNil)))))))
    (sSeq (sIf (eAnd (eOfN (bOp eqT (bOfP (pVar 1)) (nC (.int 3)))) (eOfN (bOp gtT (bOfP (pVar 2)) (nC (.int 1))))) (sSetVE 3 (eCall m_law_take 2 (aRef 0 (aRef 2 aNil))) (eOpV ixT 3 (eCall m_law_take 2 (aRef 0 (aRef 2 aNil))))) sNil)
    (sRet (eOpB ixA (eDisp .lst (aVal (eOfN (nC (.str "-"))) (aVal (eUn (joinT ",") (eVar 3)) aNil))) (bUn intT (bOp gtT (bOfP (pVar 2)) (nC (.int 0)))))))))))
def m_law_text : MF := mBody 1 5 b_law_text
theorem sc_law_spoilt : FnScope ["bag", "text", "signs", "way", "sign", "at"] ["bag", "text"] (defScope s_law_spoilt) := ⟨rfl, rfl, rfl, by decide +kernel, rfl, by decide +kernel, by decide +kernel⟩
def b_law_spoilt : SF := (sSeq (sSet 2 (eOfN (nC (.str " !\"#$&'()*+,-./0123456789:;<=>?@ABCDEFGHIJKLMNOPQRSTUVWXYZ[\\]^_`abcdefghijklmnopqrstuvwxyz{|}~\n"))))
    (sSeq (sSet 3 (eCall m_law_take 2 (aRef 0 (aVal (eOfN (nC (.int 8))) aNil))))
    (sSeq (sSet 4 (eOp ixA (eDisp .lst (aVal (eOpV ixT 2 (eCall m_law_take 2 (aRef 0 (aVal (eOfN (nC (.int 95))) aNil)))) (aVal (eOfN (nC (.str "0"))) (aVal (eOfN (nC (.str "-"))) (aVal (eOfN (nC (.str ","))) aNil))))) (eCall m_law_take 2 (aRef 0 (aVal (eOfN (nC (.int 4))) aNil)))))
    (sSeq (sSet 5 (eCall m_law_take 2 (aRef 0 (aVal (eOfN (bOp addA (bUn lenT (bOfP (pVar 1))) (nC (.int 1)))) aNil))))
    (sSeq (sIf (eOfN (bOp eqT (bOfP (pVar 3)) (nC (.int 0)))) (sRet (eOfN (bOp addA (bSl none (some (bOfP (pVar 5))) (bOfP (pVar 1))) (bSl (some (bOp addA (bOfP (pVar 5)) (nC (.int 1)))) none (bOfP (pVar 1)))))) sNil)
    (sSeq (sIf (eOfN (bOp eqT (bOfP (pVar 3)) (nC (.int 1)))) (sRet (eOfN (bOp addA (bSl none (some (bOp addA (bOfP (pVar 5)) (nC (.int 1)))) (bOfP (pVar 1))) (bSl (some (bOfP (pVar 5))) none (bOfP (pVar 1)))))) sNil)
    (sSeq (sIf (eOfN (bOp eqT (bOfP (pVar 3)) (nC (.int 2)))) (sRet (eOfN (bOp addA (bOp addA (bSl none (some (bOfP (pVar 5))) (bOfP (pVar 1))) (bOfP (pVar 4))) (bSl (some (bOfP (pVar 5))) none (bOfP (pVar 1)))))) sNil)
    (sSeq (sIf (eOfN (bOp eqT (bOfP (pVar 3)) (nC (.int 3)))) (sRet (eOfN (bOp addA (bOp addA (bSl none (some (bOfP (pVar 5))) (bOfP (pVar 1))) (bOfP (pVar 4))) (bSl (some (bOp addA (bOfP (pVar 5)) (nC (.int 1)))) none (bOfP (pVar 1)))))) sNil)
    (sRet (eVar 1))))))))))
def m_law_spoilt : MF := mBody 2 6 b_law_spoilt
theorem sc_law_number : FnScope ["text", "sign"] ["text"] (defScope s_law_number) := ⟨rfl, rfl, rfl, by decide +kernel, rfl, by decide +kernel, by decide +kernel⟩
def b_law_number : SF := (sSeq (sIf (eOr (eNot (eOfN (bUn (isiT "str") (bOfP (pVar 0))))) (eOr (eOfN (bOp ltT (bUn lenT (bOfP (pVar 0))) (nC (.int 1)))) (eOfN (bOp gtT (bUn lenT (bOfP (pVar 0))) (nC (.int 40)))))) (sRet (eOfN (nC .non))) sNil)
    (sSeq (sIf (eOr (eOfN (bOp neT (bLcS [1] (tgN 1) (bOfP (pVar 0)) (bOp notInS (bOfP (pVar 1)) (nC (.str "0123456789"))) (nOfB (bOfP (pVar 1)))) (nLst baNil))) (eAnd (eOfN (bOp eqT (bOp ixB (bOfP (pVar 0)) (nC (.int 0))) (nC (.str "0")))) (eOfN (bOp neT (bOfP (pVar 0)) (nC (.str "0")))))) (sRet (eOfN (nC .non))) sNil)
    (sRet (eOfN (bUn intS (bOfP (pVar 0)))))))
def m_law_number : MF := mBody 1 2 b_law_number
theorem sc_law_due : FnScope ["which", "text", "pages", "number", "word"] ["which", "text"] (defScope s_law_due) := ⟨rfl, rfl, rfl, by decide +kernel, rfl, by decide +kernel, by decide +kernel⟩
def b_law_due : SF := (sSeq (sIf (eOr (eOfN (bOp eqT (bOfP (pVar 0)) (nC (.int 0)))) (eNot (eOfN (bUn (isiT "str") (bOfP (pVar 1)))))) (sRet (eCall m_law_number 1 (aRef 1 aNil))) sNil)
    (sSeq (sIf (eOfN (bOp eqT (bOfP (pVar 0)) (nC (.int 1)))) (sSeq (sIf (eOfN (bOp neT (bUn (slA none (some 1)) (bOfP (pVar 1))) (nC (.str "-")))) (sRet (eCall m_law_number 1 (aRef 1 aNil))) sNil)
    (sSeq (sSet 3 (eCall m_law_number 1 (aVal (eOfN (bUn (slA (some 1) none) (bOfP (pVar 1)))) aNil)))
    (sRet (eOfN (nOfB (bOp ixB (nLst (baVal (nC .non) (baVal (bOp subT (nC (.int 0)) (bOp ixB (nLst (baRef 3 (baVal (nC (.int 0)) baNil))) (bUn intT (bOp isA (bOfP (pVar 3)) (nC .non))))) baNil))) (bUn intT (bAnd (bOp isNotA (bOfP (pVar 3)) (nC .non)) (bOp neT (bOfP (pVar 3)) (nC (.int 0))))))))))) sNil)
    (sSeq (sIf (eOfN (bOp eqT (bOfP (pVar 1)) (nC (.str "-")))) (sRet (eDisp .lst aNil)) sNil)
    (sSeq (sSet 2 (eLcE 4 [4] (eOfN (bOp splitS (bOfP (pVar 1)) (nC (.str ",")))) eYes (eCall m_law_number 1 (aRef 4 aNil))))
    (sSeq (sIf (eOr (eOfN (bOp inA (nC .non) (bOfP (pVar 2)))) (eOr (eOfN (bOp gtT (bUn lenT (bOfP (pVar 2))) (nC (.int 40)))) (eOfN (bOp ltT (bUn lsetD (bOfP (pVar 2))) (bUn lenT (bOfP (pVar 2))))))) (sRet (eOfN (nC .non))) sNil)
    (sRet (eVar 2)))))))
def m_law_due : MF := mBody 2 5 b_law_due
theorem sc_law_tried : FnScope ["which", "text", "kind", "told", "e"] ["which", "text"] (defScope s_law_tried) := ⟨rfl, rfl, rfl, by decide +kernel, rfl, by decide +kernel, by decide +kernel⟩
def b_law_tried : SF := (sSeq (sSet 2 (eOfN (nC (.str ""))))
    (sSeq (sSet 3 (eOfN (nC .non)))
    (sSeq (sTryK kn 4 2 (sIf (eOfN (bOp eqT (bOfP (pVar 0)) (nC (.int 0)))) (sSet 3 (eCall m_read_number 1 (aRef 1 aNil))) (sIf (eOfN (bOp eqT (bOfP (pVar 0)) (nC (.int 1)))) (sSet 3 (eCall m_read_signed 1 (aRef 1 aNil))) (sSet 3 (eCall m_read_pages 1 (aRef 1 aNil))))))
    (sRet (eDisp .lst (aVal (eVar 2) (aVal (eVar 3) aNil)))))))
def m_law_tried : MF := mBody 2 5 b_law_tried
theorem sc_law_right : FnScope ["which", "text", "due", "found", "one"] ["which", "text"] (defScope s_law_right) := ⟨rfl, rfl, rfl, by decide +kernel, rfl, by decide +kernel, by decide +kernel⟩
def b_law_right : SF := (sSeq (sSet 2 (eUn lockA (eCall m_law_due 2 (aRef 0 (aRef 1 aNil)))))
    (sSeq (sSet 3 (eCall m_law_tried 2 (aRef 0 (aRef 1 aNil))))
    (sSeq (sIf (eOfN (bOp isA (bOfP (pVar 2)) (nC .non))) (sRet (eOfN (bOp eqT (bOfP (pVar 3)) (nLst (baVal (nC (.str "BadRow+")) (baVal (nC .non) baNil)))))) sNil)
    (sSeq (sIf (eAnd (eOfN (bOp ltT (bOfP (pVar 0)) (nC (.int 2)))) (eNot (eCall m_law_whole 1 (aVal (eOfN (nOfB (bOp ixB (bOfP (pVar 3)) (nC (.int 1))))) aNil)))) (sRet (eOfN (nC (.bl false)))) sNil)
    (sRet (eAnd (eOfN (bOp eqT (bOfP (pVar 3)) (nLst (baVal (nC (.str "")) (baRef 2 baNil))))) (eOr (eOfN (bOp ltT (bOfP (pVar 0)) (nC (.int 2)))) (eOpB eqT (eLcP 3 4 [4] (pIxA (pVar 3) (nC (.int 1))) (eNot (eCall m_law_whole 1 (aRef 4 aNil))) (eVar 4)) (nLst baNil)))))))))
def m_law_right : MF := mBody 2 5 b_law_right
theorem sc_law : FnScope ["script", "k", "thing", "bag", "text", "which"] ["script"] (defScope s_law) := ⟨rfl, rfl, rfl, by decide +kernel, rfl, by decide +kernel, by decide +kernel⟩
def b_law : SF := (sSeq (sForR (tgN 1) (eOfN (bOp addA (bOp minT (bUn lenT (bOfP (pVar 0))) (nC (.int 40))) (nC (.int 3)))) (sSeq (sSet 3 (eCall m_law_bag 2 (aRef 0 (aRef 1 aNil))))
    (sSeq (sSet 4 (eCall m_law_spoilt 2 (aRef 3 (aVal (eCall m_law_text 1 (aRef 3 aNil)) aNil))))
    (sForR (tgN 5) (eOfN (nC (.int 3))) (sIf (eNot (eCall m_law_right 2 (aRef 5 (aRef 4 aNil)))) (sRet (eOfN (nC (.bl false)))) sNil)))))
    (sSeq (sForE (tgN 2) (eDisp .lst (aVal (eOfN (nC .non)) (aVal (eOfN (nC (.int 7))) (aVal (eOfN (nC (.bl true))) (aVal (eOfN (nTup (baVal (nC (.str "1")) baNil))) (aVal (eOfN (bUn lockT (nLst (baVal (nC (.str "1")) baNil)))) (aVal (eOfN (nC (.str ""))) (aVal (eOfN (nC (.str "-"))) (aVal (eOfN (nC (.str "-0"))) (aVal (eOfN (nC (.str "00"))) (aVal (eOfN (nC (.str "1,1"))) (aVal (eOfN (nC (.str ","))) (aVal (eOfN (nC (.str "--1"))) (aVal (eOfN (nC (.str "1,"))) aNil)))))))))))))) (sForR (tgN 5) (eOfN (nC (.int 3))) (sIf (eNot (eCall m_law_right 2 (aRef 5 (aRef 2 aNil)))) (sRet (eOfN (nC (.bl false)))) sNil)))
    (sRet (eOfN (nC (.bl true))))))
def m_law : MF := mBody 1 6 b_law
section
variable {P : Program} {w : World} {K : PySem.W.Frag} {cl : Nat → Addr} {okc : ∀ c f, f ∈ ct c → Cls K (cl c) ∧ NoAttr K (cl c) f} {mg : Str → Option Value} {base : Heap}
theorem ok_read_number {f : Addr} {fd : FuncData} (F : Fun K "read_number" "read_number" s_read_number f fd) (B : Bi mg) (G_MOST_FIGURES : GlV mg "MOST_FIGURES" (.int 40)) (G_FIGURES : GlV mg "FIGURES" (.str "0123456789")) (X_BadRow : RaiseOk K mg "BadRow" (cl 13)) : FnOk P w K mg base (L2N.CX P w) 1 f fd ["text"] (spT (gx K cl okc) 1 m_read_number) := by
  refine fn_okT (Γ := gx K cl okc) (k := 0) F sc_read_number fun cdv A outer s H E ar hr hL0 => ?_
  have tk : L2N.Takes (cxOf (L2N.CX P w) P w (gx K cl okc).K mg base ["text", "sign"] "read_number" (defScope s_read_number) f cdv A outer s H E) (fun cls d _ H => E cls d H) := L2N.takes_of rfl rfl rfl rfl
  have po : PassesOwn (model P w) (cxOf (L2N.CX P w) P w (gx K cl okc).K mg base ["text", "sign"] "read_number" (defScope s_read_number) f cdv A outer s H E).A (cxOf (L2N.CX P w) P w (gx K cl okc).K mg base ["text", "sign"] "read_number" (defScope s_read_number) f cdv A outer s H E).env (cxOf (L2N.CX P w) P w (gx K cl okc).K mg base ["text", "sign"] "read_number" (defScope s_read_number) f cdv A outer s H E).xe := passes_of rfl
  have hL : Loc' [1] ar := fun j hj => hL0 j (by revert j; decide)
  unfold b_read_number
  exact (ss_cons (s_if (L2.PW.pt (w_or (t_not (t_val (pe_en (n_isi (n := "str") (by decide) B.isinstance B.str (by decide +kernel) (pe_bp (pp_var 0)))))) (w_or (t_cmpN (op_eqD hr.units) eqT_ok (pe_bp (pp_var 0)) (pe_bn n_str) (nomark _)) (w_one_or (t_cmpN op_gt gtT_ok (pe_bn (n_len B.len (pe_bp (pp_var 0)))) (pe_bn (n_gi G_MOST_FIGURES)) (nomark _)))))) (ss_one (s_raiseX X_BadRow tk)) ss_nil)
      (ss_cons (s_forS po rfl (tgN_ok (hL _ (by decide))) (pe_bp (pp_var 0)) (pg_name (i := 1) sc_read_number.nd rfl (Or.inl rfl)) (ss_one (s_if (t_cmpN op_notInS notInS_ok (pe_bp (pp_var 1)) (pe_bn (n_gs G_FIGURES)) (by rfl)) (ss_one (s_raiseX X_BadRow tk)) ss_nil)))
      (ss_cons (s_if (L2.PW.pt (w_and (t_cmpN (op_eqD hr.units) eqT_ok (b_ix (hu1 hr) (pe_bp (pp_var 0)) (pe_bn n_int) (fun _ _ => rfl)) (pe_bn n_str) (nomark _)) (w_one_and (t_cmpN (op_neD hr.units) neT_ok (pe_bp (pp_var 0)) (pe_bn n_str) (nomark _))))) (ss_one (s_raiseX X_BadRow tk)) ss_nil)
      (ss_one (s_ret (pe_en (n_intS B.int (pe_bp (pp_var 0)))))))))
theorem ok_read_signed {f : Addr} {fd : FuncData} (F : Fun K "read_signed" "read_signed" s_read_signed f fd) (B : Bi mg) (X_BadRow : RaiseOk K mg "BadRow" (cl 13)) (D_read_number : DefOk P w (gx K cl okc) mg base 1 "read_number" 1 m_read_number) : FnOk P w K mg base (L2N.CX P w) 2 f fd ["text"] (spT (gx K cl okc) 1 m_read_signed) := by
  refine fn_okT (Γ := gx K cl okc) (k := 1) F sc_read_signed fun cdv A outer s H E ar hr hL0 => ?_
  have tk : L2N.Takes (cxOf (L2N.CX P w) P w (gx K cl okc).K mg base ["text", "number"] "read_signed" (defScope s_read_signed) f cdv A outer s H E) (fun cls d _ H => E cls d H) := L2N.takes_of rfl rfl rfl rfl
  have po : PassesOwn (model P w) (cxOf (L2N.CX P w) P w (gx K cl okc).K mg base ["text", "number"] "read_signed" (defScope s_read_signed) f cdv A outer s H E).A (cxOf (L2N.CX P w) P w (gx K cl okc).K mg base ["text", "number"] "read_signed" (defScope s_read_signed) f cdv A outer s H E).env (cxOf (L2N.CX P w) P w (gx K cl okc).K mg base ["text", "number"] "read_signed" (defScope s_read_signed) f cdv A outer s H E).xe := passes_of rfl
  have hL : Loc' [1] ar := fun j hj => hL0 j (by revert j; decide)
  unfold b_read_signed
  exact (ss_cons (s_if (t_not (t_val (pe_en (n_isi (n := "str") (by decide) B.isinstance B.str (by decide +kernel) (pe_bp (pp_var 0)))))) (ss_one (s_raiseX X_BadRow tk)) ss_nil)
      (ss_cons (s_if (t_cmpN (op_neD hr.units) neT_ok (pe_bn (n_slA (pe_bp (pp_var 0)) lit_none lit_int)) (pe_bn n_str) (nomark _)) (ss_one (s_ret (e_call D_read_number (hr.mono (by decide)) tk (a_ref 0 a_nil)))) ss_nil)
      (ss_cons (s_set 1 (hL _ (by decide)) sc_read_signed.nd (e_call D_read_number (hr.mono (by decide)) tk (a_val (pe_en (n_slA (pe_bp (pp_var 0)) lit_int lit_none)) a_nil)))
      (ss_cons (s_if (t_cmpN (op_eqD hr.units) eqT_ok (pe_bp (pp_var 1)) (pe_bn n_int) (nomark _)) (ss_one (s_raiseX X_BadRow tk)) ss_nil)
      (ss_one (s_ret (pe_en (n_neg (pe_bp (pp_var 1))))))))))
theorem ok_read_pages {f : Addr} {fd : FuncData} (F : Fun K "read_pages" "read_pages" s_read_pages f fd) (B : Bi mg) (G_MOST_PAGES : GlV mg "MOST_PAGES" (.int 40)) (X_BadRow : RaiseOk K mg "BadRow" (cl 13)) (D_read_number : DefOk P w (gx K cl okc) mg base 1 "read_number" 1 m_read_number) : FnOk P w K mg base (L2N.CX P w) 2 f fd ["text"] (spT (gx K cl okc) 1 m_read_pages) := by
  refine fn_okT (Γ := gx K cl okc) (k := 1) F sc_read_pages fun cdv A outer s H E ar hr hL0 => ?_
  have tk : L2N.Takes (cxOf (L2N.CX P w) P w (gx K cl okc).K mg base ["text", "pages", "word"] "read_pages" (defScope s_read_pages) f cdv A outer s H E) (fun cls d _ H => E cls d H) := L2N.takes_of rfl rfl rfl rfl
  have po : PassesOwn (model P w) (cxOf (L2N.CX P w) P w (gx K cl okc).K mg base ["text", "pages", "word"] "read_pages" (defScope s_read_pages) f cdv A outer s H E).A (cxOf (L2N.CX P w) P w (gx K cl okc).K mg base ["text", "pages", "word"] "read_pages" (defScope s_read_pages) f cdv A outer s H E).env (cxOf (L2N.CX P w) P w (gx K cl okc).K mg base ["text", "pages", "word"] "read_pages" (defScope s_read_pages) f cdv A outer s H E).xe := passes_of rfl
  have hL : Loc' [1, 2] ar := fun j hj => hL0 j (by revert j; decide)
  unfold b_read_pages
  exact (ss_cons (s_if (t_not (t_val (pe_en (n_isi (n := "str") (by decide) B.isinstance B.str (by decide +kernel) (pe_bp (pp_var 0)))))) (ss_one (s_raiseX X_BadRow tk)) ss_nil)
      (ss_cons (s_if (t_cmpN (op_eqD hr.units) eqT_ok (pe_bp (pp_var 0)) (pe_bn n_str) (nomark _)) (ss_one (s_ret (e_lst a_nil))) ss_nil)
      (ss_cons (s_lcX (own := [("word", 2)]) 1 (hL _ (by decide)) rfl sc_read_pages.nd rfl rfl tk (fun _ _ _ _ _ h => h) (sw_true rfl rfl rfl (by decide +kernel)) (pe_en (n_split (pe_bp (pp_var 0)) (pe_bn n_str))) (blkOk_by (own := [("word", 2)]) (N := ["text", "pages", "word"]) (sc := defScope s_read_pages) (by decide +kernel)) (fun _ _ _ _ _ => pg_name (i := 2) sc_read_pages.nd rfl (Or.inl rfl)) (fun _ _ _ _ _ _ tkb => ew_all (fun ar _ => (e_call D_read_number (hr.mono (by decide)) tkb (a_ref 2 a_nil)))))
      (ss_cons (s_if (L2.PW.pt (w_or (t_cmpN op_gt gtT_ok (pe_bn (n_len B.len (pe_bp (pp_var 1)))) (pe_bn (n_gi G_MOST_PAGES)) (nomark _)) (w_one_or (t_cmpN op_lt ltT_ok (pe_bn (n_lsetD B.len B.set (pe_bp (pp_var 1)))) (pe_bn (n_len B.len (pe_bp (pp_var 1)))) (nomark _))))) (ss_one (s_raiseX X_BadRow tk)) ss_nil)
      (ss_one (s_ret (pe_evar 1)))))))
theorem ok_law_bag {f : Addr} {fd : FuncData} (F : Fun K "_law_bag" "_law_bag" s_law_bag f fd) (B : Bi mg) : FnOk P w K mg base (L2N.CX P w) 1 f fd ["script", "k"] (spT (gx K cl okc) 2 m_law_bag) := by
  refine fn_okT (Γ := gx K cl okc) (k := 0) F sc_law_bag fun cdv A outer s H E ar hr hL0 => ?_
  have tk : L2N.Takes (cxOf (L2N.CX P w) P w (gx K cl okc).K mg base ["script", "k", "cell", "seed"] "_law_bag" (defScope s_law_bag) f cdv A outer s H E) (fun cls d _ H => E cls d H) := L2N.takes_of rfl rfl rfl rfl
  have po : PassesOwn (model P w) (cxOf (L2N.CX P w) P w (gx K cl okc).K mg base ["script", "k", "cell", "seed"] "_law_bag" (defScope s_law_bag) f cdv A outer s H E).A (cxOf (L2N.CX P w) P w (gx K cl okc).K mg base ["script", "k", "cell", "seed"] "_law_bag" (defScope s_law_bag) f cdv A outer s H E).env (cxOf (L2N.CX P w) P w (gx K cl okc).K mg base ["script", "k", "cell", "seed"] "_law_bag" (defScope s_law_bag) f cdv A outer s H E).xe := passes_of rfl
  have hL : Loc' [2, 3] ar := fun j hj => hL0 j (by revert j; decide)
  unfold b_law_bag
  exact (ss_cons (s_set 2 (hL _ (by decide)) sc_law_bag.nd (pe_en n_int))
      (ss_cons (s_if (t_cmpN op_lt ltT_ok (pe_bp (pp_var 1)) (pe_bn (n_len B.len (pe_bp (pp_var 0)))) (nomark _)) (ss_one (s_set 2 (hL _ (by decide)) sc_law_bag.nd (pe_en (nOp op_mod modT_ok (b_ix (hu1 hr) (pe_bp (pp_var 0)) (pe_bp (pp_var 1)) (fun _ _ => rfl)) (pe_bn (nOp op_pow powT_ok (pe_bn n_int) (pe_bn n_int))))))) ss_nil)
      (ss_cons (s_set 3 (hL _ (by decide)) sc_law_bag.nd (pe_en (nOp op_addA addA_ok (pe_bn n_int) (pe_bn (nOp op_mod modT_ok (pe_bn (nOp op_addA addA_ok (pe_bn (nOp op_addA addA_ok (pe_bn (nOp op_addA addA_ok (pe_bn (nOp op_mulT mulT_ok (pe_bn (nOp op_mod modT_ok (pe_bp (pp_var 2)) (pe_bn n_int))) (pe_bn n_int))) (pe_bn (nOp op_mulT mulT_ok (pe_bn (nOp op_mulT mulT_ok (pe_bn n_int) (pe_bp (pp_var 1)))) (pe_bp (pp_var 1)))))) (pe_bn (nOp op_mulT mulT_ok (pe_bn n_int) (pe_bp (pp_var 1)))))) (pe_bn n_int))) (pe_bn n_int))))))
      (ss_cons (s_if (t_cmpN op_lt ltT_ok (pe_bp (pp_var 2)) (pe_bn (nOp op_pow powT_ok (pe_bn n_int) (pe_bn n_int))) (nomark _)) (ss_one (s_ret (e_lst (a_val (pe_en n_int) (a_val (pe_evar 3) a_nil))))) ss_nil)
      (ss_one (s_ret (e_lst (a_val (pe_evar 2) (a_val (pe_evar 3) a_nil)))))))))
theorem ok_law_take {f : Addr} {fd : FuncData} (F : Fun K "_law_take" "_law_take" s_law_take f fd) (B : Bi mg) : FnOk P w K mg base (L2N.CX P w) 1 f fd ["bag", "many"] (spT (gx K cl okc) 2 m_law_take) := by
  refine fn_okT (Γ := gx K cl okc) (k := 0) F sc_law_take fun cdv A outer s H E ar hr hL0 => ?_
  have tk : L2N.Takes (cxOf (L2N.CX P w) P w (gx K cl okc).K mg base ["bag", "many", "found"] "_law_take" (defScope s_law_take) f cdv A outer s H E) (fun cls d _ H => E cls d H) := L2N.takes_of rfl rfl rfl rfl
  have po : PassesOwn (model P w) (cxOf (L2N.CX P w) P w (gx K cl okc).K mg base ["bag", "many", "found"] "_law_take" (defScope s_law_take) f cdv A outer s H E).A (cxOf (L2N.CX P w) P w (gx K cl okc).K mg base ["bag", "many", "found"] "_law_take" (defScope s_law_take) f cdv A outer s H E).env (cxOf (L2N.CX P w) P w (gx K cl okc).K mg base ["bag", "many", "found"] "_law_take" (defScope s_law_take) f cdv A outer s H E).xe := passes_of rfl
  have hL : Loc' [2] ar := fun j hj => hL0 j (by revert j; decide)
  unfold b_law_take
  exact (ss_cons (s_if (t_cmpN op_gt gtT_ok (b_ix (hu1 hr) (pe_bp (pp_var 0)) (pe_bn n_int) (fun _ _ => rfl)) (pe_bn n_int) (nomark _)) (ss_cons (s_set 2 (hL _ (by decide)) sc_law_take.nd (pe_en (nOp op_mod modT_ok (b_ix (hu1 hr) (pe_bp (pp_var 0)) (pe_bn n_int) (fun _ _ => rfl)) (pe_bp (pp_var 1)))))
      (ss_cons (s_setA (hu1 hr) (pp_var 0) (pe_bn n_int) (pe_en (nOp op_fdiv fdivT_ok (b_ix (hu1 hr) (pe_bp (pp_var 0)) (pe_bn n_int) (fun _ _ => rfl)) (pe_bp (pp_var 1)))))
      (ss_one (s_ret (pe_evar 2))))) ss_nil)
      (ss_cons (s_setA (hu1 hr) (pp_var 0) (pe_bn n_int) (pe_en (nOp op_mod modT_ok (pe_bn (nOp op_mulT mulT_ok (b_ix (hu1 hr) (pe_bp (pp_var 0)) (pe_bn n_int) (fun _ _ => rfl)) (pe_bn n_int))) (pe_bn n_int))))
      (ss_one (s_ret (pe_en (nOp op_mod modT_ok (pe_bn (nOp op_fdiv fdivT_ok (pe_bn (nOp op_mod modT_ok (pe_bn (nOp op_mulT mulT_ok (pe_bn (nOp op_fdiv fdivT_ok (b_ix (hu1 hr) (pe_bp (pp_var 0)) (pe_bn n_int) (fun _ _ => rfl)) (pe_bn n_int))) (pe_bn (nOp op_addA addA_ok (pe_bn (nOp op_mod modT_ok (b_ix (hu1 hr) (pe_bp (pp_var 0)) (pe_bn n_int) (fun _ _ => rfl)) (pe_bn n_int))) (pe_bn n_int))))) (pe_bn n_int))) (pe_bn n_int))) (pe_bp (pp_var 1))))))))
theorem ok_law_whole {f : Addr} {fd : FuncData} (F : Fun K "_law_whole" "_law_whole" s_law_whole f fd) (B : Bi mg) : FnOk P w K mg base (L2N.CX P w) 1 f fd ["thing"] (spT (gx K cl okc) 1 m_law_whole) := by
  refine fn_okT (Γ := gx K cl okc) (k := 0) F sc_law_whole fun cdv A outer s H E ar hr hL0 => ?_
  have tk : L2N.Takes (cxOf (L2N.CX P w) P w (gx K cl okc).K mg base ["thing"] "_law_whole" (defScope s_law_whole) f cdv A outer s H E) (fun cls d _ H => E cls d H) := L2N.takes_of rfl rfl rfl rfl
  have po : PassesOwn (model P w) (cxOf (L2N.CX P w) P w (gx K cl okc).K mg base ["thing"] "_law_whole" (defScope s_law_whole) f cdv A outer s H E).A (cxOf (L2N.CX P w) P w (gx K cl okc).K mg base ["thing"] "_law_whole" (defScope s_law_whole) f cdv A outer s H E).env (cxOf (L2N.CX P w) P w (gx K cl okc).K mg base ["thing"] "_law_whole" (defScope s_law_whole) f cdv A outer s H E).xe := passes_of rfl
  have hL : Loc' [] ar := fun j hj => hL0 j (by revert j; decide)
  unfold b_law_whole
  exact (ss_one (s_ret (pe_en (pe_nb (b_and (pe_bn (n_isi (n := "int") (by decide) B.isinstance B.int (by decide +kernel) (pe_bp (pp_var 0)))) (pe_one (b_not (pe_bn (n_isi (n := "bool") (by decide) B.isinstance B.bool (by decide +kernel) (pe_bp (pp_var 0)))))))))))
theorem okk {f : Addr} {fd : FuncData} (F : Fun K "_law_kinds" "_law_kinds" s_law_kinds f fd) (B : Bi mg) {Dx A0 A1 A2 A3 A4 A5 A6 A7 A8 A9 A10 A11 A13 : Addr} {b0 b1 b2 b3 b4 b5 b6 b7 b8 b9 b10 b11 b12 b13 : Bool} (g0 : mg "NoCall" = some (.ref A0)) (g1 : mg "Here" = some (.ref A1)) (g2 : mg "BadRow" = some (.ref A2)) (g3 : mg "Asleep" = some (.ref A3)) (g4 : mg "NoPage" = some (.ref A4)) (g5 : mg "NoLeaf" = some (.ref A5)) (g6 : mg "NoHand" = some (.ref A6)) (g7 : mg "NoDeed" = some (.ref A7)) (g8 : mg "Taken" = some (.ref A8)) (g9 : mg "NoSpace" = some (.ref A9)) (g10 : mg "NoRoom" = some (.ref A10)) (g11 : mg "NoRight" = some (.ref A11)) (g13 : mg "Waits" = some (.ref A13)) (Cx : ExcC K Dx) (k0 : PySem.W.kitOne K (.ref Dx) (.ref A0) = some b0) (k1 : PySem.W.kitOne K (.ref Dx) (.ref A1) = some b1) (k2 : PySem.W.kitOne K (.ref Dx) (.ref A2) = some b2) (k3 : PySem.W.kitOne K (.ref Dx) (.ref A3) = some b3) (k4 : PySem.W.kitOne K (.ref Dx) (.ref A4) = some b4) (k5 : PySem.W.kitOne K (.ref Dx) (.ref A5) = some b5) (k6 : PySem.W.kitOne K (.ref Dx) (.ref A6) = some b6) (k7 : PySem.W.kitOne K (.ref Dx) (.ref A7) = some b7) (k8 : PySem.W.kitOne K (.ref Dx) (.ref A8) = some b8) (k9 : PySem.W.kitOne K (.ref Dx) (.ref A9) = some b9) (k10 : PySem.W.kitOne K (.ref Dx) (.ref A10) = some b10) (k11 : PySem.W.kitOne K (.ref Dx) (.ref A11) = some b11) (k12 : PySem.W.kitOne K (.ref Dx) (.type "ValueError") = some b12) (k13 : PySem.W.kitOne K (.ref Dx) (.ref A13) = some b13) {kd : Str} {S1 : TSt} (he : b_law_kinds b0 b1 b2 b3 b4 b5 b6 b7 b8 b9 b10 b11 b12 b13 (List.replicate 4 none) = some (.rt (.str kd), S1)) : FnE P w (gx K cl okc).K mg base (L2N.CX P w) 1 f fd ["e"] (spK Dx kd) := by
  refine fn_okE (Γ := gx K cl okc) (W := fun _ _ _ _ => False) (k := 0) F sc_law_kinds (by decide) (fun cdv A outer s H E pr hot1 hr hz hf => ?_) he
  have hC := call_isP (X := L2H.cxH (L2N.CX P w) P w (gx K cl okc).K mg base ["e", "some", "words", "k"] "_law_kinds" (defScope s_law_kinds) f cdv A outer s H E pr) (a := pr.1) (oe := pr.2) Cx hz hf List.mem_cons_self
  have hot : L2H.HotC (L2H.cxH (L2N.CX P w) P w (gx K cl okc).K mg base ["e", "some", "words", "k"] "_law_kinds" (defScope s_law_kinds) f cdv A outer s H E pr) := ⟨pr, hot1, List.mem_cons_self⟩
  have hL : Loc' [1, 2, 3] (arE pr.1) := fun j hj => by revert j; simp [arE]
  unfold b_law_kinds
  exact (ss_cons (s_set 1 (hL _ (by decide)) sc_law_kinds.nd (e_lst (a_val (pe_en (n_isE (i := 0) (v := .ref A3) (cv := .ref A3) hC rfl (pe_glob (by rfl) g3 rfl) (fun _ h => h) k3 B.isinstance)) (a_val (pe_en (n_isE (i := 0) (v := .ref A2) (cv := .ref A2) hC rfl (pe_glob (by rfl) g2 rfl) (fun _ h => h) k2 B.isinstance)) (a_val (pe_en (n_isE (i := 0) (v := .ref A1) (cv := .ref A1) hC rfl (pe_glob (by rfl) g1 rfl) (fun _ h => h) k1 B.isinstance)) (a_val (pe_en (n_isE (i := 0) (v := .ref A0) (cv := .ref A0) hC rfl (pe_glob (by rfl) g0 rfl) (fun _ h => h) k0 B.isinstance)) a_nil))))))
      (ss_cons (s_set 1 (hL _ (by decide)) sc_law_kinds.nd (pe_en (nOp op_addA addA_ok (pe_bp (pp_var 1)) (pe_bn (n_lst (ba_val (n_isE (i := 0) (v := .ref A7) (cv := .ref A7) hC rfl (pe_glob (by rfl) g7 rfl) (fun _ h => h) k7 B.isinstance) (ba_val (n_isE (i := 0) (v := .ref A6) (cv := .ref A6) hC rfl (pe_glob (by rfl) g6 rfl) (fun _ h => h) k6 B.isinstance) (ba_val (n_isE (i := 0) (v := .ref A5) (cv := .ref A5) hC rfl (pe_glob (by rfl) g5 rfl) (fun _ h => h) k5 B.isinstance) (ba_val (n_isE (i := 0) (v := .ref A4) (cv := .ref A4) hC rfl (pe_glob (by rfl) g4 rfl) (fun _ h => h) k4 B.isinstance) ba_nil)))))))))
      (ss_cons (s_set 1 (hL _ (by decide)) sc_law_kinds.nd (pe_en (nOp op_addA addA_ok (pe_bp (pp_var 1)) (pe_bn (n_lst (ba_val (n_isE (i := 0) (v := .ref A11) (cv := .ref A11) hC rfl (pe_glob (by rfl) g11 rfl) (fun _ h => h) k11 B.isinstance) (ba_val (n_isE (i := 0) (v := .ref A10) (cv := .ref A10) hC rfl (pe_glob (by rfl) g10 rfl) (fun _ h => h) k10 B.isinstance) (ba_val (n_isE (i := 0) (v := .ref A9) (cv := .ref A9) hC rfl (pe_glob (by rfl) g9 rfl) (fun _ h => h) k9 B.isinstance) (ba_val (n_isE (i := 0) (v := .ref A8) (cv := .ref A8) hC rfl (pe_glob (by rfl) g8 rfl) (fun _ h => h) k8 B.isinstance) ba_nil)))))))))
      (ss_cons (s_set 2 (hL _ (by decide)) sc_law_kinds.nd (e_lst (a_val (pe_en n_str) (a_val (pe_en n_str) (a_val (pe_en n_str) (a_val (pe_en n_str) (a_val (pe_en n_str) (a_val (pe_en n_str) (a_val (pe_en n_str) (a_val (pe_en n_str) (a_val (pe_en n_str) (a_val (pe_en n_str) a_nil))))))))))))
      (ss_cons (s_set 2 (hL _ (by decide)) sc_law_kinds.nd (pe_en (nOp op_addA addA_ok (pe_bp (pp_var 2)) (pe_bn (n_lst (ba_val n_str (ba_val n_str (ba_val n_str (ba_val n_str ba_nil)))))))))
      (ss_cons (s_set 1 (hL _ (by decide)) sc_law_kinds.nd (pe_en (nOp op_addA addA_ok (pe_bp (pp_var 1)) (pe_bn (n_lst (ba_val (n_isE (i := 0) (v := .ref A13) (cv := .ref A13) hC rfl (pe_glob (by rfl) g13 rfl) (fun _ h => h) k13 B.isinstance) (ba_val (n_isE (i := 0) (v := .ty "ValueError") (cv := .type "ValueError") hC rfl (pe_bltn (v := .ty "ValueError") (by rfl) B.ValueError rfl rfl) (fun _ h => h) k12 B.isinstance) ba_nil)))))))
      (ss_one (s_ret (e_join (e_lcRH (own := [("k", 3)]) hot sc_law_kinds.nd B.range (pe_en n_int) (blkOk_by (own := [("k", 3)]) (N := ["e", "some", "words", "k"]) (sc := defScope s_law_kinds) (by decide +kernel)) (fun _ _ _ _ _ _ => pg_name (i := 3) sc_law_kinds.nd rfl (Or.inl rfl)) (fun _ _ _ _ _ _ => tt_one (fun ar _ => (t_val (pe_en (nIx (pe_bp (pp_var 1)) (pe_bp (pp_var 3)) (fun _ _ => rfl)))))) (fun _ _ _ _ _ _ => ee_all (fun ar _ => (pe_en (nIx (pe_bp (pp_var 2)) (pe_bp (pp_var 3)) (fun _ _ => rfl)))))))))))))))
theorem ok_law_figures {f : Addr} {fd : FuncData} (F : Fun K "_law_figures" "_law_figures" s_law_figures f fd) (B : Bi mg) (D_law_take : DefOk P w (gx K cl okc) mg base 1 "_law_take" 2 m_law_take) : FnOk P w K mg base (L2N.CX P w) 2 f fd ["bag"] (spT (gx K cl okc) 1 m_law_figures) := by
  refine fn_okT (Γ := gx K cl okc) (k := 1) F sc_law_figures fun cdv A outer s H E ar hr hL0 => ?_
  have tk : L2N.Takes (cxOf (L2N.CX P w) P w (gx K cl okc).K mg base ["bag", "many", "k"] "_law_figures" (defScope s_law_figures) f cdv A outer s H E) (fun cls d _ H => E cls d H) := L2N.takes_of rfl rfl rfl rfl
  have po : PassesOwn (model P w) (cxOf (L2N.CX P w) P w (gx K cl okc).K mg base ["bag", "many", "k"] "_law_figures" (defScope s_law_figures) f cdv A outer s H E).A (cxOf (L2N.CX P w) P w (gx K cl okc).K mg base ["bag", "many", "k"] "_law_figures" (defScope s_law_figures) f cdv A outer s H E).env (cxOf (L2N.CX P w) P w (gx K cl okc).K mg base ["bag", "many", "k"] "_law_figures" (defScope s_law_figures) f cdv A outer s H E).xe := passes_of rfl
  have hL : Loc' [1, 2] ar := fun j hj => hL0 j (by revert j; decide)
  unfold b_law_figures
  exact (ss_cons (s_set 1 (hL _ (by decide)) sc_law_figures.nd (eIxA (hu1 hr) (e_lst (a_val (eOp' op_addA addA_ok (pe_en n_int) (e_call D_law_take (hr.mono (by decide)) tk (a_ref 0 (a_val (pe_en n_int) a_nil)))) (a_val (eOp' op_addA addA_ok (pe_en n_int) (e_call D_law_take (hr.mono (by decide)) tk (a_ref 0 (a_val (pe_en n_int) a_nil)))) (a_val (pe_en n_int) a_nil)))) (e_call D_law_take (hr.mono (by decide)) tk (a_ref 0 (a_val (pe_en n_int) a_nil))) (fun _ _ => rfl)))
      (ss_one (s_ret (e_join (e_lcR (own := [("k", 2)]) rfl sc_law_figures.nd B.range (pe_evar 1) (blkOk_by (own := [("k", 2)]) (N := ["bag", "many", "k"]) (sc := defScope s_law_figures) (by decide +kernel)) (fun _ _ _ _ _ => pg_name (i := 2) sc_law_figures.nd rfl (Or.inl rfl)) (fun _ _ _ _ _ => tt_nil) (fun _ _ _ _ _ => ee_all (fun ar _ => (eIxA (hu1 hr) (pe_en n_str) (e_call D_law_take (hr.mono (by decide)) takesN0 (a_ref 0 (a_val (pe_en n_int) a_nil))) (fun _ _ => rfl)))))))))
theorem ok_law_text {f : Addr} {fd : FuncData} (F : Fun K "_law_text" "_law_text" s_law_text f fd) (B : Bi mg) (D_law_take : DefOk P w (gx K cl okc) mg base 1 "_law_take" 2 m_law_take) (D_law_figures : DefOk P w (gx K cl okc) mg base 2 "_law_figures" 1 m_law_figures) : FnOk P w K mg base (L2N.CX P w) 3 f fd ["bag"] (spT (gx K cl okc) 1 m_law_text) := by
  refine fn_okT (Γ := gx K cl okc) (k := 2) F sc_law_text fun cdv A outer s H E ar hr hL0 => ?_
  have tk : L2N.Takes (cxOf (L2N.CX P w) P w (gx K cl okc).K mg base ["bag", "way", "many", "words", "k"] "_law_text" (defScope s_law_text) f cdv A outer s H E) (fun cls d _ H => E cls d H) := L2N.takes_of rfl rfl rfl rfl
  have po : PassesOwn (model P w) (cxOf (L2N.CX P w) P w (gx K cl okc).K mg base ["bag", "way", "many", "words", "k"] "_law_text" (defScope s_law_text) f cdv A outer s H E).A (cxOf (L2N.CX P w) P w (gx K cl okc).K mg base ["bag", "way", "many", "words", "k"] "_law_text" (defScope s_law_text) f cdv A outer s H E).env (cxOf (L2N.CX P w) P w (gx K cl okc).K mg base ["bag", "way", "many", "words", "k"] "_law_text" (defScope s_law_text) f cdv A outer s H E).xe := passes_of rfl
  have hL : Loc' [1, 2, 3, 4] ar := fun j hj => hL0 j (by revert j; decide)
  unfold b_law_text
  exact (ss_cons (s_set 1 (hL _ (by decide)) sc_law_text.nd (e_call D_law_take (hr.mono (by decide)) tk (a_ref 0 (a_val (pe_en n_int) a_nil))))
      (ss_cons (s_if (t_cmpN op_lt ltT_ok (pe_bp (pp_var 1)) (pe_bn n_int) (nomark _)) (ss_one (s_ret (eOp' op_addA addA_ok (pe_en (pe_nb (b_ix (hu1 hr) (pe_bn (n_lst (ba_val n_str (ba_val n_str ba_nil)))) (pe_bp (pp_var 1)) (fun _ _ => rfl)))) (e_call D_law_figures (hr.mono (by decide)) tk (a_ref 0 a_nil))))) ss_nil)
      (ss_cons (s_set 2 (hL _ (by decide)) sc_law_text.nd (eIxA (hu1 hr) (e_lst (a_val (e_call D_law_take (hr.mono (by decide)) tk (a_ref 0 (a_val (pe_en n_int) a_nil))) (a_val (eOp' op_addA addA_ok (pe_en n_int) (e_call D_law_take (hr.mono (by decide)) tk (a_ref 0 (a_val (pe_en n_int) a_nil)))) a_nil))) (e_intc B.int (eCmpEB (op_eqD hr.units) eqT_ok (e_call D_law_take (hr.mono (by decide)) tk (a_ref 0 (a_val (pe_en n_int) a_nil))) (pe_bn n_int) (nomark _))) (fun _ _ => rfl)))
      (ss_cons (s_lcR (own := [("k", 4)]) 3 (hL _ (by decide)) rfl sc_law_text.nd B.range (sw_true rfl rfl rfl (by decide +kernel)) (pe_evar 2) (blkOk_by (own := [("k", 4)]) (N := ["bag", "way", "many", "words", "k"]) (sc := defScope s_law_text) (by decide +kernel)) (fun _ _ _ _ _ => pg_name (i := 4) sc_law_text.nd rfl (Or.inl rfl)) (fun _ _ _ _ _ => tt_nil) (fun _ _ _ _ _ => ee_all (fun ar _ => (e_str1 B.str (eOp' op_addA addA_ok (pe_en (nOp op_mulT mulT_ok (pe_bn n_int) (pe_bp (pp_var 4)))) (e_call D_law_take (hr.mono (by decide)) takesN0 (a_ref 0 (a_val (pe_en n_int) a_nil))))))))
      (ss_cons (s_if (L2.PW.pt (w_and (t_cmpN (op_eqD hr.units) eqT_ok (pe_bp (pp_var 1)) (pe_bn n_int) (nomark _)) (w_one_and (t_cmpN op_gt gtT_ok (pe_bp (pp_var 2)) (pe_bn n_int) (nomark _))))) (ss_one (s_setVE 3 (e_call D_law_take (hr.mono (by decide)) tk (a_ref 0 (a_ref 2 a_nil))) (eIxVE 3 (e_call D_law_take (hr.mono (by decide)) tk (a_ref 0 (a_ref 2 a_nil))) (fun _ _ => rfl)))) ss_nil)
      (ss_one (s_ret (eIxEB (hu1 hr) (e_lst (a_val (pe_en n_str) (a_val (e_join (pe_evar 3)) a_nil))) (pe_bn (n_intc B.int (pe_bn (nCmp op_gt gtT_ok (pe_bp (pp_var 2)) (pe_bn n_int) (nomark _))))) (fun _ _ => rfl)))))))))
theorem ok_law_spoilt {f : Addr} {fd : FuncData} (F : Fun K "_law_spoilt" "_law_spoilt" s_law_spoilt f fd) (B : Bi mg) (D_law_take : DefOk P w (gx K cl okc) mg base 1 "_law_take" 2 m_law_take) : FnOk P w K mg base (L2N.CX P w) 2 f fd ["bag", "text"] (spT (gx K cl okc) 2 m_law_spoilt) := by
  refine fn_okT (Γ := gx K cl okc) (k := 1) F sc_law_spoilt fun cdv A outer s H E ar hr hL0 => ?_
  have tk : L2N.Takes (cxOf (L2N.CX P w) P w (gx K cl okc).K mg base ["bag", "text", "signs", "way", "sign", "at"] "_law_spoilt" (defScope s_law_spoilt) f cdv A outer s H E) (fun cls d _ H => E cls d H) := L2N.takes_of rfl rfl rfl rfl
  have po : PassesOwn (model P w) (cxOf (L2N.CX P w) P w (gx K cl okc).K mg base ["bag", "text", "signs", "way", "sign", "at"] "_law_spoilt" (defScope s_law_spoilt) f cdv A outer s H E).A (cxOf (L2N.CX P w) P w (gx K cl okc).K mg base ["bag", "text", "signs", "way", "sign", "at"] "_law_spoilt" (defScope s_law_spoilt) f cdv A outer s H E).env (cxOf (L2N.CX P w) P w (gx K cl okc).K mg base ["bag", "text", "signs", "way", "sign", "at"] "_law_spoilt" (defScope s_law_spoilt) f cdv A outer s H E).xe := passes_of rfl
  have hL : Loc' [2, 3, 4, 5] ar := fun j hj => hL0 j (by revert j; decide)
  unfold b_law_spoilt
  exact (ss_cons (s_set 2 (hL _ (by decide)) sc_law_spoilt.nd (pe_en n_str))
      (ss_cons (s_set 3 (hL _ (by decide)) sc_law_spoilt.nd (e_call D_law_take (hr.mono (by decide)) tk (a_ref 0 (a_val (pe_en n_int) a_nil))))
      (ss_cons (s_set 4 (hL _ (by decide)) sc_law_spoilt.nd (eIxA (hu1 hr) (e_lst (a_val (eIxVE 2 (e_call D_law_take (hr.mono (by decide)) tk (a_ref 0 (a_val (pe_en n_int) a_nil))) (fun _ _ => rfl)) (a_val (pe_en n_str) (a_val (pe_en n_str) (a_val (pe_en n_str) a_nil))))) (e_call D_law_take (hr.mono (by decide)) tk (a_ref 0 (a_val (pe_en n_int) a_nil))) (fun _ _ => rfl)))
      (ss_cons (s_set 5 (hL _ (by decide)) sc_law_spoilt.nd (e_call D_law_take (hr.mono (by decide)) tk (a_ref 0 (a_val (pe_en (nOp op_addA addA_ok (pe_bn (n_len B.len (pe_bp (pp_var 1)))) (pe_bn n_int))) a_nil))))
      (ss_cons (s_if (t_cmpN (op_eqD hr.units) eqT_ok (pe_bp (pp_var 3)) (pe_bn n_int) (nomark _)) (ss_one (s_ret (pe_en (nOp op_addA addA_ok (pe_bn (n_slB (pe_bp (pp_var 1)) po_n (po_s (pe_bp (pp_var 5))))) (pe_bn (n_slB (pe_bp (pp_var 1)) (po_s (pe_bn (nOp op_addA addA_ok (pe_bp (pp_var 5)) (pe_bn n_int)))) po_n)))))) ss_nil)
      (ss_cons (s_if (t_cmpN (op_eqD hr.units) eqT_ok (pe_bp (pp_var 3)) (pe_bn n_int) (nomark _)) (ss_one (s_ret (pe_en (nOp op_addA addA_ok (pe_bn (n_slB (pe_bp (pp_var 1)) po_n (po_s (pe_bn (nOp op_addA addA_ok (pe_bp (pp_var 5)) (pe_bn n_int)))))) (pe_bn (n_slB (pe_bp (pp_var 1)) (po_s (pe_bp (pp_var 5))) po_n)))))) ss_nil)
      (ss_cons (s_if (t_cmpN (op_eqD hr.units) eqT_ok (pe_bp (pp_var 3)) (pe_bn n_int) (nomark _)) (ss_one (s_ret (pe_en (nOp op_addA addA_ok (pe_bn (nOp op_addA addA_ok (pe_bn (n_slB (pe_bp (pp_var 1)) po_n (po_s (pe_bp (pp_var 5))))) (pe_bp (pp_var 4)))) (pe_bn (n_slB (pe_bp (pp_var 1)) (po_s (pe_bp (pp_var 5))) po_n)))))) ss_nil)
      (ss_cons (s_if (t_cmpN (op_eqD hr.units) eqT_ok (pe_bp (pp_var 3)) (pe_bn n_int) (nomark _)) (ss_one (s_ret (pe_en (nOp op_addA addA_ok (pe_bn (nOp op_addA addA_ok (pe_bn (n_slB (pe_bp (pp_var 1)) po_n (po_s (pe_bp (pp_var 5))))) (pe_bp (pp_var 4)))) (pe_bn (n_slB (pe_bp (pp_var 1)) (po_s (pe_bn (nOp op_addA addA_ok (pe_bp (pp_var 5)) (pe_bn n_int)))) po_n)))))) ss_nil)
      (ss_one (s_ret (pe_evar 1)))))))))))
theorem ok_law_number {f : Addr} {fd : FuncData} (F : Fun K "_law_number" "_law_number" s_law_number f fd) (B : Bi mg) : FnOk P w K mg base (L2N.CX P w) 1 f fd ["text"] (spT (gx K cl okc) 1 m_law_number) := by
  refine fn_okT (Γ := gx K cl okc) (k := 0) F sc_law_number fun cdv A outer s H E ar hr hL0 => ?_
  have tk : L2N.Takes (cxOf (L2N.CX P w) P w (gx K cl okc).K mg base ["text", "sign"] "_law_number" (defScope s_law_number) f cdv A outer s H E) (fun cls d _ H => E cls d H) := L2N.takes_of rfl rfl rfl rfl
  have po : PassesOwn (model P w) (cxOf (L2N.CX P w) P w (gx K cl okc).K mg base ["text", "sign"] "_law_number" (defScope s_law_number) f cdv A outer s H E).A (cxOf (L2N.CX P w) P w (gx K cl okc).K mg base ["text", "sign"] "_law_number" (defScope s_law_number) f cdv A outer s H E).env (cxOf (L2N.CX P w) P w (gx K cl okc).K mg base ["text", "sign"] "_law_number" (defScope s_law_number) f cdv A outer s H E).xe := passes_of rfl
  have hL : Loc' [1] ar := fun j hj => hL0 j (by revert j; decide)
  unfold b_law_number
  exact (ss_cons (s_if (L2.PW.pt (w_or (t_not (t_val (pe_en (n_isi (n := "str") (by decide) B.isinstance B.str (by decide +kernel) (pe_bp (pp_var 0)))))) (w_or (t_cmpN op_lt ltT_ok (pe_bn (n_len B.len (pe_bp (pp_var 0)))) (pe_bn n_int) (nomark _)) (w_one_or (t_cmpN op_gt gtT_ok (pe_bn (n_len B.len (pe_bp (pp_var 0)))) (pe_bn n_int) (nomark _)))))) (ss_one (s_ret (pe_en n_non))) ss_nil)
      (ss_cons (s_if (L2.PW.pt (w_or (t_cmpN (op_neD hr.units) neT_ok (pe_bn (n_lcS (own := [("sign", 1)]) rfl sc_law_number.nd (fun ar h => tgwN (j := 1) (by decide) (h 1 (by decide))) (pe_bp (pp_var 0)) (blkOk_by (own := [("sign", 1)]) (N := ["text", "sign"]) (sc := defScope s_law_number) (by decide +kernel)) (fun _ _ _ _ _ => (pg_name (i := 1) sc_law_number.nd rfl (Or.inl rfl))) (fun _ _ _ _ _ => tb_one (fun ar _ => (tb_cmp op_notInS notInS_ok (pe_bp (pp_var 1)) (pe_bn n_str) (by rfl)))) (fun _ _ _ _ _ => en_all (fun ar _ => (pe_nb (pe_bp (pp_var 1))))))) (pe_bn (n_lst ba_nil)) (nomark _)) (w_one_or (L2.PW.pt (w_and (t_cmpN (op_eqD hr.units) eqT_ok (b_ix (hu1 hr) (pe_bp (pp_var 0)) (pe_bn n_int) (fun _ _ => rfl)) (pe_bn n_str) (nomark _)) (w_one_and (t_cmpN (op_neD hr.units) neT_ok (pe_bp (pp_var 0)) (pe_bn n_str) (nomark _)))))))) (ss_one (s_ret (pe_en n_non))) ss_nil)
      (ss_one (s_ret (pe_en (n_intS B.int (pe_bp (pp_var 0))))))))
theorem ok_law_due {f : Addr} {fd : FuncData} (F : Fun K "_law_due" "_law_due" s_law_due f fd) (B : Bi mg) (D_law_number : DefOk P w (gx K cl okc) mg base 1 "_law_number" 1 m_law_number) : FnOk P w K mg base (L2N.CX P w) 2 f fd ["which", "text"] (spT (gx K cl okc) 2 m_law_due) := by
  refine fn_okT (Γ := gx K cl okc) (k := 1) F sc_law_due fun cdv A outer s H E ar hr hL0 => ?_
  have tk : L2N.Takes (cxOf (L2N.CX P w) P w (gx K cl okc).K mg base ["which", "text", "pages", "number", "word"] "_law_due" (defScope s_law_due) f cdv A outer s H E) (fun cls d _ H => E cls d H) := L2N.takes_of rfl rfl rfl rfl
  have po : PassesOwn (model P w) (cxOf (L2N.CX P w) P w (gx K cl okc).K mg base ["which", "text", "pages", "number", "word"] "_law_due" (defScope s_law_due) f cdv A outer s H E).A (cxOf (L2N.CX P w) P w (gx K cl okc).K mg base ["which", "text", "pages", "number", "word"] "_law_due" (defScope s_law_due) f cdv A outer s H E).env (cxOf (L2N.CX P w) P w (gx K cl okc).K mg base ["which", "text", "pages", "number", "word"] "_law_due" (defScope s_law_due) f cdv A outer s H E).xe := passes_of rfl
  have hL : Loc' [2, 3, 4] ar := fun j hj => hL0 j (by revert j; decide)
  unfold b_law_due
  exact (ss_cons (s_if (L2.PW.pt (w_or (t_cmpN (op_eqD hr.units) eqT_ok (pe_bp (pp_var 0)) (pe_bn n_int) (nomark _)) (w_one_or (t_not (t_val (pe_en (n_isi (n := "str") (by decide) B.isinstance B.str (by decide +kernel) (pe_bp (pp_var 1))))))))) (ss_one (s_ret (e_call D_law_number (hr.mono (by decide)) tk (a_ref 1 a_nil)))) ss_nil)
      (ss_cons (s_if (t_cmpN (op_eqD hr.units) eqT_ok (pe_bp (pp_var 0)) (pe_bn n_int) (nomark _)) (ss_cons (s_if (t_cmpN (op_neD hr.units) neT_ok (pe_bn (n_slA (pe_bp (pp_var 1)) lit_none lit_int)) (pe_bn n_str) (nomark _)) (ss_one (s_ret (e_call D_law_number (hr.mono (by decide)) tk (a_ref 1 a_nil)))) ss_nil)
      (ss_cons (s_set 3 (hL _ (by decide)) sc_law_due.nd (e_call D_law_number (hr.mono (by decide)) tk (a_val (pe_en (n_slA (pe_bp (pp_var 1)) lit_int lit_none)) a_nil)))
      (ss_one (s_ret (pe_en (pe_nb (b_ix (hu1 hr) (pe_bn (n_lst (ba_val n_non (ba_val (nOp op_sub subT_ok (pe_bn n_int) (b_ix (hu1 hr) (pe_bn (n_lst (ba_ref 3 (ba_val n_int ba_nil)))) (pe_bn (n_intc B.int (pe_bn (nCmp op_isA isA_ok (pe_bp (pp_var 3)) (pe_bn n_non) (nomark _))))) (fun _ _ => rfl))) ba_nil)))) (pe_bn (n_intc B.int (b_and (pe_bn (nCmp op_isNotA isNotA_ok (pe_bp (pp_var 3)) (pe_bn n_non) (nomark _))) (pe_one (pe_bn (nCmp (op_neD hr.units) neT_ok (pe_bp (pp_var 3)) (pe_bn n_int) (nomark _))))))) (fun _ _ => rfl)))))))) ss_nil)
      (ss_cons (s_if (t_cmpN (op_eqD hr.units) eqT_ok (pe_bp (pp_var 1)) (pe_bn n_str) (nomark _)) (ss_one (s_ret (e_lst a_nil))) ss_nil)
      (ss_cons (s_lcE (own := [("word", 4)]) 2 (hL _ (by decide)) rfl sc_law_due.nd (sw_true rfl rfl rfl (by decide +kernel)) (pe_en (n_split (pe_bp (pp_var 1)) (pe_bn n_str))) (blkOk_by (own := [("word", 4)]) (N := ["which", "text", "pages", "number", "word"]) (sc := defScope s_law_due) (by decide +kernel)) (fun _ _ _ _ _ => pg_name (i := 4) sc_law_due.nd rfl (Or.inl rfl)) (fun _ _ _ _ _ => tt_nil) (fun _ _ _ _ _ => ee_all (fun ar _ => (e_call D_law_number (hr.mono (by decide)) takesN0 (a_ref 4 a_nil)))))
      (ss_cons (s_if (L2.PW.pt (w_or (t_cmpN (op_inA (hu65 hr)) inA_ok (pe_bn n_non) (pe_bp (pp_var 2)) (by rfl)) (w_or (t_cmpN op_gt gtT_ok (pe_bn (n_len B.len (pe_bp (pp_var 2)))) (pe_bn n_int) (nomark _)) (w_one_or (t_cmpN op_lt ltT_ok (pe_bn (n_lsetD B.len B.set (pe_bp (pp_var 2)))) (pe_bn (n_len B.len (pe_bp (pp_var 2)))) (nomark _)))))) (ss_one (s_ret (pe_en n_non))) ss_nil)
      (ss_one (s_ret (pe_evar 2))))))))
theorem ok_law_tried {f : Addr} {fd : FuncData} (F : Fun K "_law_tried" "_law_tried" s_law_tried f fd) (B : Bi mg) (KD : KindsOk P w (gx K cl okc) mg base 1 "_law_kinds" "CallError" kn) (D_read_number : DefOk P w (gx K cl okc) mg base 1 "read_number" 1 m_read_number) (D_read_signed : DefOk P w (gx K cl okc) mg base 2 "read_signed" 1 m_read_signed) (D_read_pages : DefOk P w (gx K cl okc) mg base 2 "read_pages" 1 m_read_pages) : FnOk P w K mg base (L2N.CX P w) 3 f fd ["which", "text"] (spT (gx K cl okc) 2 m_law_tried) := by
  refine fn_okT (Γ := gx K cl okc) (k := 2) F sc_law_tried fun cdv A outer s H E ar hr hL0 => ?_
  have tk : L2N.Takes (cxOf (L2N.CX P w) P w (gx K cl okc).K mg base ["which", "text", "kind", "told", "e"] "_law_tried" (defScope s_law_tried) f cdv A outer s H E) (fun cls d _ H => E cls d H) := L2N.takes_of rfl rfl rfl rfl
  have po : PassesOwn (model P w) (cxOf (L2N.CX P w) P w (gx K cl okc).K mg base ["which", "text", "kind", "told", "e"] "_law_tried" (defScope s_law_tried) f cdv A outer s H E).A (cxOf (L2N.CX P w) P w (gx K cl okc).K mg base ["which", "text", "kind", "told", "e"] "_law_tried" (defScope s_law_tried) f cdv A outer s H E).env (cxOf (L2N.CX P w) P w (gx K cl okc).K mg base ["which", "text", "kind", "told", "e"] "_law_tried" (defScope s_law_tried) f cdv A outer s H E).xe := passes_of rfl
  have hL : Loc' [2, 3, 4] ar := fun j hj => hL0 j (by revert j; decide)
  unfold b_law_tried
  exact (ss_cons (s_set 2 (hL _ (by decide)) sc_law_tried.nd (pe_en n_str))
      (ss_cons (s_set 3 (hL _ (by decide)) sc_law_tried.nd (pe_en n_non))
      (ss_cons (s_tryK KD (hr.mono (by decide)) tk (hL 4 (by decide)) (hL 2 (by decide)) sc_law_tried.nd (fun W pn xe tk po => (ss_one (s_if (t_cmpN (op_eqD hr.units) eqT_ok (pe_bp (pp_var 0)) (pe_bn n_int) (nomark _)) (ss_one (s_set 3 (hL _ (by decide)) sc_law_tried.nd (e_call D_read_number (hr.mono (by decide)) tk (a_ref 1 a_nil)))) (ss_one (s_if (t_cmpN (op_eqD hr.units) eqT_ok (pe_bp (pp_var 0)) (pe_bn n_int) (nomark _)) (ss_one (s_set 3 (hL _ (by decide)) sc_law_tried.nd (e_call D_read_signed (hr.mono (by decide)) tk (a_ref 1 a_nil)))) (ss_one (s_set 3 (hL _ (by decide)) sc_law_tried.nd (e_call D_read_pages (hr.mono (by decide)) tk (a_ref 1 a_nil))))))))))
      (ss_one (s_ret (e_lst (a_val (pe_evar 2) (a_val (pe_evar 3) a_nil))))))))
theorem ok_law_right {f : Addr} {fd : FuncData} (F : Fun K "_law_right" "_law_right" s_law_right f fd) (B : Bi mg) (D_law_due : DefOk P w (gx K cl okc) mg base 2 "_law_due" 2 m_law_due) (D_law_tried : DefOk P w (gx K cl okc) mg base 3 "_law_tried" 2 m_law_tried) (D_law_whole : DefOk P w (gx K cl okc) mg base 1 "_law_whole" 1 m_law_whole) : FnOk P w K mg base (L2N.CX P w) 4 f fd ["which", "text"] (spT (gx K cl okc) 2 m_law_right) := by
  refine fn_okT (Γ := gx K cl okc) (k := 3) F sc_law_right fun cdv A outer s H E ar hr hL0 => ?_
  have tk : L2N.Takes (cxOf (L2N.CX P w) P w (gx K cl okc).K mg base ["which", "text", "due", "found", "one"] "_law_right" (defScope s_law_right) f cdv A outer s H E) (fun cls d _ H => E cls d H) := L2N.takes_of rfl rfl rfl rfl
  have po : PassesOwn (model P w) (cxOf (L2N.CX P w) P w (gx K cl okc).K mg base ["which", "text", "due", "found", "one"] "_law_right" (defScope s_law_right) f cdv A outer s H E).A (cxOf (L2N.CX P w) P w (gx K cl okc).K mg base ["which", "text", "due", "found", "one"] "_law_right" (defScope s_law_right) f cdv A outer s H E).env (cxOf (L2N.CX P w) P w (gx K cl okc).K mg base ["which", "text", "due", "found", "one"] "_law_right" (defScope s_law_right) f cdv A outer s H E).xe := passes_of rfl
  have hL : Loc' [2, 3, 4] ar := fun j hj => hL0 j (by revert j; decide)
  unfold b_law_right
  exact (ss_cons (s_set 2 (hL _ (by decide)) sc_law_right.nd (e_lockA (e_call D_law_due (hr.mono (by decide)) tk (a_ref 0 (a_ref 1 a_nil)))))
      (ss_cons (s_set 3 (hL _ (by decide)) sc_law_right.nd (e_call D_law_tried (hr.mono (by decide)) tk (a_ref 0 (a_ref 1 a_nil))))
      (ss_cons (s_if (t_cmpN op_isA isA_ok (pe_bp (pp_var 2)) (pe_bn n_non) (nomark _)) (ss_one (s_ret (pe_en (nCmp (op_eqD hr.units) eqT_ok (pe_bp (pp_var 3)) (pe_bn (n_lst (ba_val n_str (ba_val n_non ba_nil)))) (nomark _))))) ss_nil)
      (ss_cons (s_if (L2.PW.pt (w_and (t_cmpN op_lt ltT_ok (pe_bp (pp_var 0)) (pe_bn n_int) (nomark _)) (w_one_and (t_not (t_val (e_call D_law_whole (hr.mono (by decide)) tk (a_val (pe_en (pe_nb (b_ix (hu1 hr) (pe_bp (pp_var 3)) (pe_bn n_int) (fun _ _ => rfl)))) a_nil))))))) (ss_one (s_ret (pe_en n_bl))) ss_nil)
      (ss_one (s_ret (e_and (pe_en (nCmp (op_eqD hr.units) eqT_ok (pe_bp (pp_var 3)) (pe_bn (n_lst (ba_val n_str (ba_ref 2 ba_nil)))) (nomark _))) (pe_one (e_or (pe_en (nCmp op_lt ltT_ok (pe_bp (pp_var 0)) (pe_bn n_int) (nomark _))) (pe_one (eCmpEB (op_eqD hr.units) eqT_ok (e_lcP (own := [("one", 4)]) 3 rfl sc_law_right.nd (p_ixA (hu1 hr) (pp_var 3) (pe_bn n_int) (fun _ _ => rfl)) (blkOk_by (own := [("one", 4)]) (N := ["which", "text", "due", "found", "one"]) (sc := defScope s_law_right) (by decide +kernel)) (fun _ _ _ _ _ => pg_name (i := 4) sc_law_right.nd rfl (Or.inl rfl)) (fun _ _ _ _ _ => tt_one (fun ar _ => (t_not (t_val (e_call D_law_whole (hr.mono (by decide)) takesN0 (a_ref 4 a_nil)))))) (fun _ _ _ _ _ => ee_all (fun ar _ => (pe_evar 4)))) (pe_bn (n_lst ba_nil)) (nomark _))))))))))))
theorem ok_law {f : Addr} {fd : FuncData} (F : Fun K "law" "law" s_law f fd) (B : Bi mg) (D_law_bag : DefOk P w (gx K cl okc) mg base 1 "_law_bag" 2 m_law_bag) (D_law_spoilt : DefOk P w (gx K cl okc) mg base 2 "_law_spoilt" 2 m_law_spoilt) (D_law_text : DefOk P w (gx K cl okc) mg base 3 "_law_text" 1 m_law_text) (D_law_right : DefOk P w (gx K cl okc) mg base 4 "_law_right" 2 m_law_right) : FnOk P w K mg base (L2N.CX P w) 5 f fd ["script"] (spT (gx K cl okc) 1 m_law) := by
  refine fn_okT (Γ := gx K cl okc) (k := 4) F sc_law fun cdv A outer s H E ar hr hL0 => ?_
  have tk : L2N.Takes (cxOf (L2N.CX P w) P w (gx K cl okc).K mg base ["script", "k", "thing", "bag", "text", "which"] "law" (defScope s_law) f cdv A outer s H E) (fun cls d _ H => E cls d H) := L2N.takes_of rfl rfl rfl rfl
  have po : PassesOwn (model P w) (cxOf (L2N.CX P w) P w (gx K cl okc).K mg base ["script", "k", "thing", "bag", "text", "which"] "law" (defScope s_law) f cdv A outer s H E).A (cxOf (L2N.CX P w) P w (gx K cl okc).K mg base ["script", "k", "thing", "bag", "text", "which"] "law" (defScope s_law) f cdv A outer s H E).env (cxOf (L2N.CX P w) P w (gx K cl okc).K mg base ["script", "k", "thing", "bag", "text", "which"] "law" (defScope s_law) f cdv A outer s H E).xe := passes_of rfl
  have hL : Loc' [1, 2, 3, 4, 5] ar := fun j hj => hL0 j (by revert j; decide)
  unfold b_law
  exact (ss_cons (s_forR po rfl (tgN_ok (hL _ (by decide))) B.range (pe_en (nOp op_addA addA_ok (pe_bn (n_min rfl B.min (pe_bn (n_len B.len (pe_bp (pp_var 0)))) (pe_bn n_int))) (pe_bn n_int))) (pg_name (i := 1) sc_law.nd rfl (Or.inl rfl)) (ss_cons (s_set 3 (hL _ (by decide)) sc_law.nd (e_call D_law_bag (hr.mono (by decide)) tk (a_ref 0 (a_ref 1 a_nil))))
      (ss_cons (s_set 4 (hL _ (by decide)) sc_law.nd (e_call D_law_spoilt (hr.mono (by decide)) tk (a_ref 3 (a_val (e_call D_law_text (hr.mono (by decide)) tk (a_ref 3 a_nil)) a_nil))))
      (ss_one (s_forR po rfl (tgN_ok (hL _ (by decide))) B.range (pe_en n_int) (pg_name (i := 5) sc_law.nd rfl (Or.inl rfl)) (ss_one (s_if (t_not (t_val (e_call D_law_right (hr.mono (by decide)) tk (a_ref 5 (a_ref 4 a_nil))))) (ss_one (s_ret (pe_en n_bl))) ss_nil)))))))
      (ss_cons (s_forE po rfl (tgN_ok (hL _ (by decide))) (e_lst (a_val (pe_en n_non) (a_val (pe_en n_int) (a_val (pe_en n_bl) (a_val (pe_en (n_tup (ba_val n_str ba_nil))) (a_val (pe_en (n_lock (n_lst (ba_val n_str ba_nil)))) (a_val (pe_en n_str) (a_val (pe_en n_str) (a_val (pe_en n_str) (a_val (pe_en n_str) (a_val (pe_en n_str) (a_val (pe_en n_str) (a_val (pe_en n_str) (a_val (pe_en n_str) a_nil)))))))))))))) (pg_name (i := 2) sc_law.nd rfl (Or.inl rfl)) (ss_one (s_forR po rfl (tgN_ok (hL _ (by decide))) B.range (pe_en n_int) (pg_name (i := 5) sc_law.nd rfl (Or.inl rfl)) (ss_one (s_if (t_not (t_val (e_call D_law_right (hr.mono (by decide)) tk (a_ref 5 (a_ref 2 a_nil))))) (ss_one (s_ret (pe_en n_bl))) ss_nil)))))
      (ss_one (s_ret (pe_en n_bl)))))
end
end K23
namespace K23
open PySem L2 VT
theorem kAnd_ex {fb : EF} {c : Nat} {S : TSt} : kAnd fb (.ex c, S) = some (.ex c, S) := rfl
theorem kOr_ex {fb : EF} {c : Nat} {S : TSt} : kOr fb (.ex c, S) = some (.ex c, S) := rfl
theorem kNot_ex {c : Nat} {S : TSt} : kNot (.ex c, S) = some (.ex c, S) := rfl
theorem kIf_ex {s u : SF} {c : Nat} {S : TSt} : kIf s u (.ex c, S) = some (.ex c, S) := rfl
theorem kOpB_ex {f : T → T → Option T} {gb : BF} {c : Nat} {S : TSt} : kOpB f gb (.ex c, S) = some (.ex c, S) := rfl
theorem kA1_ex {fs : AF} {c : Nat} {S : TSt} : kA1 fs (.ex c, S) = some (.ex c, S) := rfl
theorem kD1_ex {k : Kd} {c : Nat} {S : TSt} : kD1 k (.ex c, S) = some (.ex c, S) := rfl
theorem ok_iff {z : Str} : PyData.strOk z = true ↔ ∀ c ∈ z.cps.toList, c < 0x110000 := by
  unfold PyData.strOk
  rw [← Array.all_toList, List.all_eq_true]
  simp only [decide_eq_true_eq]
theorem ok_sub {z : Str} {i j : Nat} (h : PyData.strOk z = true) : PyData.strOk (PySem.Builtin.Str.strSub z i j) = true := by
  rw [ok_iff] at h ⊢
  intro c hc
  rw [PySem.StrLaws.strSub_toList] at hc
  exact h c (List.mem_of_mem_drop (List.mem_of_mem_take hc))
theorem ok_from (x : Str) (w : Nat) (h : PyData.strOk x = true) : ∀ (cuts : List Nat) (a : Nat), ∀ p ∈ PySem.StrLaws.partsFrom x w a cuts, PyData.strOk p = true
  | [], a, p, hp => by rw [List.mem_singleton.mp hp]; exact ok_sub h
  | c :: r, a, p, hp => by
    rcases List.mem_cons.mp hp with rfl | hp'
    · exact ok_sub h
    · exact ok_from x w h r _ p hp'
theorem split_ok {x y a : Str} (hx : PyData.strOk x = true) (h : a ∈ Txt.split x y) : PyData.strOk a = true := by
  unfold Txt.split at h
  split at h
  · rw [List.mem_singleton.mp h]; exact hx
  · split at h
    · rw [List.mem_singleton.mp h]; exact hx
    · rw [PySem.StrLaws.partsBetween_eq] at h
      exact ok_from x _ hx _ _ a h
theorem cut_list (z : Str) (lo hi : Option Int) : (cutS z lo hi).cps.toList = (z.cps.toList.drop (HT.sIx z.length 0 lo)).take (HT.sIx z.length z.length hi - HT.sIx z.length 0 lo) := by
  unfold cutS
  exact List.toList_toArray
theorem cut_ok {z : Str} (lo hi : Option Int) (h : PyData.strOk z = true) : PyData.strOk (cutS z lo hi) = true := by
  rw [ok_iff] at h ⊢
  intro c hc
  rw [cut_list] at hc
  exact h c (List.mem_of_mem_drop (List.mem_of_mem_take hc))
theorem len_list (z : Str) : z.length = z.cps.toList.length := by
  rw [Array.length_toList]
  try rfl
theorem cut_len (z : Str) (lo hi : Option Int) : (cutS z lo hi).length ≤ z.length := by
  rw [len_list, len_list z, cut_list]
  rw [List.length_take, List.length_drop]
  omega
theorem lenT_s {z : Str} (h : z.length ≤ 100000) : lenT (.str z) = some (.int (z.length : Int)) := if_pos h
theorem slA_s {z : Str} {lo hi : Option Int} (h : z.length ≤ 100000) : slA lo hi (.str z) = some (.str (cutS z lo hi)) := by
  show (if z.length ≤ 100000 then some (T.str (cutS z lo hi)) else none) = _
  rw [if_pos h]
abbrev sg (c : Nat) : Str := ⟨#[c]⟩
abbrev FG : Str := "0123456789"
theorem fg_cps : FG.cps.toList = [48, 49, 50, 51, 52, 53, 54, 55, 56, 57] := by decide +kernel
def bdC (c : Nat) : Bool := !decide (c ∈ FG.cps.toList)
theorem bd_no {c : Nat} : bdC c = false ↔ 48 ≤ c ∧ c ≤ 57 := by
  unfold bdC
  rw [fg_cps]
  simp only [Bool.not_eq_false', decide_eq_true_eq, List.mem_cons, List.not_mem_nil, or_false]
  omega
def badS (z : Str) : Bool := z.cps.toList.any bdC
def leadS (z : Str) : Bool := (z.cps.toList.head? == some 48) && !(z == ("0" : Str))
def numO (z : Str) : Option Int := if z.length = 0 ∨ 40 < z.length ∨ badS z = true ∨ leadS z = true then none else intText? z
theorem nil_iff {z : Str} : (z == ("" : Str)) = true ↔ z.length = 0 := by
  rw [beq_iff_eq, len_list]
  constructor
  · rintro rfl
    rfl
  · intro h
    exact str_ext (by rw [List.length_eq_zero_iff.mp h]; rfl)
theorem int_dg {z : Str} (h : badS z = false) (h1 : z.length ≠ 0) (h2 : z.length ≤ 40) : ∃ n : Nat, intText? z = some (n : Int) := by
  refine ⟨_, intText_digits (fun c hc => ?_) (fun e => h1 (by rw [len_list, e]; rfl)) (by omega)⟩
  unfold badS at h
  rw [List.any_eq_false] at h
  have := h c hc
  exact bd_no.mp (by simpa using this)
theorem intS_s {z : Str} {i : Int} (hl : z.length ≤ 40) (h : intText? z = some i) : intS (.str z) = some (.int i) := by
  show (if z.length ≤ 640 then (intText? z).bind fun n => some (T.int n) else none) = _
  rw [if_pos (by omega), h]
  try rfl
theorem ok_sg {c : Nat} (h : c < 0x110000) : PyData.strOk (sg c) = true := by
  rw [ok_iff]
  intro d hd
  have : d = c := by simpa [sg] using hd
  omega
theorem head_ex {z : Str} (h : z.length ≠ 0) (hz : PyData.strOk z = true) : ∃ c, z.cps.toList.head? = some c ∧ c < 0x110000 ∧ (z.length ≤ 100000 → ixB (.str z) (.int 0) = some (.str (sg c))) := by
  cases e : z.cps.toList with
  | nil => exact absurd (by rw [len_list, e]; rfl) h
  | cons c r =>
    refine ⟨c, rfl, (ok_iff.mp hz) c (by rw [e]; exact List.mem_cons_self), fun hl => ?_⟩
    show (if z.length ≤ 100000 then (atI z.cps.toList 0).bind fun c => some (T.str ⟨#[c]⟩) else none) = _
    rw [if_pos hl, e]
    have e2 : atI (c :: r) 0 = some c := by
      have e3 : ixN (c :: r).length 0 = some 0 := by
        unfold ixN
        rw [List.length_cons]
        simp
        try omega
      unfold atI
      rw [e3]
      try rfl
    rw [e2]
    try rfl
theorem eq_0 {c : Nat} : ((sg c) == ("0" : Str)) = (c == 48) := by
  rw [Bool.eq_iff_iff, beq_iff_eq, beq_iff_eq]
  constructor
  · intro h
    have := congrArg (fun z : Str => z.cps.toList) h
    have e : (("0" : Str).cps.toList) = [48] := by decide +kernel
    simp only [e] at this
    simpa [sg] using this
  · rintro rfl
    decide +kernel
end K23
namespace K23
open PySem L2 VT
theorem pl_s {d : Nat} {z : Str} (h : PyData.strOk z = true) : plT d (.str z) = true := by cases d <;> exact h
theorem eqT_ss {a b : Str} (h : PyData.strOk a = true) (g : PyData.strOk b = true) : eqT (.str a) (.str b) = some (.bl (a == b)) := by rw [eqT_pl (pl_s h) (pl_s g), teq_str]
theorem neT_ss {a b : Str} (h : PyData.strOk a = true) (g : PyData.strOk b = true) : neT (.str a) (.str b) = some (.bl (!(a == b))) := by rw [neT_pl (pl_s h) (pl_s g), teq_str]
theorem isi_ss {z : Str} : isiT "str" (.str z) = some (.bl true) := rfl
theorem sg_map (z : Str) : sgT z = z.cps.toList.map fun c => .str (sg c) := rfl
theorem loop_num (z : Str) : ∀ (l : List Nat) (x : Option T), ∃ x', runL (tgN 1) (sIf (eOfN (bOp notInS (bOfP (pVar 1)) (nC (.str "0123456789")))) (sRaise 13) sNil) (l.map fun c => .str (sg c)) [some (.str z), x] = some (if l.any bdC = true then .ex 13 else .nx, [some (.str z), x'])
  | [], x => ⟨x, rfl⟩
  | c :: l, x => by
    have e1 : (sIf (eOfN (bOp notInS (bOfP (pVar 1)) (nC (.str "0123456789")))) (sRaise 13) sNil) [some (.str z), some (.str (sg c))] = some (if bdC c = true then .ex 13 else .nx, [some (.str z), some (.str (sg c))]) := by
      have e2 : (eOfN (bOp notInS (bOfP (pVar 1)) (nC (.str "0123456789")))) [some (.str z), some (.str (sg c))] = some (.ok (.bl (bdC c)), [some (.str z), some (.str (sg c))]) := rfl
      rw [sIf_q, e2, Option.bind_some, kIf_q]
      by_cases h : bdC c = true
      · rw [if_pos h, if_pos h]; rfl
      · rw [if_neg h, if_neg h]; rfl
    have e0 : tgN 1 (.str (sg c)) [some (.str z), x] = some [some (.str z), some (.str (sg c))] := rfl
    rw [List.map_cons, runL_cons, e0, Option.bind_some, kL1_q, e1, Option.bind_some, List.any_cons]
    by_cases h : bdC c = true
    · refine ⟨some (.str (sg c)), ?_⟩
      rw [if_pos h, if_pos (by rw [h, Bool.true_or])]
      try rfl
    · rw [if_neg h, kL2_nx]
      have h' : bdC c = false := by simpa using h
      rw [h', Bool.false_or]
      exact loop_num z l _
def nmR : Option Int → Rs T
  | some i => .ok (.int i)
  | none => .ex 13
def nmV : Option Int → T
  | some i => .int i
  | none => .non
theorem kFS_s {tf : GF} {body : SF} {S : TSt} {z : Str} : kFS tf body S (.str z) = runL tf body (sgT z) S := rfl
local macro_rules | `(tactic| walk_at "vtd") => `(tactic| first | omega | assumption | (simp only [List.length_set]; omega) | (simp only [plT, plAll, pl_ints, plI, Bool.and_true, Bool.and_self, ofS_ok, dg_ok, ofS_ok]; done))
local macro_rules | `(tactic| walk_at "vt") => `(tactic| simp (disch := walk_at "vtd") only [↓eOp_q, kOp1_ok, kOp2_ok, kEn_q, ↓eOpB_q, kOpB_ok, kB1_q, ↓eOpV_q, kOpV0_q, kOpV_ok, kV1_q, ↓eUn_q, kUn_ok, ↓eOfN_q, ↓bOp_q, kBop_q, ↓bUn_q, ↓bOfP_q, kPl_q, kAt_q, tAt_nil, tAt_nd, nC_q, ↓nOfB_q, pVar_q, kPV_q, eVar_q, kVar_q, ↓sSeq_q, kSeq_nx, kSeq_rt, kSeq_ex, kSeq_bk, kSeq_ct, ↓sSet_q, kSet_ok, ↓sRet_q, kRet_ok, sNil_q, ↓sIf_q, kIf_q, ↓eNot_q, kNot_q, ↓eAnd_q, kAnd_q, ↓eOr_q, kOr_q, aNil_q, ↓aVal_q, kA1_ok, kA2_ok, ↓aRef_q, kAr_q, kAr2_ok, argOf_q, kArg_q, ↓eDisp_q, kD1_ok, kD2_q, valsOf_nil, valsOf_val, kVl_q, ↓eCall_q, kCall_ok, callR_q, kC1_q, kC2_q, argT_nil, argT_val, argT_pth, kAT1_q, kAT2_q, putB_nil, putB_val, tPut_nil, tPut_nd, ↓nTup_q, kNT_q, kNT2_q, baNil_q, ↓baVal_q, kBV_q, kBV2_q, ↓baRef_q, kBR_q, kBR2_q, ↓mBody_q, kBody_q, kBody2_nx, kBody2_rt, kBody2_ex, allS_nil, allS_some, imO_int, imO_str, imO_bl, imO_non, imO_tup, im_int, im_str, im_bl, im_non, im_tup, im_fz, im_lst, im_obj, imAll_nil, imAll_cons, mu_lst, mu_obj, gd_pos, gd_tr, subT_i, mulT_i, modT_i, fdivT_i, powT_i, ltT_i, gtT_i, minT_i, ixT_lst, ixT_fz, ixT_tup, lenT_lst, lenT_fz, lenT_tup, isN_non, isN_int, isN_nd, isN_str, setM_q, kSM_q, ob_some, sl, atI, ixN, kF4_q, putB_q, kPB_q, ↓sForR_q, kFR_q, ↓sForE_q, kFE_q, kFE2_q, seqO_lst, seqO_fz, seqO_tup, eqT_ii, neT_ii, inT_ints, kL1_q, kL2_nx, kL2_ct, kL2_bk, kL2_rt, runL_nil, runL_cons, tgN_q, lcFrom_q, kLc_q, lcEnd_q, kLcE_q, ↓eLcP_q, kLcP_q, kLcP1_q, kLcP2_q, kLcP3_q, kLP5_q, wipeS_nil, wipeS_cons, restS_nil, restS_cons, kRs_n, kRs_s, isi_ii, isi_ib, isi_ll, eqT_pl, neT_pl, kSet_ex, kRet_ex, sRaise_q, ↓sTryK_q, kTry_ex, kTry_nx, kTry_rt, kTry2_q, ↓sSetVE_q, kSv1_ok, kSv2_q, kSv3_q, kSv4_ints, ↓nLst_q, kNL_q, kNL2_q, ↓eLcR_q, kLR_q, mulT_l, eqT_ln, neT_ln, rep_ints, get_int, set_int, app_int, teq_int, teq_str, teq_non, teq_tnil, teq_tcons, teq_li, ixA_lst, ixA_fz, ixA_tup, ixA_str, ixB_lst, ixB_fz, ixB_tup, ixB_dK, ixB_dT, kDo_s, dix_Ki, dix_Ks, dix_T, kDt_q, keysT_n, keysT_i, keysT_s, kKc_q, ↓pIxA_q, kX7_q, kX6_q, kX5_q, kX4_lst, kX4_dK, kX4_dT, kX8_s, ↓sSetA_q, kSA_ok, kSA_ex, kSA0_q, kSA1_q, kSA2_q, kSA3_q, kSA4_q, setA_l, setA_Ki, setA_Ks, setA_T, kSt_q, mu_dK, mu_dT, im_dK, im_dT, inA_l, inA_t, inA_f, negT_i, ↓bNot_q, kBNot_q, ↓bAnd_q, kBAnd_q, lockT_q, lcN_q, kNlc_q, addA_i, addA_s, addA_ll, addA_fl, addA_tt, isA_n, isA_b, isNotA_n, isNotA_b, isB_bl, isB_non, isB_int, isB_str, isB_nd, isN_bl, strT_s, addA_lf, beq_tt, beq_tf, beq_ft, beq_ff, Option.getD_none, eYes_q, ↓ixB_fl, ↓kX4_fl, ↓setA_fl, ↓atI_fl, fl_get, fl_set, fl_getD, slA_lst, slA_tup, slA_fz, kAnd_ex, kOr_ex, kNot_ex, kIf_ex, kOpB_ex, kA1_ex, kD1_ex, up_id, ↓bSl_q, kSl0_q, kSl1_q, bnd_n, ↓bnd_s, kBd_i, List.length_set, beq_self_eq_true, getD_set, and_true, true_and, or_true, true_or, and_self, List.map_cons, List.map_nil, List.eraseIdx_cons_zero, List.length_cons, List.length_nil, List.length_map, List.replicate, List.append_nil, List.cons_append, List.nil_append, List.getElem?_cons_zero, List.getElem?_cons_succ, List.set_cons_zero, List.set_cons_succ, List.getD_cons_zero, List.getD_cons_succ, Option.getD_some, List.take, Nat.reduceSub, Nat.reduceAdd, Nat.reduceEqDiff, if_true, if_false, reduceIte, if_pos, if_neg, Int.toNat_zero, Int.toNat_one, Int.reduceLT, Int.reduceLE, Int.reduceToNat, List.tail_cons, Nat.zero_add, Nat.reduceLeDiff, Nat.reduceLT, Bool.and_true, Bool.true_and, Bool.and_self, Bool.not_true, Bool.not_false, decide_eq_true_eq, decide_true, decide_false, Bool.false_eq_true, eqT_ss, neT_ss, isi_ss, lenT_s, sForS_q, kFS_s])
theorem nil_bad {z : Str} (h : z.length = 0) : m_read_number [.str z] = some (.ex 13, [.str z]) := by
  have e : (z == ("" : Str)) = true := nil_iff.mpr h
  have hz : z = ("" : Str) := beq_iff_eq.mp e
  subst hz
  unfold m_read_number b_read_number
  walk_at "vt"
theorem read_number_eq {z : Str} (hz : PyData.strOk z = true) (hl : z.length ≤ 99000) : m_read_number [.str z] = some (nmR (numO z), [.str z]) := by
  by_cases h1 : z.length = 0
  · rw [nil_bad h1, show numO z = none from if_pos (.inl h1)]; rfl
  have e1 : ¬ (z == ("" : Str)) = true := fun h => h1 (nil_iff.mp h)
  have hl2 : z.length ≤ 100000 := by omega
  by_cases h2 : 40 < z.length
  · rw [show numO z = none from if_pos (.inr (.inl h2))]
    unfold m_read_number b_read_number
    walk_at "vt"
    try rfl
  obtain ⟨x, ex⟩ := loop_num z z.cps.toList none
  rw [← sg_map] at ex
  obtain ⟨c, hc1, hc2, hc3⟩ := head_ex h1 hz
  have hc3 := hc3 hl2
  by_cases h3 : badS z = true
  · rw [show numO z = none from if_pos (.inr (.inr (.inl h3)))]
    rw [show (z.cps.toList.any bdC) = true from h3, if_pos rfl] at ex
    unfold m_read_number b_read_number
    walk_at "vt"
    rw [ex]
    try rfl
  have hb : badS z = false := Bool.eq_false_iff.mpr h3
  rw [show (z.cps.toList.any bdC) = false from hb, if_neg Bool.false_ne_true] at ex
  have hk := ok_sg hc2
  by_cases h4 : leadS z = true
  · rw [show numO z = none from if_pos (.inr (.inr (.inr h4)))]
    unfold leadS at h4
    rw [hc1, Bool.and_eq_true] at h4
    have hc : (c == 48) = true := by simpa using h4.1
    have hn : (z == ("0" : Str)) = false := by simpa using h4.2
    unfold m_read_number b_read_number
    walk_at "vt"
    rw [ex]
    walk_at "vt"
    rw [hc3, Option.bind_some]
    walk_at "vt"
    rw [eq_0, hc]
    walk_at "vt"
    rw [hn]
    try rfl
  · obtain ⟨n, hn⟩ := int_dg (z := z) (by simpa using h3) h1 (by omega)
    rw [show numO z = some (n : Int) from (if_neg (by simp only [not_or]; exact ⟨h1, h2, h3, h4⟩)).trans hn]
    unfold leadS at h4
    rw [hc1] at h4
    have eI := intS_s (by omega) hn
    unfold m_read_number b_read_number
    walk_at "vt"
    rw [ex]
    walk_at "vt"
    rw [hc3, Option.bind_some]
    walk_at "vt"
    rw [eq_0]
    by_cases h5 : (c == 48) = true
    · have hn0 : (z == ("0" : Str)) = true := by
        have : c = 48 := beq_iff_eq.mp h5
        subst this
        simpa using h4
      rw [h5]
      walk_at "vt"
      rw [hn0]
      walk_at "vt"
      rw [eI]
      try rfl
    · rw [show (c == 48) = false by simpa using h5]
      walk_at "vt"
      rw [eI]
      try rfl
end K23
namespace K23
open PySem L2 VT
theorem runN_bad (z : Str) : ∀ l : List Nat, runN (tgN 1) (bOp notInS (bOfP (pVar 1)) (nC (.str "0123456789"))) (nOfB (bOfP (pVar 1))) (l.map fun c => .str (sg c)) [some (.str z), none] = some ((l.filter bdC).map fun c => .str (sg c))
  | [] => rfl
  | c :: l => by
    have e1 : bOp notInS (bOfP (pVar 1)) (nC (.str "0123456789")) [some (.str z), some (.str (sg c))] = some (.bl (bdC c)) := rfl
    have e2 : nOfB (bOfP (pVar 1)) [some (.str z), some (.str (sg c))] = some (.str (sg c)) := rfl
    have e0 : tgN 1 (.str (sg c)) [some (.str z), none] = some [some (.str z), some (.str (sg c))] := rfl
    have ih := runN_bad z l
    rw [List.map_cons]
    unfold VT.runN
    rw [e0, Option.bind_some, e1, Option.bind_some, ih]
    cases h : bdC c with
    | true =>
      rw [List.filter_cons_of_pos h, e2]
      try rfl
    | false => rw [List.filter_cons_of_neg (by rw [h]; exact Bool.false_ne_true)]
theorem neT_sg {l : List Nat} (h : ∀ c ∈ l, c < 0x110000) : neT (.nd .lst (l.map fun c => .str (sg c))) (.nd .lst []) = some (.bl (!l.isEmpty)) := by
  have hp : plT 8 (.nd .lst (l.map fun c => T.str (sg c))) = true := by
    rw [plT]
    induction l with
    | nil => rfl
    | cons c l ih =>
      rw [List.map_cons, plAll, Bool.and_eq_true]
      exact ⟨ok_sg (h c List.mem_cons_self), ih fun d hd => h d (List.mem_cons_of_mem _ hd)⟩
  rw [neT_pl hp rfl]
  cases l with
  | nil => rfl
  | cons c l => simp [teq, dat, datAll, PyData.eqv, PyData.eqvAll]
theorem bad_list {z : Str} : (z.cps.toList.filter bdC).isEmpty = !badS z := by
  unfold badS
  induction z.cps.toList with
  | nil => rfl
  | cons c l ih =>
    rw [List.filter_cons, List.any_cons]
    cases bdC c with
    | true => rfl
    | false => simpa using ih
theorem lc_bad {z : Str} (hz : PyData.strOk z = true) (hl : z.length < 100000) : bOp neT (bLcS [1] (tgN 1) (bOfP (pVar 0)) (bOp notInS (bOfP (pVar 1)) (nC (.str "0123456789"))) (nOfB (bOfP (pVar 1)))) (nLst baNil) [some (.str z), none] = some (.bl (badS z)) := by
  have e1 : bLcS [1] (tgN 1) (bOfP (pVar 0)) (bOp notInS (bOfP (pVar 1)) (nC (.str "0123456789"))) (nOfB (bOfP (pVar 1))) [some (.str z), none] = some (.nd .lst ((z.cps.toList.filter bdC).map fun c => .str (sg c))) := by
    have e0 : (bOfP (pVar 0)) [some (.str z), none] = some (.str z) := rfl
    rw [bLcS_q, e0, Option.bind_some, kLS_q]
    unfold lcN
    rw [if_pos (by rw [sgT_len]; exact hl), sg_map]
    have ew : wipeS [some (T.str z), none] [1] = [some (.str z), none] := rfl
    rw [ew, runN_bad]
    try rfl
  rw [bOp_q, e1, Option.bind_some]
  have e3 : (nLst baNil) [some (.str z), none] = some (.nd .lst []) := rfl
  rw [kBop_q, e3, Option.bind_some, neT_sg (fun c hc => ok_iff.mp hz c (List.mem_filter.mp hc).1), bad_list, Bool.not_not]
theorem intT_f : intT (.bl false) = some (.int 0) := rfl
theorem intT_t : intT (.bl true) = some (.int 1) := rfl
local macro_rules | `(tactic| walk_at "vtd") => `(tactic| first | omega | assumption | (simp only [List.length_set]; omega) | (simp only [plT, plAll, pl_ints, plI, Bool.and_true, Bool.and_self, ofS_ok, dg_ok, ofS_ok]; done))
local macro_rules | `(tactic| walk_at "vt") => `(tactic| simp (disch := walk_at "vtd") only [↓eOp_q, kOp1_ok, kOp2_ok, kEn_q, ↓eOpB_q, kOpB_ok, kB1_q, ↓eOpV_q, kOpV0_q, kOpV_ok, kV1_q, ↓eUn_q, kUn_ok, ↓eOfN_q, ↓bOp_q, kBop_q, ↓bUn_q, ↓bOfP_q, kPl_q, kAt_q, tAt_nil, tAt_nd, nC_q, ↓nOfB_q, pVar_q, kPV_q, eVar_q, kVar_q, ↓sSeq_q, kSeq_nx, kSeq_rt, kSeq_ex, kSeq_bk, kSeq_ct, ↓sSet_q, kSet_ok, ↓sRet_q, kRet_ok, sNil_q, ↓sIf_q, kIf_q, ↓eNot_q, kNot_q, ↓eAnd_q, kAnd_q, ↓eOr_q, kOr_q, aNil_q, ↓aVal_q, kA1_ok, kA2_ok, ↓aRef_q, kAr_q, kAr2_ok, argOf_q, kArg_q, ↓eDisp_q, kD1_ok, kD2_q, valsOf_nil, valsOf_val, kVl_q, ↓eCall_q, kCall_ok, callR_q, kC1_q, kC2_q, argT_nil, argT_val, argT_pth, kAT1_q, kAT2_q, putB_nil, putB_val, tPut_nil, tPut_nd, ↓nTup_q, kNT_q, kNT2_q, baNil_q, ↓baVal_q, kBV_q, kBV2_q, ↓baRef_q, kBR_q, kBR2_q, ↓mBody_q, kBody_q, kBody2_nx, kBody2_rt, kBody2_ex, allS_nil, allS_some, imO_int, imO_str, imO_bl, imO_non, imO_tup, im_int, im_str, im_bl, im_non, im_tup, im_fz, im_lst, im_obj, imAll_nil, imAll_cons, mu_lst, mu_obj, gd_pos, gd_tr, subT_i, mulT_i, modT_i, fdivT_i, powT_i, ltT_i, gtT_i, minT_i, ixT_lst, ixT_fz, ixT_tup, lenT_lst, lenT_fz, lenT_tup, isN_non, isN_int, isN_nd, isN_str, setM_q, kSM_q, ob_some, sl, atI, ixN, kF4_q, putB_q, kPB_q, ↓sForR_q, kFR_q, ↓sForE_q, kFE_q, kFE2_q, seqO_lst, seqO_fz, seqO_tup, eqT_ii, neT_ii, inT_ints, kL1_q, kL2_nx, kL2_ct, kL2_bk, kL2_rt, runL_nil, runL_cons, tgN_q, lcFrom_q, kLc_q, lcEnd_q, kLcE_q, ↓eLcP_q, kLcP_q, kLcP1_q, kLcP2_q, kLcP3_q, kLP5_q, wipeS_nil, wipeS_cons, restS_nil, restS_cons, kRs_n, kRs_s, isi_ii, isi_ib, isi_ll, eqT_pl, neT_pl, kSet_ex, kRet_ex, sRaise_q, ↓sTryK_q, kTry_ex, kTry_nx, kTry_rt, kTry2_q, ↓sSetVE_q, kSv1_ok, kSv2_q, kSv3_q, kSv4_ints, ↓nLst_q, kNL_q, kNL2_q, ↓eLcR_q, kLR_q, mulT_l, eqT_ln, neT_ln, rep_ints, get_int, set_int, app_int, teq_int, teq_str, teq_non, teq_tnil, teq_tcons, teq_li, ixA_lst, ixA_fz, ixA_tup, ixA_str, ixB_lst, ixB_fz, ixB_tup, ixB_dK, ixB_dT, kDo_s, dix_Ki, dix_Ks, dix_T, kDt_q, keysT_n, keysT_i, keysT_s, kKc_q, ↓pIxA_q, kX7_q, kX6_q, kX5_q, kX4_lst, kX4_dK, kX4_dT, kX8_s, ↓sSetA_q, kSA_ok, kSA_ex, kSA0_q, kSA1_q, kSA2_q, kSA3_q, kSA4_q, setA_l, setA_Ki, setA_Ks, setA_T, kSt_q, mu_dK, mu_dT, im_dK, im_dT, inA_l, inA_t, inA_f, negT_i, ↓bNot_q, kBNot_q, ↓bAnd_q, kBAnd_q, lockT_q, lcN_q, kNlc_q, addA_i, addA_s, addA_ll, addA_fl, addA_tt, isA_n, isA_b, isNotA_n, isNotA_b, isB_bl, isB_non, isB_int, isB_str, isB_nd, isN_bl, strT_s, addA_lf, beq_tt, beq_tf, beq_ft, beq_ff, Option.getD_none, eYes_q, ↓ixB_fl, ↓kX4_fl, ↓setA_fl, ↓atI_fl, fl_get, fl_set, fl_getD, slA_lst, slA_tup, slA_fz, kAnd_ex, kOr_ex, kNot_ex, kIf_ex, kOpB_ex, kA1_ex, kD1_ex, up_id, ↓bSl_q, kSl0_q, kSl1_q, bnd_n, ↓bnd_s, kBd_i, List.length_set, beq_self_eq_true, getD_set, and_true, true_and, or_true, true_or, and_self, List.map_cons, List.map_nil, List.eraseIdx_cons_zero, List.length_cons, List.length_nil, List.length_map, List.replicate, List.append_nil, List.cons_append, List.nil_append, List.getElem?_cons_zero, List.getElem?_cons_succ, List.set_cons_zero, List.set_cons_succ, List.getD_cons_zero, List.getD_cons_succ, Option.getD_some, List.take, Nat.reduceSub, Nat.reduceAdd, Nat.reduceEqDiff, if_true, if_false, reduceIte, if_pos, if_neg, Int.toNat_zero, Int.toNat_one, Int.reduceLT, Int.reduceLE, Int.reduceToNat, List.tail_cons, Nat.zero_add, Nat.reduceLeDiff, Nat.reduceLT, Bool.and_true, Bool.true_and, Bool.and_self, Bool.not_true, Bool.not_false, decide_eq_true_eq, decide_true, decide_false, Bool.false_eq_true, intT_f, intT_t, eqT_ss, neT_ss, isi_ss, lenT_s, slA_s, ltT_i])
theorem law_number_eq {z : Str} (hz : PyData.strOk z = true) (hl : z.length ≤ 99000) : m_law_number [.str z] = some (.ok (nmV (numO z)), [.str z]) := by
  have hl2 : z.length ≤ 100000 := by omega
  by_cases h1 : z.length = 0
  · rw [show numO z = none from if_pos (.inl h1)]
    unfold m_law_number b_law_number
    walk_at "vt"
    try rfl
  by_cases h2 : 40 < z.length
  · rw [show numO z = none from if_pos (.inr (.inl h2))]
    unfold m_law_number b_law_number
    walk_at "vt"
    try rfl
  have eb := lc_bad hz (by omega)
  obtain ⟨c, hc1, hc2, hc3⟩ := head_ex h1 hz
  have hc3 := hc3 hl2
  have hk := ok_sg hc2
  have e00 : eOfN (bOp neT (bLcS [1] (tgN 1) (bOfP (pVar 0)) (bOp notInS (bOfP (pVar 1)) (nC (.str "0123456789"))) (nOfB (bOfP (pVar 1)))) (nLst baNil)) [some (.str z), none] = some (.ok (.bl (badS z)), [some (.str z), none]) := by
    rw [eOfN_q, eb]
    try rfl
  by_cases h3 : badS z = true
  · rw [show numO z = none from if_pos (.inr (.inr (.inl h3)))]
    rw [h3] at e00
    unfold m_law_number b_law_number
    generalize eOfN (bOp neT (bLcS [1] (tgN 1) (bOfP (pVar 0)) (bOp notInS (bOfP (pVar 1)) (nC (.str "0123456789"))) (nOfB (bOfP (pVar 1)))) (nLst baNil)) = g at e00
    walk_at "vt"
    rw [e00]
    try rfl
  rw [show badS z = false from Bool.eq_false_iff.mpr h3] at e00
  by_cases h4 : leadS z = true
  · rw [show numO z = none from if_pos (.inr (.inr (.inr h4)))]
    unfold leadS at h4
    rw [hc1, Bool.and_eq_true] at h4
    have hc : (c == 48) = true := by simpa using h4.1
    have hn : (z == ("0" : Str)) = false := by simpa using h4.2
    unfold m_law_number b_law_number
    generalize eOfN (bOp neT (bLcS [1] (tgN 1) (bOfP (pVar 0)) (bOp notInS (bOfP (pVar 1)) (nC (.str "0123456789"))) (nOfB (bOfP (pVar 1)))) (nLst baNil)) = g at e00
    walk_at "vt"
    rw [e00]
    walk_at "vt"
    rw [hc3, Option.bind_some]
    walk_at "vt"
    rw [eq_0, hc]
    walk_at "vt"
    rw [hn]
    try rfl
  · obtain ⟨n, hn⟩ := int_dg (z := z) (by simpa using h3) h1 (by omega)
    rw [show numO z = some (n : Int) from (if_neg (by simp only [not_or]; exact ⟨h1, h2, h3, h4⟩)).trans hn]
    unfold leadS at h4
    rw [hc1] at h4
    have eI := intS_s (by omega) hn
    unfold m_law_number b_law_number
    generalize eOfN (bOp neT (bLcS [1] (tgN 1) (bOfP (pVar 0)) (bOp notInS (bOfP (pVar 1)) (nC (.str "0123456789"))) (nOfB (bOfP (pVar 1)))) (nLst baNil)) = g at e00
    walk_at "vt"
    rw [e00]
    walk_at "vt"
    rw [hc3, Option.bind_some]
    walk_at "vt"
    rw [eq_0]
    by_cases h5 : (c == 48) = true
    · have hn0 : (z == ("0" : Str)) = true := by
        have : c = 48 := beq_iff_eq.mp h5
        subst this
        simpa using h4
      rw [h5]
      walk_at "vt"
      rw [hn0]
      walk_at "vt"
      rw [eI]
      try rfl
    · rw [show (c == 48) = false by simpa using h5]
      walk_at "vt"
      rw [eI]
      try rfl
def sgO (z : Str) : Option Int := if (cutS z none (some 1) == ("-" : Str)) = true then (match numO (cutS z (some 1) none) with
  | none => none
  | some i => if i = 0 then none else some (-i)) else numO z
theorem read_signed_eq {z : Str} (hz : PyData.strOk z = true) (hl : z.length ≤ 99000) : m_read_signed [.str z] = some (nmR (sgO z), [.str z]) := by
  have hl2 : z.length ≤ 100000 := by omega
  have hk := cut_ok none (some 1) hz
  have hk2 := cut_ok (some 1) none hz
  have hl3 := cut_len z (some 1) none
  unfold sgO
  by_cases h : (cutS z none (some 1) == ("-" : Str)) = true
  · rw [if_pos h]
    have e := read_number_eq hk2 (by omega)
    cases hn : numO (cutS z (some 1) none) with
    | none =>
      rw [hn] at e
      unfold m_read_signed b_read_signed
      walk_at "vt"
      rw [h]
      walk_at "vt"
      rw [e]
      try rfl
    | some i =>
      rw [hn] at e
      by_cases hi : i = 0
      · subst hi
        unfold m_read_signed b_read_signed
        walk_at "vt"
        rw [h]
        walk_at "vt"
        rw [e]
        try rfl
      · simp only
        rw [if_neg hi]
        unfold m_read_signed b_read_signed
        walk_at "vt"
        rw [h]
        walk_at "vt"
        rw [e]
        simp only [nmR]
        walk_at "vt"
  · rw [if_neg h]
    have h' : (cutS z none (some 1) == ("-" : Str)) = false := Bool.eq_false_iff.mpr h
    have e := read_number_eq hz hl
    unfold m_read_signed b_read_signed
    walk_at "vt"
    rw [h']
    walk_at "vt"
    rw [e]
    cases numO z with
    | none => rfl
    | some i => rfl
theorem due_signed {z : Str} (hz : PyData.strOk z = true) (hl : z.length ≤ 99000) : m_law_due [.int 1, .str z] = some (.ok (nmV (sgO z)), [.int 1, .str z]) := by
  have hl2 : z.length ≤ 100000 := by omega
  have hk := cut_ok none (some 1) hz
  have hk2 := cut_ok (some 1) none hz
  have hl3 := cut_len z (some 1) none
  unfold sgO
  by_cases h : (cutS z none (some 1) == ("-" : Str)) = true
  · rw [if_pos h]
    have e := law_number_eq hk2 (by omega)
    cases hn : numO (cutS z (some 1) none) with
    | none =>
      rw [hn] at e
      unfold m_law_due b_law_due
      walk_at "vt"
      rw [h]
      walk_at "vt"
      rw [e]
      try rfl
    | some i =>
      rw [hn] at e
      by_cases hi : i = 0
      · subst hi
        unfold m_law_due b_law_due
        walk_at "vt"
        rw [h]
        walk_at "vt"
        rw [e]
        try rfl
      · simp only
        rw [if_neg hi]
        unfold m_law_due b_law_due
        walk_at "vt"
        rw [h]
        walk_at "vt"
        rw [e]
        simp only [nmV]
        walk_at "vt"
        rw [show (!decide (i = 0)) = true by simpa using hi]
        walk_at "vt"
        rw [show (0 : Int) - i = -i by omega]
  · rw [if_neg h]
    have h' : (cutS z none (some 1) == ("-" : Str)) = false := Bool.eq_false_iff.mpr h
    have e := law_number_eq hz hl
    unfold m_law_due b_law_due
    walk_at "vt"
    rw [h']
    walk_at "vt"
    rw [e]
    try rfl
theorem due_number {z : Str} (hz : PyData.strOk z = true) (hl : z.length ≤ 99000) : m_law_due [.int 0, .str z] = some (.ok (nmV (numO z)), [.int 0, .str z]) := by
  have e := law_number_eq hz hl
  unfold m_law_due b_law_due
  walk_at "vt"
  rw [e]
  try rfl
end K23
namespace K23
open PySem L2 VT
local macro_rules | `(tactic| walk_at "vtd") => `(tactic| first | omega | assumption | (simp only [List.length_set]; omega) | (simp only [plT, plAll, pl_ints, plI, Bool.and_true, Bool.and_self, ofS_ok, dg_ok, ofS_ok]; done))
local macro_rules | `(tactic| walk_at "vt") => `(tactic| simp (disch := walk_at "vtd") only [↓eOp_q, kOp1_ok, kOp2_ok, kEn_q, ↓eOpB_q, kOpB_ok, kB1_q, ↓eOpV_q, kOpV0_q, kOpV_ok, kV1_q, ↓eUn_q, kUn_ok, ↓eOfN_q, ↓bOp_q, kBop_q, ↓bUn_q, ↓bOfP_q, kPl_q, kAt_q, tAt_nil, tAt_nd, nC_q, ↓nOfB_q, pVar_q, kPV_q, eVar_q, kVar_q, ↓sSeq_q, kSeq_nx, kSeq_rt, kSeq_ex, kSeq_bk, kSeq_ct, ↓sSet_q, kSet_ok, ↓sRet_q, kRet_ok, sNil_q, ↓sIf_q, kIf_q, ↓eNot_q, kNot_q, ↓eAnd_q, kAnd_q, ↓eOr_q, kOr_q, aNil_q, ↓aVal_q, kA1_ok, kA2_ok, ↓aRef_q, kAr_q, kAr2_ok, argOf_q, kArg_q, ↓eDisp_q, kD1_ok, kD2_q, valsOf_nil, valsOf_val, kVl_q, ↓eCall_q, kCall_ok, callR_q, kC1_q, kC2_q, argT_nil, argT_val, argT_pth, kAT1_q, kAT2_q, putB_nil, putB_val, tPut_nil, tPut_nd, ↓nTup_q, kNT_q, kNT2_q, baNil_q, ↓baVal_q, kBV_q, kBV2_q, ↓baRef_q, kBR_q, kBR2_q, ↓mBody_q, kBody_q, kBody2_nx, kBody2_rt, kBody2_ex, allS_nil, allS_some, imO_int, imO_str, imO_bl, imO_non, imO_tup, im_int, im_str, im_bl, im_non, im_tup, im_fz, im_lst, im_obj, imAll_nil, imAll_cons, mu_lst, mu_obj, gd_pos, gd_tr, subT_i, mulT_i, modT_i, fdivT_i, powT_i, ltT_i, gtT_i, minT_i, ixT_lst, ixT_fz, ixT_tup, lenT_lst, lenT_fz, lenT_tup, isN_non, isN_int, isN_nd, isN_str, setM_q, kSM_q, ob_some, sl, atI, ixN, kF4_q, putB_q, kPB_q, ↓sForR_q, kFR_q, ↓sForE_q, kFE_q, kFE2_q, seqO_lst, seqO_fz, seqO_tup, eqT_ii, neT_ii, inT_ints, kL1_q, kL2_nx, kL2_ct, kL2_bk, kL2_rt, runL_nil, runL_cons, tgN_q, lcFrom_q, kLc_q, lcEnd_q, kLcE_q, ↓eLcP_q, kLcP_q, kLcP1_q, kLcP2_q, kLcP3_q, kLP5_q, wipeS_nil, wipeS_cons, restS_nil, restS_cons, kRs_n, kRs_s, isi_ii, isi_ib, isi_ll, eqT_pl, neT_pl, kSet_ex, kRet_ex, sRaise_q, ↓sTryK_q, kTry_ex, kTry_nx, kTry_rt, kTry2_q, ↓sSetVE_q, kSv1_ok, kSv2_q, kSv3_q, kSv4_ints, ↓nLst_q, kNL_q, kNL2_q, ↓eLcR_q, kLR_q, mulT_l, eqT_ln, neT_ln, rep_ints, get_int, set_int, app_int, teq_int, teq_str, teq_non, teq_tnil, teq_tcons, teq_li, ixA_lst, ixA_fz, ixA_tup, ixA_str, ixB_lst, ixB_fz, ixB_tup, ixB_dK, ixB_dT, kDo_s, dix_Ki, dix_Ks, dix_T, kDt_q, keysT_n, keysT_i, keysT_s, kKc_q, ↓pIxA_q, kX7_q, kX6_q, kX5_q, kX4_lst, kX4_dK, kX4_dT, kX8_s, ↓sSetA_q, kSA_ok, kSA_ex, kSA0_q, kSA1_q, kSA2_q, kSA3_q, kSA4_q, setA_l, setA_Ki, setA_Ks, setA_T, kSt_q, mu_dK, mu_dT, im_dK, im_dT, inA_l, inA_t, inA_f, negT_i, ↓bNot_q, kBNot_q, ↓bAnd_q, kBAnd_q, lockT_q, lcN_q, kNlc_q, addA_i, addA_s, addA_ll, addA_fl, addA_tt, isA_n, isA_b, isNotA_n, isNotA_b, isB_bl, isB_non, isB_int, isB_str, isB_nd, isN_bl, strT_s, addA_lf, beq_tt, beq_tf, beq_ft, beq_ff, Option.getD_none, eYes_q, ↓ixB_fl, ↓kX4_fl, ↓setA_fl, ↓atI_fl, fl_get, fl_set, fl_getD, slA_lst, slA_tup, slA_fz, kAnd_ex, kOr_ex, kNot_ex, kIf_ex, kOpB_ex, kA1_ex, kD1_ex, up_id, ↓bSl_q, kSl0_q, kSl1_q, bnd_n, ↓bnd_s, kBd_i, List.length_set, beq_self_eq_true, getD_set, and_true, true_and, or_true, true_or, and_self, List.map_cons, List.map_nil, List.eraseIdx_cons_zero, List.length_cons, List.length_nil, List.length_map, List.replicate, List.append_nil, List.cons_append, List.nil_append, List.getElem?_cons_zero, List.getElem?_cons_succ, List.set_cons_zero, List.set_cons_succ, List.getD_cons_zero, List.getD_cons_succ, Option.getD_some, List.take, Nat.reduceSub, Nat.reduceAdd, Nat.reduceEqDiff, if_true, if_false, reduceIte, if_pos, if_neg, Int.toNat_zero, Int.toNat_one, Int.reduceLT, Int.reduceLE, Int.reduceToNat, List.tail_cons, Nat.zero_add, Nat.reduceLeDiff, Nat.reduceLT, Bool.and_true, Bool.true_and, Bool.and_self, Bool.not_true, Bool.not_false, decide_eq_true_eq, decide_true, decide_false, Bool.false_eq_true, eqT_ss, neT_ss, isi_ss, lenT_s, slA_s, ltT_i])
def numsO : List Str → Option (List Int)
  | [] => some []
  | w :: ws => match numO w with
    | none => none
    | some i => match numsO ws with
      | none => none
      | some l => some (i :: l)
def nsR (acc : List T) : Option (List Int) → Rs (List T)
  | some l => .ok (acc ++ l.map .int)
  | none => .ex 13
theorem run_pages (z : T) : ∀ (ws : List Str) (acc : List T), (∀ w ∈ ws, PyData.strOk w = true ∧ w.length ≤ 99000) → ∃ x, runX 2 [2] (eCall m_read_number 1 (aRef 2 aNil)) (ws.map .str) [some z, none, none] acc = some (nsR acc (numsO ws), [some z, none, x])
  | [], acc, _ => ⟨none, by unfold runX numsO nsR; simp⟩
  | w :: ws, acc, h => by
    obtain ⟨h1, h2⟩ := h w List.mem_cons_self
    have e0 : tgN 2 (.str w) [some z, none, none] = some [some z, none, some (.str w)] := rfl
    have e1 : eCall m_read_number 1 (aRef 2 aNil) [some z, none, some (.str w)] = some (nmR (numO w), [some z, none, some (.str w)]) := by
      have e := read_number_eq h1 h2
      walk_at "vt"
      rw [e]
      cases numO w with
      | none => rfl
      | some i => rfl
    obtain ⟨x, ih⟩ := run_pages z ws (acc ++ [.int ((numO w).getD 0)]) fun v hv => h v (List.mem_cons_of_mem _ hv)
    rw [List.map_cons]
    unfold runX
    rw [e0, Option.bind_some, e1, Option.bind_some]
    unfold numsO
    cases hn : numO w with
    | none => exact ⟨_, rfl⟩
    | some i =>
      rw [hn] at ih
      refine ⟨x, ?_⟩
      show runX 2 [2] _ (ws.map .str) (wipeS [some z, none, some (.str w)] [2]) (acc ++ [.int i]) = _
      have ew : wipeS [some z, none, some (T.str w)] [2] = [some z, none, none] := rfl
      rw [ew]
      simp only [Option.getD_some] at ih
      rw [ih]
      cases numsO ws with
      | none => rfl
      | some l => simp [nsR]
theorem run_due (u z : T) : ∀ (ws : List Str) (acc : List T), (∀ w ∈ ws, PyData.strOk w = true ∧ w.length ≤ 99000) → ∃ x, runC 4 [4] eYes (eCall m_law_number 1 (aRef 4 aNil)) (ws.map .str) [some u, some z, none, none, none] acc = some (acc ++ ws.map fun w => nmV (numO w), [some u, some z, none, none, x])
  | [], acc, _ => ⟨none, by unfold runC; simp⟩
  | w :: ws, acc, h => by
    obtain ⟨h1, h2⟩ := h w List.mem_cons_self
    have e0 : tgN 4 (.str w) [some u, some z, none, none, none] = some [some u, some z, none, none, some (.str w)] := rfl
    have e3 : eYes [some u, some z, none, none, some (.str w)] = some (.ok (.bl true), [some u, some z, none, none, some (.str w)]) := rfl
    have e1 : eCall m_law_number 1 (aRef 4 aNil) [some u, some z, none, none, some (.str w)] = some (.ok (nmV (numO w)), [some u, some z, none, none, some (.str w)]) := by
      have e := law_number_eq h1 h2
      walk_at "vt"
      rw [e]
      try rfl
    obtain ⟨x, ih⟩ := run_due u z ws (acc ++ [nmV (numO w)]) fun v hv => h v (List.mem_cons_of_mem _ hv)
    rw [List.map_cons]
    unfold runC
    rw [e0, Option.bind_some, e3, Option.bind_some]
    simp only
    rw [e1, Option.bind_some]
    refine ⟨x, ?_⟩
    have ew : wipeS [some u, some z, none, none, some (T.str w)] [4] = [some u, some z, none, none, none] := rfl
    simp only [ew]
    rw [ih]
    simp
def pgO (z : Str) : Option (List Int) := if (z == ("-" : Str)) = true then some [] else match numsO (Txt.split z ",") with
  | none => none
  | some l => if 40 < l.length ∨ dcnt l < l.length then none else some l
def pgR : Option (List Int) → Rs T
  | some l => .ok (.nd .lst (l.map .int))
  | none => .ex 13
def pgV : Option (List Int) → T
  | some l => .nd .lst (l.map .int)
  | none => .non
theorem nums_len : ∀ {ws : List Str} {l : List Int}, numsO ws = some l → l.length = ws.length ∧ (ws.map fun w => nmV (numO w)) = l.map .int
  | [], l, h => by cases h; exact ⟨rfl, rfl⟩
  | w :: ws, l, h => by
    unfold numsO at h
    cases e : numO w with
    | none => rw [e] at h; cases h
    | some i =>
      rw [e] at h
      simp only at h
      cases e2 : numsO ws with
      | none => rw [e2] at h; cases h
      | some m =>
        rw [e2] at h
        cases h
        obtain ⟨a, b⟩ := nums_len e2
        refine ⟨by simp [a], ?_⟩
        rw [List.map_cons, List.map_cons, e, b]
        try rfl
theorem nums_no : ∀ {ws : List Str}, numsO ws = none → ∃ w ∈ ws, numO w = none
  | [], h => by cases h
  | w :: ws, h => by
    unfold numsO at h
    cases e : numO w with
    | none => exact ⟨w, List.mem_cons_self, e⟩
    | some i =>
      rw [e] at h
      simp only at h
      cases e2 : numsO ws with
      | none =>
        obtain ⟨v, hv, ev⟩ := nums_no e2
        exact ⟨v, List.mem_cons_of_mem _ hv, ev⟩
      | some m => rw [e2] at h; cases h
theorem splitS_s {z : Str} (hl : z.length ≤ 99000) : splitS (.str z) (.str ",") = some (.nd .lst ((Txt.split z ",").map .str)) := by
  show (if ((("," : Str).length == 0) = false ∧ z.length ≤ 99000) then some (T.nd .lst ((Txt.split z ",").map .str)) else none) = _
  rw [if_pos ⟨by decide +kernel, hl⟩]
theorem strs_im (l : List Str) : T.imAll (l.map T.str) = true := im_map (fun _ => rfl) l
theorem sp_all {z : Str} (hz : PyData.strOk z = true) (hl : z.length ≤ 3000) : ∀ w ∈ Txt.split z ",", PyData.strOk w = true ∧ w.length ≤ 99000 := fun w hw => ⟨split_ok hz hw, Nat.le_trans (PyProof.Rows.part_short hw) (by omega)⟩
theorem sp_len {z : Str} (hl : z.length ≤ 3000) : (Txt.split z ",").length ≤ 3002 := Nat.le_trans (PyProof.Rows.split_le z ",") (by omega)
end K23
namespace K23
open PySem L2 VT
theorem lcE_l {j : Nat} {vs : List Nat} {f cond elt : EF} {S S1 S2 : TSt} {ts us : List T} (h1 : f S = some (.ok (.nd .lst ts), S1)) (h2 : T.imAll ts = true) (h3 : ts.length < 100000) (h4 : runC j vs cond elt ts (wipeS S1 vs) [] = some (us, S2)) : eLcE j vs f cond elt S = some (.ok (.nd .lst us), restS S1 (wipeS S2 vs) vs) := by
  unfold eLcE
  rw [h1]
  simp only [Option.bind_some]
  rw [show seqO (.nd .lst ts) = some (Kd.lst, ts) from by unfold seqO; simp [h2, isSq]]
  simp only [Option.bind_some]
  rw [lcFrom_q, if_pos h3, h4, Option.bind_some, kLc_q, lcEnd_q]
  try rfl
theorem lcX_l {j : Nat} {vs : List Nat} {f elt : EF} {S S1 S2 : TSt} {ts : List T} {r : Rs (List T)} (h1 : f S = some (.ok (.nd .lst ts), S1)) (h2 : T.imAll ts = true) (h3 : ts.length < 100000) (h4 : runX j vs elt ts (wipeS S1 vs) [] = some (r, S2)) : eLcX j vs f elt S = kLXe vs S1 (r, S2) := by
  rw [eLcX_q, h1, Option.bind_some, kLX_ok]
  rw [show seqO (.nd .lst ts) = some (Kd.lst, ts) from by unfold seqO; simp [h2, isSq]]
  rw [Option.bind_some, kLX1_q, if_pos h3, h4]
  try rfl
theorem inT_nn {l : List (Option Int)} : inT .non (.nd .lst (l.map nmV)) = some (.bl (l.any (·.isNone))) := by
  have hp : plT 8 (.nd .lst (l.map nmV)) = true := by
    rw [plT]
    exact pl_map (fun o => by cases o <;> rfl) l
  show (inO .non (.nd .lst (l.map nmV))).map T.bl = _
  unfold inO
  simp only
  rw [if_pos ⟨by decide, pl_sh hp (by decide)⟩]
  show some (T.bl _) = _
  congr 2
  unfold inB
  rw [List.any_map]
  congr 1
  funext o
  cases o with
  | none => simp [nmV, dat, PyData.eqv]
  | some i => simp [nmV, dat, PyData.eqv]
local macro_rules | `(tactic| walk_at "vtd") => `(tactic| first | omega | assumption | (simp only [List.length_set]; omega) | (simp only [plT, plAll, pl_ints, plI, Bool.and_true, Bool.and_self, ofS_ok, dg_ok, ofS_ok]; done))
local macro_rules | `(tactic| walk_at "vt") => `(tactic| simp (disch := walk_at "vtd") only [↓eOp_q, kOp1_ok, kOp2_ok, kEn_q, ↓eOpB_q, kOpB_ok, kB1_q, ↓eOpV_q, kOpV0_q, kOpV_ok, kV1_q, ↓eUn_q, kUn_ok, ↓eOfN_q, ↓bOp_q, kBop_q, ↓bUn_q, ↓bOfP_q, kPl_q, kAt_q, tAt_nil, tAt_nd, nC_q, ↓nOfB_q, pVar_q, kPV_q, eVar_q, kVar_q, ↓sSeq_q, kSeq_nx, kSeq_rt, kSeq_ex, kSeq_bk, kSeq_ct, ↓sSet_q, kSet_ok, ↓sRet_q, kRet_ok, sNil_q, ↓sIf_q, kIf_q, ↓eNot_q, kNot_q, ↓eAnd_q, kAnd_q, ↓eOr_q, kOr_q, aNil_q, ↓aVal_q, kA1_ok, kA2_ok, ↓aRef_q, kAr_q, kAr2_ok, argOf_q, kArg_q, ↓eDisp_q, kD1_ok, kD2_q, valsOf_nil, valsOf_val, kVl_q, ↓eCall_q, kCall_ok, callR_q, kC1_q, kC2_q, argT_nil, argT_val, argT_pth, kAT1_q, kAT2_q, putB_nil, putB_val, tPut_nil, tPut_nd, ↓nTup_q, kNT_q, kNT2_q, baNil_q, ↓baVal_q, kBV_q, kBV2_q, ↓baRef_q, kBR_q, kBR2_q, ↓mBody_q, kBody_q, kBody2_nx, kBody2_rt, kBody2_ex, allS_nil, allS_some, imO_int, imO_str, imO_bl, imO_non, imO_tup, im_int, im_str, im_bl, im_non, im_tup, im_fz, im_lst, im_obj, imAll_nil, imAll_cons, mu_lst, mu_obj, gd_pos, gd_tr, subT_i, mulT_i, modT_i, fdivT_i, powT_i, ltT_i, gtT_i, minT_i, ixT_lst, ixT_fz, ixT_tup, lenT_lst, lenT_fz, lenT_tup, isN_non, isN_int, isN_nd, isN_str, setM_q, kSM_q, ob_some, sl, atI, ixN, kF4_q, putB_q, kPB_q, ↓sForR_q, kFR_q, ↓sForE_q, kFE_q, kFE2_q, seqO_lst, seqO_fz, seqO_tup, eqT_ii, neT_ii, inT_ints, kL1_q, kL2_nx, kL2_ct, kL2_bk, kL2_rt, runL_nil, runL_cons, tgN_q, lcFrom_q, kLc_q, lcEnd_q, kLcE_q, ↓eLcP_q, kLcP_q, kLcP1_q, kLcP2_q, kLcP3_q, kLP5_q, wipeS_nil, wipeS_cons, restS_nil, restS_cons, kRs_n, kRs_s, isi_ii, isi_ib, isi_ll, eqT_pl, neT_pl, kSet_ex, kRet_ex, sRaise_q, ↓sTryK_q, kTry_ex, kTry_nx, kTry_rt, kTry2_q, ↓sSetVE_q, kSv1_ok, kSv2_q, kSv3_q, kSv4_ints, ↓nLst_q, kNL_q, kNL2_q, ↓eLcR_q, kLR_q, mulT_l, eqT_ln, neT_ln, rep_ints, get_int, set_int, app_int, teq_int, teq_str, teq_non, teq_tnil, teq_tcons, teq_li, ixA_lst, ixA_fz, ixA_tup, ixA_str, ixB_lst, ixB_fz, ixB_tup, ixB_dK, ixB_dT, kDo_s, dix_Ki, dix_Ks, dix_T, kDt_q, keysT_n, keysT_i, keysT_s, kKc_q, ↓pIxA_q, kX7_q, kX6_q, kX5_q, kX4_lst, kX4_dK, kX4_dT, kX8_s, ↓sSetA_q, kSA_ok, kSA_ex, kSA0_q, kSA1_q, kSA2_q, kSA3_q, kSA4_q, setA_l, setA_Ki, setA_Ks, setA_T, kSt_q, mu_dK, mu_dT, im_dK, im_dT, inA_l, inA_t, inA_f, negT_i, ↓bNot_q, kBNot_q, ↓bAnd_q, kBAnd_q, lockT_q, lcN_q, kNlc_q, addA_i, addA_s, addA_ll, addA_fl, addA_tt, isA_n, isA_b, isNotA_n, isNotA_b, isB_bl, isB_non, isB_int, isB_str, isB_nd, isN_bl, strT_s, addA_lf, beq_tt, beq_tf, beq_ft, beq_ff, Option.getD_none, eYes_q, ↓ixB_fl, ↓kX4_fl, ↓setA_fl, ↓atI_fl, fl_get, fl_set, fl_getD, slA_lst, slA_tup, slA_fz, kAnd_ex, kOr_ex, kNot_ex, kIf_ex, kOpB_ex, kA1_ex, kD1_ex, up_id, ↓bSl_q, kSl0_q, kSl1_q, bnd_n, ↓bnd_s, kBd_i, List.length_set, beq_self_eq_true, getD_set, and_true, true_and, or_true, true_or, and_self, List.map_cons, List.map_nil, List.eraseIdx_cons_zero, List.length_cons, List.length_nil, List.length_map, List.replicate, List.append_nil, List.cons_append, List.nil_append, List.getElem?_cons_zero, List.getElem?_cons_succ, List.set_cons_zero, List.set_cons_succ, List.getD_cons_zero, List.getD_cons_succ, Option.getD_some, List.take, Nat.reduceSub, Nat.reduceAdd, Nat.reduceEqDiff, if_true, if_false, reduceIte, if_pos, if_neg, Int.toNat_zero, Int.toNat_one, Int.reduceLT, Int.reduceLE, Int.reduceToNat, List.tail_cons, Nat.zero_add, Nat.reduceLeDiff, Nat.reduceLT, Bool.and_true, Bool.true_and, Bool.and_self, Bool.not_true, Bool.not_false, decide_eq_true_eq, decide_true, decide_false, Bool.false_eq_true, eqT_ss, neT_ss, isi_ss, lenT_s, slA_s, ltT_i, lsetD_l])
theorem read_pages_eq {z : Str} (hz : PyData.strOk z = true) (hl : z.length ≤ 3000) : m_read_pages [.str z] = some (pgR (pgO z), [.str z]) := by
  by_cases h : (z == ("-" : Str)) = true
  · unfold pgO
    rw [if_pos h]
    unfold m_read_pages b_read_pages
    walk_at "vt"
    try rfl
  · have h' : (z == ("-" : Str)) = false := Bool.eq_false_iff.mpr h
    obtain ⟨x, ex⟩ := run_pages (.str z) (Txt.split z ",") [] (sp_all hz hl)
    have hsl := sp_len hl
    have e1 : (eOfN (bOp splitS (bOfP (pVar 0)) (nC (.str ",")))) [some (.str z), none, none] = some (.ok (.nd .lst ((Txt.split z ",").map .str)), [some (.str z), none, none]) := by
      have e2 : (bOp splitS (bOfP (pVar 0)) (nC (.str ","))) [some (.str z), none, none] = splitS (.str z) (.str ",") := rfl
      rw [eOfN_q, e2, splitS_s (by omega)]
      try rfl
    have e3 := lcX_l (j := 2) (vs := [2]) (elt := eCall m_read_number 1 (aRef 2 aNil)) e1 (strs_im _) (by rw [List.length_map]; omega) ex
    unfold pgO
    rw [if_neg h]
    unfold m_read_pages b_read_pages
    generalize eLcX 2 [2] (eOfN (bOp splitS (bOfP (pVar 0)) (nC (.str ",")))) (eCall m_read_number 1 (aRef 2 aNil)) = g at e3
    walk_at "vt"
    rw [e3]
    cases hn : numsO (Txt.split z ",") with
    | none => rfl
    | some l =>
      obtain ⟨n1, n2⟩ := nums_len hn
      show (((kLXe [2] [some (T.str z), none, none] (.ok ([] ++ l.map .int), [some (T.str z), none, x])).bind (kSet 1)).bind _).bind _ = _
      rw [List.nil_append, kLXe_ok, Option.bind_some]
      have er : restS [some (T.str z), none, none] (wipeS [some (T.str z), none, x] [2]) [2] = [some (T.str z), none, none] := rfl
      rw [er]
      show _ = some (pgR (if 40 < l.length ∨ dcnt l < l.length then none else some l), _)
      by_cases h1 : 40 < l.length
      · rw [if_pos (.inl h1)]
        walk_at "vt"
        try rfl
      · by_cases h2 : dcnt l < l.length
        · rw [if_pos (.inr h2)]
          walk_at "vt"
          try rfl
        · rw [if_neg (by omega)]
          walk_at "vt"
          try rfl
theorem due_pages {z : Str} (hz : PyData.strOk z = true) (hl : z.length ≤ 3000) : m_law_due [.int 2, .str z] = some (.ok (pgV (pgO z)), [.int 2, .str z]) := by
  by_cases h : (z == ("-" : Str)) = true
  · unfold pgO
    rw [if_pos h]
    unfold m_law_due b_law_due
    walk_at "vt"
    try rfl
  · have h' : (z == ("-" : Str)) = false := Bool.eq_false_iff.mpr h
    obtain ⟨x, ex⟩ := run_due (.int 2) (.str z) (Txt.split z ",") [] (sp_all hz hl)
    have hsl := sp_len hl
    have e1 : (eOfN (bOp splitS (bOfP (pVar 1)) (nC (.str ",")))) [some (.int 2), some (.str z), none, none, none] = some (.ok (.nd .lst ((Txt.split z ",").map .str)), [some (.int 2), some (.str z), none, none, none]) := by
      have e2 : (bOp splitS (bOfP (pVar 1)) (nC (.str ","))) [some (.int 2), some (.str z), none, none, none] = splitS (.str z) (.str ",") := rfl
      rw [eOfN_q, e2, splitS_s (by omega)]
      try rfl
    have e3 := lcE_l (j := 4) (vs := [4]) (cond := eYes) (elt := eCall m_law_number 1 (aRef 4 aNil)) e1 (strs_im _) (by rw [List.length_map]; omega) ex
    have er : restS [some (.int 2), some (T.str z), none, none, none] (wipeS [some (.int 2), some (T.str z), none, none, x] [4]) [4] = [some (.int 2), some (T.str z), none, none, none] := rfl
    rw [er, List.nil_append] at e3
    have em : ((Txt.split z ",").map fun w => nmV (numO w)) = ((Txt.split z ",").map numO).map nmV := by rw [List.map_map]; rfl
    unfold pgO
    rw [if_neg h]
    unfold m_law_due b_law_due
    generalize eLcE 4 [4] (eOfN (bOp splitS (bOfP (pVar 1)) (nC (.str ",")))) eYes (eCall m_law_number 1 (aRef 4 aNil)) = g at e3
    walk_at "vt"
    rw [e3]
    cases hn : numsO (Txt.split z ",") with
    | none =>
      obtain ⟨w, hw, en⟩ := nums_no hn
      have ea : inT .non (.nd .lst ((Txt.split z ",").map fun w => nmV (numO w))) = some (.bl true) := by
        rw [em, inT_nn]
        congr 2
        rw [List.any_eq_true]
        exact ⟨_, List.mem_map.mpr ⟨w, hw, rfl⟩, by rw [en]; rfl⟩
      generalize ((Txt.split z ",").map fun w => nmV (numO w)) = us at ea
      walk_at "vt"
      rw [ea]
      try rfl
    | some l =>
      obtain ⟨n1, n2⟩ := nums_len hn
      rw [n2]
      have ea : inT .non (.nd .lst (l.map .int)) = some (.bl false) := by
        have e : l.map T.int = (l.map some).map nmV := by rw [List.map_map]; rfl
        rw [e, inT_nn]
        congr 2
        rw [List.any_eq_false]
        intro o ho
        obtain ⟨i, _, rfl⟩ := List.mem_map.mp ho
        exact Bool.false_ne_true
      simp only
      by_cases h1 : 40 < l.length
      · rw [if_pos (.inl h1)]
        walk_at "vt"
        rw [ea]
        walk_at "vt"
        try rfl
      · by_cases h2 : dcnt l < l.length
        · rw [if_pos (.inr h2)]
          walk_at "vt"
          rw [ea]
          walk_at "vt"
          try rfl
        · rw [if_neg (by omega)]
          walk_at "vt"
          rw [ea]
          walk_at "vt"
          try rfl
end K23
namespace K23
open PySem L2 VT
def trV : Option T → T
  | some v => .nd .lst [.str "", v]
  | none => .nd .lst [.str "BadRow+", .non]
def orR : Option T → Rs T
  | some v => .ok v
  | none => .ex 13
local macro_rules | `(tactic| walk_at "vtd") => `(tactic| first | omega | assumption | (simp only [List.length_set]; omega) | (simp only [plT, plAll, pl_ints, plI, Bool.and_true, Bool.and_self, ofS_ok, dg_ok, ofS_ok]; done))
local macro_rules | `(tactic| walk_at "vt") => `(tactic| simp (disch := walk_at "vtd") only [↓eOp_q, kOp1_ok, kOp2_ok, kEn_q, ↓eOpB_q, kOpB_ok, kB1_q, ↓eOpV_q, kOpV0_q, kOpV_ok, kV1_q, ↓eUn_q, kUn_ok, ↓eOfN_q, ↓bOp_q, kBop_q, ↓bUn_q, ↓bOfP_q, kPl_q, kAt_q, tAt_nil, tAt_nd, nC_q, ↓nOfB_q, pVar_q, kPV_q, eVar_q, kVar_q, ↓sSeq_q, kSeq_nx, kSeq_rt, kSeq_ex, kSeq_bk, kSeq_ct, ↓sSet_q, kSet_ok, ↓sRet_q, kRet_ok, sNil_q, ↓sIf_q, kIf_q, ↓eNot_q, kNot_q, ↓eAnd_q, kAnd_q, ↓eOr_q, kOr_q, aNil_q, ↓aVal_q, kA1_ok, kA2_ok, ↓aRef_q, kAr_q, kAr2_ok, argOf_q, kArg_q, ↓eDisp_q, kD1_ok, kD2_q, valsOf_nil, valsOf_val, kVl_q, ↓eCall_q, kCall_ok, callR_q, kC1_q, kC2_q, argT_nil, argT_val, argT_pth, kAT1_q, kAT2_q, putB_nil, putB_val, tPut_nil, tPut_nd, ↓nTup_q, kNT_q, kNT2_q, baNil_q, ↓baVal_q, kBV_q, kBV2_q, ↓baRef_q, kBR_q, kBR2_q, ↓mBody_q, kBody_q, kBody2_nx, kBody2_rt, kBody2_ex, allS_nil, allS_some, imO_int, imO_str, imO_bl, imO_non, imO_tup, im_int, im_str, im_bl, im_non, im_tup, im_fz, im_lst, im_obj, imAll_nil, imAll_cons, mu_lst, mu_obj, gd_pos, gd_tr, subT_i, mulT_i, modT_i, fdivT_i, powT_i, ltT_i, gtT_i, minT_i, ixT_lst, ixT_fz, ixT_tup, lenT_lst, lenT_fz, lenT_tup, isN_non, isN_int, isN_nd, isN_str, setM_q, kSM_q, ob_some, sl, atI, ixN, kF4_q, putB_q, kPB_q, ↓sForR_q, kFR_q, ↓sForE_q, kFE_q, kFE2_q, seqO_lst, seqO_fz, seqO_tup, eqT_ii, neT_ii, inT_ints, kL1_q, kL2_nx, kL2_ct, kL2_bk, kL2_rt, runL_nil, runL_cons, tgN_q, lcFrom_q, kLc_q, lcEnd_q, kLcE_q, ↓eLcP_q, kLcP_q, kLcP1_q, kLcP2_q, kLcP3_q, kLP5_q, wipeS_nil, wipeS_cons, restS_nil, restS_cons, kRs_n, kRs_s, isi_ii, isi_ib, isi_ll, eqT_pl, neT_pl, kSet_ex, kRet_ex, sRaise_q, ↓sTryK_q, kTry_ex, kTry_nx, kTry_rt, kTry2_q, ↓sSetVE_q, kSv1_ok, kSv2_q, kSv3_q, kSv4_ints, ↓nLst_q, kNL_q, kNL2_q, ↓eLcR_q, kLR_q, mulT_l, eqT_ln, neT_ln, rep_ints, get_int, set_int, app_int, teq_int, teq_str, teq_non, teq_tnil, teq_tcons, teq_li, ixA_lst, ixA_fz, ixA_tup, ixA_str, ixB_lst, ixB_fz, ixB_tup, ixB_dK, ixB_dT, kDo_s, dix_Ki, dix_Ks, dix_T, kDt_q, keysT_n, keysT_i, keysT_s, kKc_q, ↓pIxA_q, kX7_q, kX6_q, kX5_q, kX4_lst, kX4_dK, kX4_dT, kX8_s, ↓sSetA_q, kSA_ok, kSA_ex, kSA0_q, kSA1_q, kSA2_q, kSA3_q, kSA4_q, setA_l, setA_Ki, setA_Ks, setA_T, kSt_q, mu_dK, mu_dT, im_dK, im_dT, inA_l, inA_t, inA_f, negT_i, ↓bNot_q, kBNot_q, ↓bAnd_q, kBAnd_q, lockT_q, lcN_q, kNlc_q, addA_i, addA_s, addA_ll, addA_fl, addA_tt, isA_n, isA_b, isNotA_n, isNotA_b, isB_bl, isB_non, isB_int, isB_str, isB_nd, isN_bl, strT_s, addA_lf, beq_tt, beq_tf, beq_ft, beq_ff, Option.getD_none, eYes_q, ↓ixB_fl, ↓kX4_fl, ↓setA_fl, ↓atI_fl, fl_get, fl_set, fl_getD, slA_lst, slA_tup, slA_fz, kAnd_ex, kOr_ex, kNot_ex, kIf_ex, kOpB_ex, kA1_ex, kD1_ex, up_id, ↓bSl_q, kSl0_q, kSl1_q, bnd_n, ↓bnd_s, kBd_i, List.length_set, beq_self_eq_true, getD_set, and_true, true_and, or_true, true_or, and_self, List.map_cons, List.map_nil, List.eraseIdx_cons_zero, List.length_cons, List.length_nil, List.length_map, List.replicate, List.append_nil, List.cons_append, List.nil_append, List.getElem?_cons_zero, List.getElem?_cons_succ, List.set_cons_zero, List.set_cons_succ, List.getD_cons_zero, List.getD_cons_succ, Option.getD_some, List.take, Nat.reduceSub, Nat.reduceAdd, Nat.reduceEqDiff, if_true, if_false, reduceIte, if_pos, if_neg, Int.toNat_zero, Int.toNat_one, Int.reduceLT, Int.reduceLE, Int.reduceToNat, List.tail_cons, Nat.zero_add, Nat.reduceLeDiff, Nat.reduceLT, Bool.and_true, Bool.true_and, Bool.and_self, Bool.not_true, Bool.not_false, decide_eq_true_eq, decide_true, decide_false, Bool.false_eq_true, eqT_ss, neT_ss, isi_ss, lenT_s, slA_s, ltT_i, lsetD_l, lockA_n, lockA_i, lockA_l])
theorem tried0 {t : T} {o : Option T} (hi : t.im = true) (h : m_read_number [t] = some (orR o, [t])) : m_law_tried [.int 0, t] = some (.ok (trV o), [.int 0, t]) := by
  unfold m_law_tried b_law_tried
  walk_at "vt"
  rw [h]
  cases o with
  | none => rfl
  | some v =>
    by_cases hv : v.im = true
    · simp only [orR]
      walk_at "vt"
      try rfl
    · simp only [orR]
      walk_at "vt"
      try rfl
theorem tried1 {t : T} {o : Option T} (hi : t.im = true) (h : m_read_signed [t] = some (orR o, [t])) : m_law_tried [.int 1, t] = some (.ok (trV o), [.int 1, t]) := by
  unfold m_law_tried b_law_tried
  walk_at "vt"
  rw [h]
  cases o with
  | none => rfl
  | some v =>
    by_cases hv : v.im = true
    · simp only [orR]
      walk_at "vt"
      try rfl
    · simp only [orR]
      walk_at "vt"
      try rfl
theorem tried2 {t : T} {o : Option T} (hi : t.im = true) (h : m_read_pages [t] = some (orR o, [t])) : m_law_tried [.int 2, t] = some (.ok (trV o), [.int 2, t]) := by
  unfold m_law_tried b_law_tried
  walk_at "vt"
  rw [h]
  cases o with
  | none => rfl
  | some v =>
    by_cases hv : v.im = true
    · simp only [orR]
      walk_at "vt"
      try rfl
    · simp only [orR]
      walk_at "vt"
      try rfl
theorem whole_i {i : Int} : m_law_whole [.int i] = some (.ok (.bl true), [.int i]) := by
  unfold m_law_whole b_law_whole
  walk_at "vt"
theorem eq_none : eqT (.nd .lst [.str "BadRow+", .non]) (.nd .lst [.str "BadRow+", .non]) = some (.bl true) := eqT_same (by simp [wlT, wlAll, ofS_ok]) (by simp [wlT, wlAll, ofS_ok]) rfl
theorem eq_int {i : Int} : eqT (.nd .lst [.str "", .int i]) (.nd .lst [.str "", .int i]) = some (.bl true) := eqT_same (by simp [wlT, wlAll, ofS_ok]) (by simp [wlT, wlAll, ofS_ok]) rfl
theorem eq_pg {l : List Int} : eqT (.nd .lst [.str "", .nd .lst (l.map .int)]) (.nd .lst [.str "", .nd .fz (l.map .int)]) = some (.bl true) := eqT_same (by simp [wlT, wlAll, ofS_ok, wl_ints]) (by simp [wlT, wlAll, ofS_ok, wl_ints]) rfl
theorem tq_none : teq (.nd .lst [.str "BadRow+", .non]) (.nd .lst [.str "BadRow+", .non]) = true := teq_self (d := 8) (by simp [plT, plAll, ofS_ok])
theorem tq_int {i : Int} : teq (.nd .lst [.str "", .int i]) (.nd .lst [.str "", .int i]) = true := teq_self (d := 8) (by simp [plT, plAll, ofS_ok])
theorem right_no {k : Int} {t : T} (hi : t.im = true) (h1 : m_law_due [.int k, t] = some (.ok .non, [.int k, t])) (h2 : m_law_tried [.int k, t] = some (.ok (trV none), [.int k, t])) : m_law_right [.int k, t] = some (.ok (.bl true), [.int k, t]) := by
  unfold m_law_right b_law_right
  walk_at "vt"
  rw [h1]
  walk_at "vt"
  rw [h2]
  simp only [trV]
  walk_at "vt"
  first
    | rw [eq_none]
    | rw [tq_none]
  all_goals (try walk_at "vt")
theorem right_int {k i : Int} {t : T} (hk : k < 2) (hi : t.im = true) (h1 : m_law_due [.int k, t] = some (.ok (.int i), [.int k, t])) (h2 : m_law_tried [.int k, t] = some (.ok (trV (some (.int i))), [.int k, t])) : m_law_right [.int k, t] = some (.ok (.bl true), [.int k, t]) := by
  unfold m_law_right b_law_right
  walk_at "vt"
  rw [h1]
  walk_at "vt"
  rw [h2]
  simp only [trV]
  walk_at "vt"
  rw [whole_i]
  walk_at "vt"
  first
    | rw [eq_int]
    | rw [tq_int]
  all_goals (try walk_at "vt")
end K23
namespace K23
open PySem L2 VT
local macro_rules | `(tactic| walk_at "vtd") => `(tactic| first | omega | assumption | (simp only [List.length_set]; omega) | (simp only [plT, plAll, pl_ints, plI, Bool.and_true, Bool.and_self, ofS_ok, dg_ok, ofS_ok]; done))
local macro_rules | `(tactic| walk_at "vt") => `(tactic| simp (disch := walk_at "vtd") only [↓eOp_q, kOp1_ok, kOp2_ok, kEn_q, ↓eOpB_q, kOpB_ok, kB1_q, ↓eOpV_q, kOpV0_q, kOpV_ok, kV1_q, ↓eUn_q, kUn_ok, ↓eOfN_q, ↓bOp_q, kBop_q, ↓bUn_q, ↓bOfP_q, kPl_q, kAt_q, tAt_nil, tAt_nd, nC_q, ↓nOfB_q, pVar_q, kPV_q, eVar_q, kVar_q, ↓sSeq_q, kSeq_nx, kSeq_rt, kSeq_ex, kSeq_bk, kSeq_ct, ↓sSet_q, kSet_ok, ↓sRet_q, kRet_ok, sNil_q, ↓sIf_q, kIf_q, ↓eNot_q, kNot_q, ↓eAnd_q, kAnd_q, ↓eOr_q, kOr_q, aNil_q, ↓aVal_q, kA1_ok, kA2_ok, ↓aRef_q, kAr_q, kAr2_ok, argOf_q, kArg_q, ↓eDisp_q, kD1_ok, kD2_q, valsOf_nil, valsOf_val, kVl_q, ↓eCall_q, kCall_ok, callR_q, kC1_q, kC2_q, argT_nil, argT_val, argT_pth, kAT1_q, kAT2_q, putB_nil, putB_val, tPut_nil, tPut_nd, ↓nTup_q, kNT_q, kNT2_q, baNil_q, ↓baVal_q, kBV_q, kBV2_q, ↓baRef_q, kBR_q, kBR2_q, ↓mBody_q, kBody_q, kBody2_nx, kBody2_rt, kBody2_ex, allS_nil, allS_some, imO_int, imO_str, imO_bl, imO_non, imO_tup, im_int, im_str, im_bl, im_non, im_tup, im_fz, im_lst, im_obj, imAll_nil, imAll_cons, mu_lst, mu_obj, gd_pos, gd_tr, subT_i, mulT_i, modT_i, fdivT_i, powT_i, ltT_i, gtT_i, minT_i, ixT_lst, ixT_fz, ixT_tup, lenT_lst, lenT_fz, lenT_tup, isN_non, isN_int, isN_nd, isN_str, setM_q, kSM_q, ob_some, sl, atI, ixN, kF4_q, putB_q, kPB_q, ↓sForR_q, kFR_q, ↓sForE_q, kFE_q, kFE2_q, seqO_lst, seqO_fz, seqO_tup, eqT_ii, neT_ii, inT_ints, kL1_q, kL2_nx, kL2_ct, kL2_bk, kL2_rt, runL_nil, runL_cons, tgN_q, lcFrom_q, kLc_q, lcEnd_q, kLcE_q, ↓eLcP_q, kLcP_q, kLcP1_q, kLcP2_q, kLcP3_q, kLP5_q, wipeS_nil, wipeS_cons, restS_nil, restS_cons, kRs_n, kRs_s, isi_ii, isi_ib, isi_ll, eqT_pl, neT_pl, kSet_ex, kRet_ex, sRaise_q, ↓sTryK_q, kTry_ex, kTry_nx, kTry_rt, kTry2_q, ↓sSetVE_q, kSv1_ok, kSv2_q, kSv3_q, kSv4_ints, ↓nLst_q, kNL_q, kNL2_q, ↓eLcR_q, kLR_q, mulT_l, eqT_ln, neT_ln, rep_ints, get_int, set_int, app_int, teq_int, teq_str, teq_non, teq_tnil, teq_tcons, teq_li, ixA_lst, ixA_fz, ixA_tup, ixA_str, ixB_lst, ixB_fz, ixB_tup, ixB_dK, ixB_dT, kDo_s, dix_Ki, dix_Ks, dix_T, kDt_q, keysT_n, keysT_i, keysT_s, kKc_q, ↓pIxA_q, kX7_q, kX6_q, kX5_q, kX4_lst, kX4_dK, kX4_dT, kX8_s, ↓sSetA_q, kSA_ok, kSA_ex, kSA0_q, kSA1_q, kSA2_q, kSA3_q, kSA4_q, setA_l, setA_Ki, setA_Ks, setA_T, kSt_q, mu_dK, mu_dT, im_dK, im_dT, inA_l, inA_t, inA_f, negT_i, ↓bNot_q, kBNot_q, ↓bAnd_q, kBAnd_q, lockT_q, lcN_q, kNlc_q, addA_i, addA_s, addA_ll, addA_fl, addA_tt, isA_n, isA_b, isNotA_n, isNotA_b, isB_bl, isB_non, isB_int, isB_str, isB_nd, isN_bl, strT_s, addA_lf, beq_tt, beq_tf, beq_ft, beq_ff, Option.getD_none, eYes_q, ↓ixB_fl, ↓kX4_fl, ↓setA_fl, ↓atI_fl, fl_get, fl_set, fl_getD, slA_lst, slA_tup, slA_fz, kAnd_ex, kOr_ex, kNot_ex, kIf_ex, kOpB_ex, kA1_ex, kD1_ex, up_id, ↓bSl_q, kSl0_q, kSl1_q, bnd_n, ↓bnd_s, kBd_i, List.length_set, beq_self_eq_true, getD_set, and_true, true_and, or_true, true_or, and_self, List.map_cons, List.map_nil, List.eraseIdx_cons_zero, List.length_cons, List.length_nil, List.length_map, List.replicate, List.append_nil, List.cons_append, List.nil_append, List.getElem?_cons_zero, List.getElem?_cons_succ, List.set_cons_zero, List.set_cons_succ, List.getD_cons_zero, List.getD_cons_succ, Option.getD_some, List.take, Nat.reduceSub, Nat.reduceAdd, Nat.reduceEqDiff, if_true, if_false, reduceIte, if_pos, if_neg, Int.toNat_zero, Int.toNat_one, Int.reduceLT, Int.reduceLE, Int.reduceToNat, List.tail_cons, Nat.zero_add, Nat.reduceLeDiff, Nat.reduceLT, Bool.and_true, Bool.true_and, Bool.and_self, Bool.not_true, Bool.not_false, decide_eq_true_eq, decide_true, decide_false, Bool.false_eq_true, eqT_ss, neT_ss, isi_ss, lenT_s, slA_s, ltT_i, lsetD_l, lockA_n, lockA_i, lockA_l, im_ints, whole_i])
theorem run_whole {x0 x1 x2 x3 : Option T} : ∀ (l : List Int) (acc : List T), runC 4 [4] (eNot (eCall m_law_whole 1 (aRef 4 aNil))) (eVar 4) (l.map .int) [x0, x1, x2, x3, none] acc = some (acc, [x0, x1, x2, x3, none])
  | [], acc => rfl
  | i :: l, acc => by
    have e0 : tgN 4 (.int i) [x0, x1, x2, x3, none] = some [x0, x1, x2, x3, some (.int i)] := rfl
    have e1 : eNot (eCall m_law_whole 1 (aRef 4 aNil)) [x0, x1, x2, x3, some (.int i)] = some (.ok (.bl false), [x0, x1, x2, x3, some (.int i)]) := by
      walk_at "vt"
    rw [List.map_cons]
    unfold runC
    rw [e0, Option.bind_some, e1, Option.bind_some]
    have ew : wipeS [x0, x1, x2, x3, some (T.int i)] [4] = [x0, x1, x2, x3, none] := rfl
    simp only [ew]
    exact run_whole l acc
theorem eq_nn : eqT (.nd .lst []) (.nd .lst []) = some (.bl true) := eqT_same rfl rfl rfl
theorem right_pg {l : List Int} {t : T} (hl : l.length < 100000) (hi : t.im = true) (h1 : m_law_due [.int 2, t] = some (.ok (.nd .lst (l.map .int)), [.int 2, t])) (h2 : m_law_tried [.int 2, t] = some (.ok (trV (some (.nd .lst (l.map .int)))), [.int 2, t])) : m_law_right [.int 2, t] = some (.ok (.bl true), [.int 2, t]) := by
  unfold m_law_right b_law_right
  walk_at "vt"
  rw [h1]
  walk_at "vt"
  rw [h2]
  simp only [trV]
  walk_at "vt"
  rw [eq_pg]
  walk_at "vt"
  rw [run_whole]
  walk_at "vt"
  rw [eq_nn]
  try rfl
theorem thing_number {t : T} (hi : t.im = true) (hs : isiT "str" t = some (.bl false)) : m_read_number [t] = some (orR none, [t]) := by
  unfold m_read_number b_read_number
  walk_at "vt"
  rw [hs]
  try rfl
theorem thing_signed {t : T} (hi : t.im = true) (hs : isiT "str" t = some (.bl false)) : m_read_signed [t] = some (orR none, [t]) := by
  unfold m_read_signed b_read_signed
  walk_at "vt"
  rw [hs]
  try rfl
theorem thing_pages {t : T} (hi : t.im = true) (hs : isiT "str" t = some (.bl false)) : m_read_pages [t] = some (orR none, [t]) := by
  unfold m_read_pages b_read_pages
  walk_at "vt"
  rw [hs]
  try rfl
theorem thing_law {t : T} (hi : t.im = true) (hs : isiT "str" t = some (.bl false)) : m_law_number [t] = some (.ok .non, [t]) := by
  unfold m_law_number b_law_number
  walk_at "vt"
  rw [hs]
  try rfl
theorem thing_due {k : Int} {t : T} (hi : t.im = true) (hs : isiT "str" t = some (.bl false)) : m_law_due [.int k, t] = some (.ok .non, [.int k, t]) := by
  have e := thing_law hi hs
  by_cases hk : k = 0
  · subst hk
    unfold m_law_due b_law_due
    walk_at "vt"
    rw [e]
    try rfl
  · unfold m_law_due b_law_due
    walk_at "vt"
    rw [hs]
    walk_at "vt"
    rw [e]
    try rfl
theorem right_thing {k : Int} {t : T} (hk : k = 0 ∨ k = 1 ∨ k = 2) (hi : t.im = true) (hs : isiT "str" t = some (.bl false)) : m_law_right [.int k, t] = some (.ok (.bl true), [.int k, t]) := by
  rcases hk with rfl | rfl | rfl
  · exact right_no hi (thing_due hi hs) (tried0 hi (thing_number hi hs))
  · exact right_no hi (thing_due hi hs) (tried1 hi (thing_signed hi hs))
  · exact right_no hi (thing_due hi hs) (tried2 hi (thing_pages hi hs))
theorem right_str {k : Int} {z : Str} (hk : k = 0 ∨ k = 1 ∨ k = 2) (hz : PyData.strOk z = true) (hl : z.length ≤ 3000) : m_law_right [.int k, .str z] = some (.ok (.bl true), [.int k, .str z]) := by
  rcases hk with rfl | rfl | rfl
  · have e1 := due_number hz (by omega)
    have e2 := read_number_eq hz (by omega)
    cases hn : numO z with
    | none =>
      rw [hn] at e1 e2
      exact right_no rfl e1 (tried0 (o := none) rfl e2)
    | some i =>
      rw [hn] at e1 e2
      exact right_int (by decide) rfl e1 (tried0 (o := some (.int i)) rfl e2)
  · have e1 := due_signed hz (by omega)
    have e2 := read_signed_eq hz (by omega)
    cases hn : sgO z with
    | none =>
      rw [hn] at e1 e2
      exact right_no rfl e1 (tried1 (o := none) rfl e2)
    | some i =>
      rw [hn] at e1 e2
      exact right_int (by decide) rfl e1 (tried1 (o := some (.int i)) rfl e2)
  · have e1 := due_pages hz hl
    have e2 := read_pages_eq hz hl
    cases hn : pgO z with
    | none =>
      rw [hn] at e1 e2
      exact right_no rfl e1 (tried2 (o := none) rfl e2)
    | some l =>
      rw [hn] at e1 e2
      have hll : l.length < 100000 := by
        unfold pgO at hn
        split at hn
        · cases hn
          decide
        · split at hn
          · cases hn
          · split at hn
            · cases hn
            · cases hn
              omega
      exact right_pg hll rfl e1 (tried2 (o := some (.nd .lst (l.map .int))) rfl e2)
end K23
namespace K23
open PySem L2 VT
def tkA (a n : Int) : Int := if a > 0 then a / n else a
def tkS (a s : Int) : Int := if a > 0 then s else s * 48271 % 2147483647
def tkR (a s n : Int) : Int := if a > 0 then a % n else (tkS a s / 13 * (tkS a s % 32749 + 17) % 2147483629 / 32) % n
abbrev bagT (a s : Int) : T := .nd .lst [.int a, .int s]
theorem tkR_lt (a s n : Int) (h0 : 0 < n) : 0 ≤ tkR a s n ∧ tkR a s n < n := by
  unfold tkR
  split
  · exact ⟨Int.emod_nonneg _ (by omega), Int.emod_lt_of_pos _ h0⟩
  · exact ⟨Int.emod_nonneg _ (by omega), Int.emod_lt_of_pos _ h0⟩
theorem rg_len {n : Int} : (rgT n).length = n.toNat := by rw [rgT_ints, List.length_map, rgI_length]
def two (x y r : Int) : Int := if r = 0 then x else y
theorem ix2 {x y a s : Int} : ixA (.nd .lst [.int x, .int y]) (.int (tkR a s 2)) = some (.int (two x y (tkR a s 2))) := by
  have := tkR_lt a s 2 (by decide)
  have h : tkR a s 2 = 0 ∨ tkR a s 2 = 1 := by omega
  rcases h with h | h
  · rw [h]; rfl
  · rw [h]; rfl
def three (x y z r : Int) : Int := if r = 0 then x else if r = 1 then y else z
theorem ix3 {x y z a s : Int} : ixA (.nd .lst [.int x, .int y, .int z]) (.int (tkR a s 3)) = some (.int (three x y z (tkR a s 3))) := by
  have := tkR_lt a s 3 (by decide)
  have h : tkR a s 3 = 0 ∨ tkR a s 3 = 1 ∨ tkR a s 3 = 2 := by omega
  rcases h with h | h | h
  · rw [h]; rfl
  · rw [h]; rfl
  · rw [h]; rfl
theorem three_le (x y z r lo hi : Int) (h1 : lo ≤ x) (h2 : x ≤ hi) (h3 : lo ≤ y) (h4 : y ≤ hi) (h5 : lo ≤ z) (h6 : z ≤ hi) : lo ≤ three x y z r ∧ three x y z r ≤ hi := by
  unfold three
  split
  · omega
  · split <;> omega
theorem eqT_bb {a b : Bool} : eqT (.bl a) (.bl b) = some (.bl (a == b)) := by cases a <;> cases b <;> rfl
theorem neT_bb {a b : Bool} : neT (.bl a) (.bl b) = some (.bl (!(a == b))) := by cases a <;> cases b <;> rfl
local macro_rules | `(tactic| walk_at "vtd") => `(tactic| first | omega | assumption | (simp only [List.length_set]; omega) | (simp only [plT, plAll, pl_ints, plI, Bool.and_true, Bool.and_self, ofS_ok, dg_ok]; done))
local macro_rules | `(tactic| walk_at "vt") => `(tactic| simp (disch := walk_at "vtd") only [↓eOp_q, kOp1_ok, kOp2_ok, kEn_q, ↓eOpB_q, kOpB_ok, kB1_q, ↓eOpV_q, kOpV0_q, kOpV_ok, kV1_q, ↓eUn_q, kUn_ok, ↓eOfN_q, ↓bOp_q, kBop_q, ↓bUn_q, ↓bOfP_q, kPl_q, kAt_q, tAt_nil, tAt_nd, nC_q, ↓nOfB_q, pVar_q, kPV_q, eVar_q, kVar_q, ↓sSeq_q, kSeq_nx, kSeq_rt, kSeq_ex, kSeq_bk, kSeq_ct, ↓sSet_q, kSet_ok, ↓sRet_q, kRet_ok, sNil_q, ↓sIf_q, kIf_q, ↓eNot_q, kNot_q, ↓eAnd_q, kAnd_q, ↓eOr_q, kOr_q, aNil_q, ↓aVal_q, kA1_ok, kA2_ok, ↓aRef_q, kAr_q, kAr2_ok, argOf_q, kArg_q, ↓eDisp_q, kD1_ok, kD2_q, valsOf_nil, valsOf_val, kVl_q, ↓eCall_q, kCall_ok, callR_q, kC1_q, kC2_q, argT_nil, argT_val, argT_pth, kAT1_q, kAT2_q, putB_nil, putB_val, tPut_nil, tPut_nd, ↓nTup_q, kNT_q, kNT2_q, baNil_q, ↓baVal_q, kBV_q, kBV2_q, ↓baRef_q, kBR_q, kBR2_q, ↓mBody_q, kBody_q, kBody2_nx, kBody2_rt, kBody2_ex, allS_nil, allS_some, imO_int, imO_str, imO_bl, imO_non, imO_tup, im_int, im_str, im_bl, im_non, im_tup, im_fz, im_lst, im_obj, imAll_nil, imAll_cons, mu_lst, mu_obj, gd_pos, gd_tr, subT_i, mulT_i, modT_i, fdivT_i, powT_i, ltT_i, gtT_i, minT_i, ixT_lst, ixT_fz, ixT_tup, lenT_lst, lenT_fz, lenT_tup, isN_non, isN_int, isN_nd, isN_str, setM_q, kSM_q, ob_some, sl, atI, ixN, kF4_q, putB_q, kPB_q, ↓sForR_q, kFR_q, ↓sForE_q, kFE_q, kFE2_q, seqO_lst, seqO_fz, seqO_tup, eqT_ii, neT_ii, inT_ints, kL1_q, kL2_nx, kL2_ct, kL2_bk, kL2_rt, runL_nil, runL_cons, tgN_q, lcFrom_q, kLc_q, lcEnd_q, kLcE_q, ↓eLcP_q, kLcP_q, kLcP1_q, kLcP2_q, kLcP3_q, kLP5_q, wipeS_nil, wipeS_cons, restS_nil, restS_cons, kRs_n, kRs_s, isi_ii, isi_ib, isi_ll, eqT_pl, neT_pl, kSet_ex, kRet_ex, sRaise_q, ↓sTryK_q, kTry_ex, kTry_nx, kTry_rt, kTry2_q, ↓sSetVE_q, kSv1_ok, kSv2_q, kSv3_q, kSv4_ints, ↓nLst_q, kNL_q, kNL2_q, ↓eLcR_q, kLR_q, mulT_l, eqT_ln, neT_ln, rep_ints, get_int, set_int, app_int, teq_int, teq_str, teq_non, teq_tnil, teq_tcons, teq_li, ixA_lst, ixA_fz, ixA_tup, ixA_str, ixB_lst, ixB_fz, ixB_tup, ixB_dK, ixB_dT, kDo_s, dix_Ki, dix_Ks, dix_T, kDt_q, keysT_n, keysT_i, keysT_s, kKc_q, ↓pIxA_q, kX7_q, kX6_q, kX5_q, kX4_lst, kX4_dK, kX4_dT, kX8_s, ↓sSetA_q, kSA_ok, kSA_ex, kSA0_q, kSA1_q, kSA2_q, kSA3_q, kSA4_q, setA_l, setA_Ki, setA_Ks, setA_T, kSt_q, mu_dK, mu_dT, im_dK, im_dT, inA_l, inA_t, inA_f, negT_i, ↓bNot_q, kBNot_q, ↓bAnd_q, kBAnd_q, lockT_q, lcN_q, kNlc_q, addA_i, addA_s, addA_ll, addA_fl, addA_tt, isA_n, isA_b, isNotA_n, isNotA_b, isB_bl, isB_non, isB_int, isB_str, isB_nd, isN_bl, strT_s, addA_lf, beq_tt, beq_tf, beq_ft, beq_ff, Option.getD_none, eYes_q, ↓ixB_fl, ↓kX4_fl, ↓setA_fl, ↓atI_fl, fl_get, fl_set, fl_getD, slA_lst, slA_tup, slA_fz, kAnd_ex, kOr_ex, kNot_ex, kIf_ex, kOpB_ex, kA1_ex, kD1_ex, up_id, ↓bSl_q, kSl0_q, kSl1_q, bnd_n, ↓bnd_s, kBd_i, List.length_set, beq_self_eq_true, getD_set, and_true, true_and, or_true, true_or, and_self, List.map_cons, List.map_nil, List.eraseIdx_cons_zero, List.length_cons, List.length_nil, List.length_map, List.replicate, List.append_nil, List.cons_append, List.nil_append, List.getElem?_cons_zero, List.getElem?_cons_succ, List.set_cons_zero, List.set_cons_succ, List.getD_cons_zero, List.getD_cons_succ, Option.getD_some, List.take, Nat.reduceSub, Nat.reduceAdd, Nat.reduceEqDiff, if_true, if_false, reduceIte, if_pos, if_neg, Int.toNat_zero, Int.toNat_one, Int.reduceLT, Int.reduceLE, Int.reduceToNat, List.tail_cons, Nat.zero_add, Nat.reduceLeDiff, Nat.reduceLT, Bool.and_true, Bool.true_and, Bool.and_self, Bool.not_true, Bool.not_false, decide_eq_true_eq, decide_true, decide_false, Bool.false_eq_true, im_ints, eqT_bb, neT_bb, rg_len])
theorem take_eq (a s n : Int) (h0 : 0 < n) (h1 : n < 1073741824) : m_law_take [bagT a s, .int n] = some (.ok (.int (tkR a s n)), [bagT (tkA a n) (tkS a s), .int n]) := by
  unfold m_law_take b_law_take bagT
  by_cases h : a > 0
  · walk_at "vt"
    simp [h, h0, h1, tkR, tkA, tkS]
  · walk_at "vt"
    simp [h, h0, h1, tkR, tkA, tkS]
theorem bag_ex (ns : List Int) (k : Int) (h0 : 0 ≤ k) (h1 : k < 1000) : ∃ r : Int × Int, m_law_bag [.nd .fz (ns.map .int), .int k] = some (.ok (bagT r.1 r.2), [.nd .fz (ns.map .int), .int k]) := by
  unfold m_law_bag b_law_bag
  by_cases h : k < (ns.length : Int)
  · by_cases h2 : ns.getD k.toNat 0 % 10 ^ 60 < 10 ^ 18
    · walk_at "vt"
      exact ⟨(_, _), rfl⟩
    · walk_at "vt"
      exact ⟨(_, _), rfl⟩
  · walk_at "vt"
    exact ⟨(_, _), rfl⟩
theorem ix_sg {z : Str} {i : Int} (h0 : 0 ≤ i) (h1 : i < (z.length : Int)) (hz : PyData.strOk z = true) (hl : z.length ≤ 100000) : ∃ c, c < 0x110000 ∧ ixT (.str z) (.int i) = some (.str (sg c)) := by
  have hn : i.toNat < z.cps.toList.length := by rw [← len_list]; omega
  refine ⟨z.cps.toList[i.toNat], (ok_iff.mp hz) _ (List.getElem_mem hn), ?_⟩
  show (if z.length ≤ 100000 then (atI z.cps.toList i).bind fun c => some (T.str ⟨#[c]⟩) else none) = _
  rw [if_pos hl]
  unfold atI ixN
  rw [if_pos h0, if_pos (by rw [← len_list]; exact h1), Option.bind_some, List.getElem?_eq_getElem hn]
  try rfl
def okW (B : Nat) (ws : List Str) : Prop := ∀ w ∈ ws, PyData.strOk w = true ∧ w.length ≤ B
theorem okW_nil {B : Nat} : okW B [] := fun _ h => nomatch h
theorem okW_cons {B : Nat} {w : Str} {ws : List Str} (h : PyData.strOk w = true) (hl : w.length ≤ B) (k : okW B ws) : okW B (w :: ws) := fun v hv => by
  rcases List.mem_cons.mp hv with rfl | hv
  · exact ⟨h, hl⟩
  · exact k v hv
theorem fg_len : (FG : Str).length = 10 := by decide +kernel
local macro_rules | `(tactic| walk_at "vtd") => `(tactic| first | omega | assumption | (simp only [List.length_set]; omega) | (simp only [plT, plAll, pl_ints, plI, Bool.and_true, Bool.and_self, ofS_ok, dg_ok, ofS_ok]; done))
local macro_rules | `(tactic| walk_at "vt") => `(tactic| simp (disch := walk_at "vtd") only [↓eOp_q, kOp1_ok, kOp2_ok, kEn_q, ↓eOpB_q, kOpB_ok, kB1_q, ↓eOpV_q, kOpV0_q, kOpV_ok, kV1_q, ↓eUn_q, kUn_ok, ↓eOfN_q, ↓bOp_q, kBop_q, ↓bUn_q, ↓bOfP_q, kPl_q, kAt_q, tAt_nil, tAt_nd, nC_q, ↓nOfB_q, pVar_q, kPV_q, eVar_q, kVar_q, ↓sSeq_q, kSeq_nx, kSeq_rt, kSeq_ex, kSeq_bk, kSeq_ct, ↓sSet_q, kSet_ok, ↓sRet_q, kRet_ok, sNil_q, ↓sIf_q, kIf_q, ↓eNot_q, kNot_q, ↓eAnd_q, kAnd_q, ↓eOr_q, kOr_q, aNil_q, ↓aVal_q, kA1_ok, kA2_ok, ↓aRef_q, kAr_q, kAr2_ok, argOf_q, kArg_q, ↓eDisp_q, kD1_ok, kD2_q, valsOf_nil, valsOf_val, kVl_q, ↓eCall_q, kCall_ok, callR_q, kC1_q, kC2_q, argT_nil, argT_val, argT_pth, kAT1_q, kAT2_q, putB_nil, putB_val, tPut_nil, tPut_nd, ↓nTup_q, kNT_q, kNT2_q, baNil_q, ↓baVal_q, kBV_q, kBV2_q, ↓baRef_q, kBR_q, kBR2_q, ↓mBody_q, kBody_q, kBody2_nx, kBody2_rt, kBody2_ex, allS_nil, allS_some, imO_int, imO_str, imO_bl, imO_non, imO_tup, im_int, im_str, im_bl, im_non, im_tup, im_fz, im_lst, im_obj, imAll_nil, imAll_cons, mu_lst, mu_obj, gd_pos, gd_tr, subT_i, mulT_i, modT_i, fdivT_i, powT_i, ltT_i, gtT_i, minT_i, ixT_lst, ixT_fz, ixT_tup, lenT_lst, lenT_fz, lenT_tup, isN_non, isN_int, isN_nd, isN_str, setM_q, kSM_q, ob_some, sl, atI, ixN, kF4_q, putB_q, kPB_q, ↓sForR_q, kFR_q, ↓sForE_q, kFE_q, kFE2_q, seqO_lst, seqO_fz, seqO_tup, eqT_ii, neT_ii, inT_ints, kL1_q, kL2_nx, kL2_ct, kL2_bk, kL2_rt, runL_nil, runL_cons, tgN_q, lcFrom_q, kLc_q, lcEnd_q, kLcE_q, ↓eLcP_q, kLcP_q, kLcP1_q, kLcP2_q, kLcP3_q, kLP5_q, wipeS_nil, wipeS_cons, restS_nil, restS_cons, kRs_n, kRs_s, isi_ii, isi_ib, isi_ll, eqT_pl, neT_pl, kSet_ex, kRet_ex, sRaise_q, ↓sTryK_q, kTry_ex, kTry_nx, kTry_rt, kTry2_q, ↓sSetVE_q, kSv1_ok, kSv2_q, kSv3_q, kSv4_ints, ↓nLst_q, kNL_q, kNL2_q, ↓eLcR_q, kLR_q, mulT_l, eqT_ln, neT_ln, rep_ints, get_int, set_int, app_int, teq_int, teq_str, teq_non, teq_tnil, teq_tcons, teq_li, ixA_lst, ixA_fz, ixA_tup, ixA_str, ixB_lst, ixB_fz, ixB_tup, ixB_dK, ixB_dT, kDo_s, dix_Ki, dix_Ks, dix_T, kDt_q, keysT_n, keysT_i, keysT_s, kKc_q, ↓pIxA_q, kX7_q, kX6_q, kX5_q, kX4_lst, kX4_dK, kX4_dT, kX8_s, ↓sSetA_q, kSA_ok, kSA_ex, kSA0_q, kSA1_q, kSA2_q, kSA3_q, kSA4_q, setA_l, setA_Ki, setA_Ks, setA_T, kSt_q, mu_dK, mu_dT, im_dK, im_dT, inA_l, inA_t, inA_f, negT_i, ↓bNot_q, kBNot_q, ↓bAnd_q, kBAnd_q, lockT_q, lcN_q, kNlc_q, addA_i, addA_s, addA_ll, addA_fl, addA_tt, isA_n, isA_b, isNotA_n, isNotA_b, isB_bl, isB_non, isB_int, isB_str, isB_nd, isN_bl, strT_s, addA_lf, beq_tt, beq_tf, beq_ft, beq_ff, Option.getD_none, eYes_q, ↓ixB_fl, ↓kX4_fl, ↓setA_fl, ↓atI_fl, fl_get, fl_set, fl_getD, slA_lst, slA_tup, slA_fz, kAnd_ex, kOr_ex, kNot_ex, kIf_ex, kOpB_ex, kA1_ex, kD1_ex, up_id, ↓bSl_q, kSl0_q, kSl1_q, bnd_n, ↓bnd_s, kBd_i, List.length_set, beq_self_eq_true, getD_set, and_true, true_and, or_true, true_or, and_self, List.map_cons, List.map_nil, List.eraseIdx_cons_zero, List.length_cons, List.length_nil, List.length_map, List.replicate, List.append_nil, List.cons_append, List.nil_append, List.getElem?_cons_zero, List.getElem?_cons_succ, List.set_cons_zero, List.set_cons_succ, List.getD_cons_zero, List.getD_cons_succ, Option.getD_some, List.take, Nat.reduceSub, Nat.reduceAdd, Nat.reduceEqDiff, if_true, if_false, reduceIte, if_pos, if_neg, Int.toNat_zero, Int.toNat_one, Int.reduceLT, Int.reduceLE, Int.reduceToNat, List.tail_cons, Nat.zero_add, Nat.reduceLeDiff, Nat.reduceLT, Bool.and_true, Bool.true_and, Bool.and_self, Bool.not_true, Bool.not_false, decide_eq_true_eq, decide_true, decide_false, Bool.false_eq_true, im_ints, eqT_bb, neT_bb, rg_len, take_eq, ↓ix2, ↓ix3, intT_f, intT_t, eqT_ss, neT_ss, isi_ss, lenT_s, slA_s, ltT_i])
theorem run_digits {m : Option T} : ∀ (l : List Int) (a s : Int) (acc : List T), ∃ ws a' s', runC 2 [2] eYes (eOp ixA (eOfN (nC (.str "0123456789"))) (eCall m_law_take 2 (aRef 0 (aVal (eOfN (nC (.int 10))) aNil)))) (l.map .int) [some (bagT a s), m, none] acc = some (acc ++ ws.map .str, [some (bagT a' s'), m, none]) ∧ ws.length = l.length ∧ okW 1 ws
  | [], a, s, acc => ⟨[], a, s, by unfold runC; simp, rfl, okW_nil⟩
  | i :: l, a, s, acc => by
    have t := tkR_lt a s 10 (by decide)
    obtain ⟨c, hc, ec⟩ := ix_sg (z := FG) (i := tkR a s 10) t.1 (by rw [fg_len]; exact t.2) (ofS_ok _) (by rw [fg_len]; decide)
    obtain ⟨ws, a', s', ih, h1, h2⟩ := run_digits (m := m) l (tkA a 10) (tkS a s) (acc ++ [.str (sg c)])
    refine ⟨sg c :: ws, a', s', ?_, by simp [h1], okW_cons (ok_sg hc) (Nat.le_refl 1) h2⟩
    have e0 : tgN 2 (.int i) [some (bagT a s), m, none] = some [some (bagT a s), m, some (.int i)] := rfl
    have ey : eYes [some (bagT a s), m, some (.int i)] = some (.ok (.bl true), [some (bagT a s), m, some (.int i)]) := rfl
    have e1 : (eOp ixA (eOfN (nC (.str "0123456789"))) (eCall m_law_take 2 (aRef 0 (aVal (eOfN (nC (.int 10))) aNil)))) [some (bagT a s), m, some (.int i)] = some (.ok (.str (sg c)), [some (bagT (tkA a 10) (tkS a s)), m, some (.int i)]) := by
      walk_at "vt"
      rw [ec]
      try rfl
    rw [List.map_cons]
    unfold runC
    rw [e0, Option.bind_some, ey, Option.bind_some]
    simp only
    rw [e1, Option.bind_some]
    have ew : wipeS [some (bagT (tkA a 10) (tkS a s)), m, some (T.int i)] [2] = [some (bagT (tkA a 10) (tkS a s)), m, none] := rfl
    simp only [ew]
    rw [ih]
    simp
theorem sum_okW {B : Nat} {ws : List Str} (h : okW B ws) : (ws.map (·.length)).sum ≤ ws.length * B := sum_le fun w hw => (h w hw).2
theorem join_okW {B : Nat} {a : Str} {ws : List Str} (ha : PyData.strOk a = true) (h : okW B ws) : PyData.strOk (Txt.join a ws) = true := ok_join ha fun w hw => (h w hw).1
theorem e0_len : ("" : Str).length = 0 := by decide +kernel
theorem ec_len : ("," : Str).length = 1 := by decide +kernel
theorem figs_n (n a s : Int) (h0 : 0 ≤ n) (h1 : n ≤ 50) : ∃ z a' s', (sRet (eUn (joinT "") (eLcR 2 [2] (eVar 1) eYes (eOp ixA (eOfN (nC (.str "0123456789"))) (eCall m_law_take 2 (aRef 0 (aVal (eOfN (nC (.int 10))) aNil))))))) [some (bagT a s), some (.int n), none] = some (.rt (.str z), [some (bagT a' s'), some (.int n), none]) ∧ PyData.strOk z = true ∧ z.length ≤ 50 := by
  obtain ⟨ws, a', s', e, hl, hw⟩ := run_digits (m := some (.int n)) (rgI n) a s []
  have hlen : ws.length ≤ 50 := by rw [hl, rgI_length]; omega
  have hs := sum_okW hw
  have hj := joinT_s (a := "") (k := .lst) (l := ws) rfl (by rw [e0_len]; omega)
  have hjl := join_len (a := "") (l := ws)
  rw [e0_len] at hjl
  refine ⟨Txt.join "" ws, a', s', ?_, join_okW (ofS_ok _) hw, by omega⟩
  have e1 : eLcR 2 [2] (eVar 1) eYes (eOp ixA (eOfN (nC (.str "0123456789"))) (eCall m_law_take 2 (aRef 0 (aVal (eOfN (nC (.int 10))) aNil)))) [some (bagT a s), some (.int n), none] = some (.ok (.nd .lst (ws.map .str)), [some (bagT a' s'), some (.int n), none]) := by
    have ev : eVar 1 [some (bagT a s), some (.int n), none] = some (.ok (.int n), [some (bagT a s), some (.int n), none]) := rfl
    rw [eLcR_q, ev, Option.bind_some, kLR_q, if_pos ⟨h0, by omega⟩, lcFrom_q, rgT_ints, if_pos (by rw [List.length_map, rgI_length]; omega)]
    have ew : wipeS [some (bagT a s), some (T.int n), none] [2] = [some (bagT a s), some (.int n), none] := rfl
    rw [ew, e]
    try rfl
  rw [sRet_q, eUn_q, e1, Option.bind_some, kUn_ok, hj]
  try rfl
theorem figures_ex (a s : Int) : ∃ z a' s', m_law_figures [bagT a s] = some (.ok (.str z), [bagT a' s']) ∧ PyData.strOk z = true ∧ z.length ≤ 50 := by
  have t3 := tkR_lt a s 3 (by decide)
  have t5 := tkR_lt (tkA a 3) (tkS a s) 5 (by decide)
  have hb := three_le (1 + tkR a s 3) (38 + tkR (tkA a 3) (tkS a s) 5) 1 (tkR (tkA (tkA a 3) 5) (tkS (tkA a 3) (tkS a s)) 3) 0 50 (by omega) (by omega) (by omega) (by omega) (by omega) (by omega)
  obtain ⟨z, a', s', e, h1, h2⟩ := figs_n _ (tkA (tkA (tkA a 3) 5) 3) (tkS (tkA (tkA a 3) 5) (tkS (tkA a 3) (tkS a s))) hb.1 hb.2
  refine ⟨z, a', s', ?_, h1, h2⟩
  unfold m_law_figures b_law_figures
  generalize (sRet (eUn (joinT "") (eLcR 2 [2] (eVar 1) eYes (eOp ixA (eOfN (nC (.str "0123456789"))) (eCall m_law_take 2 (aRef 0 (aVal (eOfN (nC (.int 10))) aNil))))))) = g at e
  walk_at "vt"
  rw [e]
  try rfl
end K23
namespace K23
open PySem L2 VT
local macro_rules | `(tactic| walk_at "vtd") => `(tactic| first | omega | assumption | (simp only [List.length_set]; omega) | (simp only [plT, plAll, pl_ints, plI, Bool.and_true, Bool.and_self, ofS_ok, dg_ok, ofS_ok]; done))
local macro_rules | `(tactic| walk_at "vt") => `(tactic| simp (disch := walk_at "vtd") only [↓eOp_q, kOp1_ok, kOp2_ok, kEn_q, ↓eOpB_q, kOpB_ok, kB1_q, ↓eOpV_q, kOpV0_q, kOpV_ok, kV1_q, ↓eUn_q, kUn_ok, ↓eOfN_q, ↓bOp_q, kBop_q, ↓bUn_q, ↓bOfP_q, kPl_q, kAt_q, tAt_nil, tAt_nd, nC_q, ↓nOfB_q, pVar_q, kPV_q, eVar_q, kVar_q, ↓sSeq_q, kSeq_nx, kSeq_rt, kSeq_ex, kSeq_bk, kSeq_ct, ↓sSet_q, kSet_ok, ↓sRet_q, kRet_ok, sNil_q, ↓sIf_q, kIf_q, ↓eNot_q, kNot_q, ↓eAnd_q, kAnd_q, ↓eOr_q, kOr_q, aNil_q, ↓aVal_q, kA1_ok, kA2_ok, ↓aRef_q, kAr_q, kAr2_ok, argOf_q, kArg_q, ↓eDisp_q, kD1_ok, kD2_q, valsOf_nil, valsOf_val, kVl_q, ↓eCall_q, kCall_ok, callR_q, kC1_q, kC2_q, argT_nil, argT_val, argT_pth, kAT1_q, kAT2_q, putB_nil, putB_val, tPut_nil, tPut_nd, ↓nTup_q, kNT_q, kNT2_q, baNil_q, ↓baVal_q, kBV_q, kBV2_q, ↓baRef_q, kBR_q, kBR2_q, ↓mBody_q, kBody_q, kBody2_nx, kBody2_rt, kBody2_ex, allS_nil, allS_some, imO_int, imO_str, imO_bl, imO_non, imO_tup, im_int, im_str, im_bl, im_non, im_tup, im_fz, im_lst, im_obj, imAll_nil, imAll_cons, mu_lst, mu_obj, gd_pos, gd_tr, subT_i, mulT_i, modT_i, fdivT_i, powT_i, ltT_i, gtT_i, minT_i, ixT_lst, ixT_fz, ixT_tup, lenT_lst, lenT_fz, lenT_tup, isN_non, isN_int, isN_nd, isN_str, setM_q, kSM_q, ob_some, sl, atI, ixN, kF4_q, putB_q, kPB_q, ↓sForR_q, kFR_q, ↓sForE_q, kFE_q, kFE2_q, seqO_lst, seqO_fz, seqO_tup, eqT_ii, neT_ii, inT_ints, kL1_q, kL2_nx, kL2_ct, kL2_bk, kL2_rt, runL_nil, runL_cons, tgN_q, lcFrom_q, kLc_q, lcEnd_q, kLcE_q, ↓eLcP_q, kLcP_q, kLcP1_q, kLcP2_q, kLcP3_q, kLP5_q, wipeS_nil, wipeS_cons, restS_nil, restS_cons, kRs_n, kRs_s, isi_ii, isi_ib, isi_ll, eqT_pl, neT_pl, kSet_ex, kRet_ex, sRaise_q, ↓sTryK_q, kTry_ex, kTry_nx, kTry_rt, kTry2_q, ↓sSetVE_q, kSv1_ok, kSv2_q, kSv3_q, kSv4_ints, ↓nLst_q, kNL_q, kNL2_q, ↓eLcR_q, kLR_q, mulT_l, eqT_ln, neT_ln, rep_ints, get_int, set_int, app_int, teq_int, teq_str, teq_non, teq_tnil, teq_tcons, teq_li, ixA_lst, ixA_fz, ixA_tup, ixA_str, ixB_lst, ixB_fz, ixB_tup, ixB_dK, ixB_dT, kDo_s, dix_Ki, dix_Ks, dix_T, kDt_q, keysT_n, keysT_i, keysT_s, kKc_q, ↓pIxA_q, kX7_q, kX6_q, kX5_q, kX4_lst, kX4_dK, kX4_dT, kX8_s, ↓sSetA_q, kSA_ok, kSA_ex, kSA0_q, kSA1_q, kSA2_q, kSA3_q, kSA4_q, setA_l, setA_Ki, setA_Ks, setA_T, kSt_q, mu_dK, mu_dT, im_dK, im_dT, inA_l, inA_t, inA_f, negT_i, ↓bNot_q, kBNot_q, ↓bAnd_q, kBAnd_q, lockT_q, lcN_q, kNlc_q, addA_i, addA_s, addA_ll, addA_fl, addA_tt, isA_n, isA_b, isNotA_n, isNotA_b, isB_bl, isB_non, isB_int, isB_str, isB_nd, isN_bl, strT_s, addA_lf, beq_tt, beq_tf, beq_ft, beq_ff, Option.getD_none, eYes_q, ↓ixB_fl, ↓kX4_fl, ↓setA_fl, ↓atI_fl, fl_get, fl_set, fl_getD, slA_lst, slA_tup, slA_fz, kAnd_ex, kOr_ex, kNot_ex, kIf_ex, kOpB_ex, kA1_ex, kD1_ex, up_id, ↓bSl_q, kSl0_q, kSl1_q, bnd_n, ↓bnd_s, kBd_i, List.length_set, beq_self_eq_true, getD_set, and_true, true_and, or_true, true_or, and_self, List.map_cons, List.map_nil, List.eraseIdx_cons_zero, List.length_cons, List.length_nil, List.length_map, List.replicate, List.append_nil, List.cons_append, List.nil_append, List.getElem?_cons_zero, List.getElem?_cons_succ, List.set_cons_zero, List.set_cons_succ, List.getD_cons_zero, List.getD_cons_succ, Option.getD_some, List.take, Nat.reduceSub, Nat.reduceAdd, Nat.reduceEqDiff, if_true, if_false, reduceIte, if_pos, if_neg, Int.toNat_zero, Int.toNat_one, Int.reduceLT, Int.reduceLE, Int.reduceToNat, List.tail_cons, Nat.zero_add, Nat.reduceLeDiff, Nat.reduceLT, Bool.and_true, Bool.true_and, Bool.and_self, Bool.not_true, Bool.not_false, decide_eq_true_eq, decide_true, decide_false, Bool.false_eq_true, im_ints, eqT_bb, neT_bb, rg_len, take_eq, ↓ix2, ↓ix3, intT_f, intT_t, eqT_ss, neT_ss, isi_ss, lenT_s, slA_s, ltT_i, strT_d])
theorem run_words {w0 n0 w1 : Option T} : ∀ (l : List Int) (a s : Int) (acc : List T), (∀ k ∈ l, 0 ≤ k ∧ k ≤ 100) → ∃ ws a' s', runC 4 [4] eYes (eUn strT (eOp addA (eOfN (bOp mulT (nC (.int 3)) (bOfP (pVar 4)))) (eCall m_law_take 2 (aRef 0 (aVal (eOfN (nC (.int 2))) aNil))))) (l.map .int) [some (bagT a s), w0, n0, w1, none] acc = some (acc ++ ws.map .str, [some (bagT a' s'), w0, n0, w1, none]) ∧ ws.length = l.length ∧ okW 4 ws
  | [], a, s, acc, _ => ⟨[], a, s, by unfold runC; simp, rfl, okW_nil⟩
  | i :: l, a, s, acc, h => by
    obtain ⟨i0, i1⟩ := h i List.mem_cons_self
    have t := tkR_lt a s 2 (by decide)
    have hn : (3 * i + tkR a s 2).natAbs < 10 ^ 3 := by
      have : (10 : Nat) ^ 3 = 1000 := rfl
      omega
    have hn6 : (3 * i + tkR a s 2).natAbs < 10 ^ 60 := Nat.lt_of_lt_of_le hn (Nat.pow_le_pow_right (by decide) (by decide))
    obtain ⟨ws, a', s', ih, h1, h2⟩ := run_words (w0 := w0) (n0 := n0) (w1 := w1) l (tkA a 2) (tkS a s) (acc ++ [.str (dg (3 * i + tkR a s 2))]) fun k hk => h k (List.mem_cons_of_mem _ hk)
    refine ⟨dg (3 * i + tkR a s 2) :: ws, a', s', ?_, by simp [h1], okW_cons (dg_ok _) (dg_len (by decide) hn) h2⟩
    have e0 : tgN 4 (.int i) [some (bagT a s), w0, n0, w1, none] = some [some (bagT a s), w0, n0, w1, some (.int i)] := rfl
    have ey : eYes [some (bagT a s), w0, n0, w1, some (.int i)] = some (.ok (.bl true), [some (bagT a s), w0, n0, w1, some (.int i)]) := rfl
    have e1 : (eUn strT (eOp addA (eOfN (bOp mulT (nC (.int 3)) (bOfP (pVar 4)))) (eCall m_law_take 2 (aRef 0 (aVal (eOfN (nC (.int 2))) aNil))))) [some (bagT a s), w0, n0, w1, some (.int i)] = some (.ok (.str (dg (3 * i + tkR a s 2))), [some (bagT (tkA a 2) (tkS a s)), w0, n0, w1, some (.int i)]) := by
      walk_at "vt"
    rw [List.map_cons]
    unfold runC
    rw [e0, Option.bind_some, ey, Option.bind_some]
    simp only
    rw [e1, Option.bind_some]
    have ew : wipeS [some (bagT (tkA a 2) (tkS a s)), w0, n0, w1, some (T.int i)] [4] = [some (bagT (tkA a 2) (tkS a s)), w0, n0, w1, none] := rfl
    simp only [ew]
    rw [ih]
    simp
theorem mn_ex (a s w : Int) : ∃ n a' s', (sSet 2 (eOp ixA (eDisp .lst (aVal (eCall m_law_take 2 (aRef 0 (aVal (eOfN (nC (.int 5))) aNil))) (aVal (eOp addA (eOfN (nC (.int 39))) (eCall m_law_take 2 (aRef 0 (aVal (eOfN (nC (.int 4))) aNil)))) aNil))) (eUn intT (eOpB eqT (eCall m_law_take 2 (aRef 0 (aVal (eOfN (nC (.int 4))) aNil))) (nC (.int 0)))))) [some (bagT a s), some (.int w), none, none, none] = some (.nx, [some (bagT a' s'), some (.int w), some (.int n), none, none]) ∧ 0 ≤ n ∧ n ≤ 42 := by
  have t5 := tkR_lt a s 5 (by decide)
  have t4 := tkR_lt (tkA a 5) (tkS a s) 4 (by decide)
  by_cases h : tkR (tkA (tkA a 5) 4) (tkS (tkA a 5) (tkS a s)) 4 = 0
  · refine ⟨39 + tkR (tkA a 5) (tkS a s) 4, tkA (tkA (tkA a 5) 4) 4, tkS (tkA (tkA a 5) 4) (tkS (tkA a 5) (tkS a s)), ?_, by omega, by omega⟩
    walk_at "vt"
    rw [decide_eq_true h]
    try rfl
  · refine ⟨tkR a s 5, tkA (tkA (tkA a 5) 4) 4, tkS (tkA (tkA a 5) 4) (tkS (tkA a 5) (tkS a s)), ?_, by omega, by omega⟩
    walk_at "vt"
    rw [decide_eq_false h]
    try rfl
theorem wd_ex (a s w n : Int) (h0 : 0 ≤ n) (h1 : n ≤ 42) : ∃ ws a' s', (sSet 3 (eLcR 4 [4] (eVar 2) eYes (eUn strT (eOp addA (eOfN (bOp mulT (nC (.int 3)) (bOfP (pVar 4)))) (eCall m_law_take 2 (aRef 0 (aVal (eOfN (nC (.int 2))) aNil))))))) [some (bagT a s), some (.int w), some (.int n), none, none] = some (.nx, [some (bagT a' s'), some (.int w), some (.int n), some (.nd .lst (ws.map .str)), none]) ∧ (ws.length : Int) = n ∧ okW 4 ws := by
  obtain ⟨ws, a', s', e, hl, hw⟩ := run_words (w0 := some (.int w)) (n0 := some (.int n)) (w1 := none) (rgI n) a s [] fun k hk => by have := mem_rgI.mp hk; omega
  refine ⟨ws, a', s', ?_, by rw [hl, rgI_length]; omega, hw⟩
  have e1 : eLcR 4 [4] (eVar 2) eYes (eUn strT (eOp addA (eOfN (bOp mulT (nC (.int 3)) (bOfP (pVar 4)))) (eCall m_law_take 2 (aRef 0 (aVal (eOfN (nC (.int 2))) aNil))))) [some (bagT a s), some (.int w), some (.int n), none, none] = some (.ok (.nd .lst (ws.map .str)), [some (bagT a' s'), some (.int w), some (.int n), none, none]) := by
    have ev : eVar 2 [some (bagT a s), some (.int w), some (.int n), none, none] = some (.ok (.int n), [some (bagT a s), some (.int w), some (.int n), none, none]) := rfl
    rw [eLcR_q, ev, Option.bind_some, kLR_q, if_pos ⟨h0, by omega⟩, lcFrom_q, rgT_ints, if_pos (by rw [List.length_map, rgI_length]; omega)]
    have ew : wipeS [some (bagT a s), some (.int w), some (T.int n), none, none] [4] = [some (bagT a s), some (.int w), some (.int n), none, none] := rfl
    rw [ew, e]
    try rfl
  rw [sSet_q, e1]
  try rfl
theorem ixT_w {ws : List Str} {k : Int} (h0 : 0 ≤ k) (h1 : k < (ws.length : Int)) : ∃ v, v ∈ ws ∧ (ws.map T.str)[k.toNat]? = some (.str v) := by
  have hn : k.toNat < ws.length := by omega
  refine ⟨ws[k.toNat], List.getElem_mem hn, ?_⟩
  rw [List.getElem?_map, List.getElem?_eq_getElem hn]
  try rfl
theorem sv_w {ws : List Str} {k : Int} {v : Str} {i : Nat} {S : TSt} (h0 : 0 ≤ k) (h1 : k < (ws.length : Int)) : kSv4 k (.str v) i S (.nd .lst (ws.map .str)) = some (.nx, S.set i (some (.nd .lst ((ws.set k.toNat v).map .str)))) := by
  have e : ixN (ws.map T.str).length k = some k.toNat := by
    unfold ixN
    rw [List.length_map, if_pos h0, if_pos h1]
  rw [List.length_map] at e
  unfold kSv4 setM
  simp [e, List.map_set]
theorem if_ex (a s w n : Int) (ws : List Str) (hn : (ws.length : Int) = n) (h42 : n ≤ 42) (hw : okW 4 ws) : ∃ us a' s', (sIf (eAnd (eOfN (bOp eqT (bOfP (pVar 1)) (nC (.int 3)))) (eOfN (bOp gtT (bOfP (pVar 2)) (nC (.int 1))))) (sSetVE 3 (eCall m_law_take 2 (aRef 0 (aRef 2 aNil))) (eOpV ixT 3 (eCall m_law_take 2 (aRef 0 (aRef 2 aNil))))) sNil) [some (bagT a s), some (.int w), some (.int n), some (.nd .lst (ws.map .str)), none] = some (.nx, [some (bagT a' s'), some (.int w), some (.int n), some (.nd .lst (us.map .str)), none]) ∧ (us.length : Int) = n ∧ okW 4 us := by
  by_cases h : w = 3
  · by_cases h1 : 1 < n
    · have t := tkR_lt a s n (by omega)
      have t2 := tkR_lt (tkA a n) (tkS a s) n (by omega)
      obtain ⟨v, hv, ev⟩ := ixT_w (ws := ws) (k := tkR a s n) t.1 (by omega)
      refine ⟨ws.set (tkR (tkA a n) (tkS a s) n).toNat v, tkA (tkA a n) n, tkS (tkA a n) (tkS a s), ?_, by rw [List.length_set]; exact hn, fun u hu => ?_⟩
      · subst h
        have e2 := sv_w (ws := ws) (k := tkR (tkA a n) (tkS a s) n) (v := v) (i := 3) (S := [some (bagT (tkA (tkA a n) n) (tkS (tkA a n) (tkS a s))), some (.int 3), some (.int n), some (.nd .lst (ws.map .str)), none]) t2.1 (by omega)
        walk_at "vt"
        rw [ev]
        walk_at "vt"
        rw [e2]
        try rfl
      · rcases List.mem_or_eq_of_mem_set hu with hu | rfl
        · exact hw u hu
        · exact hw _ hv
    · exact ⟨ws, a, s, by walk_at "vt", hn, hw⟩
  · exact ⟨ws, a, s, by walk_at "vt", hn, hw⟩
theorem ret_ex (a s w n : Int) (ws : List Str) (hn : (ws.length : Int) = n) (h42 : n ≤ 42) (hw : okW 4 ws) : ∃ z, (sRet (eOpB ixA (eDisp .lst (aVal (eOfN (nC (.str "-"))) (aVal (eUn (joinT ",") (eVar 3)) aNil))) (bUn intT (bOp gtT (bOfP (pVar 2)) (nC (.int 0)))))) [some (bagT a s), some (.int w), some (.int n), some (.nd .lst (ws.map .str)), none] = some (.rt (.str z), [some (bagT a s), some (.int w), some (.int n), none, none]) ∧ PyData.strOk z = true ∧ z.length ≤ 300 := by
  have hs := sum_okW hw
  have hj := joinT_s (a := ",") (k := .lst) (l := ws) rfl (by rw [ec_len]; omega)
  have hjl := join_len (a := ",") (l := ws)
  rw [ec_len] at hjl
  by_cases h : 0 < n
  · refine ⟨Txt.join "," ws, ?_, join_okW (ofS_ok _) hw, by omega⟩
    walk_at "vt"
    rw [hj]
    walk_at "vt"
    rw [decide_eq_true h]
    try rfl
  · refine ⟨("-" : Str), ?_, ofS_ok _, by decide +kernel⟩
    walk_at "vt"
    rw [hj]
    walk_at "vt"
    rw [decide_eq_false h]
    try rfl
end K23
namespace K23
open PySem L2 VT
local macro_rules | `(tactic| walk_at "vtd") => `(tactic| first | omega | assumption | (simp only [List.length_set]; omega) | (simp only [plT, plAll, pl_ints, plI, Bool.and_true, Bool.and_self, ofS_ok, dg_ok, ofS_ok]; done))
local macro_rules | `(tactic| walk_at "vt") => `(tactic| simp (disch := walk_at "vtd") only [↓eOp_q, kOp1_ok, kOp2_ok, kEn_q, ↓eOpB_q, kOpB_ok, kB1_q, ↓eOpV_q, kOpV0_q, kOpV_ok, kV1_q, ↓eUn_q, kUn_ok, ↓eOfN_q, ↓bOp_q, kBop_q, ↓bUn_q, ↓bOfP_q, kPl_q, kAt_q, tAt_nil, tAt_nd, nC_q, ↓nOfB_q, pVar_q, kPV_q, eVar_q, kVar_q, ↓sSeq_q, kSeq_nx, kSeq_rt, kSeq_ex, kSeq_bk, kSeq_ct, ↓sSet_q, kSet_ok, ↓sRet_q, kRet_ok, sNil_q, ↓sIf_q, kIf_q, ↓eNot_q, kNot_q, ↓eAnd_q, kAnd_q, ↓eOr_q, kOr_q, aNil_q, ↓aVal_q, kA1_ok, kA2_ok, ↓aRef_q, kAr_q, kAr2_ok, argOf_q, kArg_q, ↓eDisp_q, kD1_ok, kD2_q, valsOf_nil, valsOf_val, kVl_q, ↓eCall_q, kCall_ok, callR_q, kC1_q, kC2_q, argT_nil, argT_val, argT_pth, kAT1_q, kAT2_q, putB_nil, putB_val, tPut_nil, tPut_nd, ↓nTup_q, kNT_q, kNT2_q, baNil_q, ↓baVal_q, kBV_q, kBV2_q, ↓baRef_q, kBR_q, kBR2_q, ↓mBody_q, kBody_q, kBody2_nx, kBody2_rt, kBody2_ex, allS_nil, allS_some, imO_int, imO_str, imO_bl, imO_non, imO_tup, im_int, im_str, im_bl, im_non, im_tup, im_fz, im_lst, im_obj, imAll_nil, imAll_cons, mu_lst, mu_obj, gd_pos, gd_tr, subT_i, mulT_i, modT_i, fdivT_i, powT_i, ltT_i, gtT_i, minT_i, ixT_lst, ixT_fz, ixT_tup, lenT_lst, lenT_fz, lenT_tup, isN_non, isN_int, isN_nd, isN_str, setM_q, kSM_q, ob_some, sl, atI, ixN, kF4_q, putB_q, kPB_q, ↓sForR_q, kFR_q, ↓sForE_q, kFE_q, kFE2_q, seqO_lst, seqO_fz, seqO_tup, eqT_ii, neT_ii, inT_ints, kL1_q, kL2_nx, kL2_ct, kL2_bk, kL2_rt, runL_nil, runL_cons, tgN_q, lcFrom_q, kLc_q, lcEnd_q, kLcE_q, ↓eLcP_q, kLcP_q, kLcP1_q, kLcP2_q, kLcP3_q, kLP5_q, wipeS_nil, wipeS_cons, restS_nil, restS_cons, kRs_n, kRs_s, isi_ii, isi_ib, isi_ll, eqT_pl, neT_pl, kSet_ex, kRet_ex, sRaise_q, ↓sTryK_q, kTry_ex, kTry_nx, kTry_rt, kTry2_q, ↓sSetVE_q, kSv1_ok, kSv2_q, kSv3_q, kSv4_ints, ↓nLst_q, kNL_q, kNL2_q, ↓eLcR_q, kLR_q, mulT_l, eqT_ln, neT_ln, rep_ints, get_int, set_int, app_int, teq_int, teq_str, teq_non, teq_tnil, teq_tcons, teq_li, ixA_lst, ixA_fz, ixA_tup, ixA_str, ixB_lst, ixB_fz, ixB_tup, ixB_dK, ixB_dT, kDo_s, dix_Ki, dix_Ks, dix_T, kDt_q, keysT_n, keysT_i, keysT_s, kKc_q, ↓pIxA_q, kX7_q, kX6_q, kX5_q, kX4_lst, kX4_dK, kX4_dT, kX8_s, ↓sSetA_q, kSA_ok, kSA_ex, kSA0_q, kSA1_q, kSA2_q, kSA3_q, kSA4_q, setA_l, setA_Ki, setA_Ks, setA_T, kSt_q, mu_dK, mu_dT, im_dK, im_dT, inA_l, inA_t, inA_f, negT_i, ↓bNot_q, kBNot_q, ↓bAnd_q, kBAnd_q, lockT_q, lcN_q, kNlc_q, addA_i, addA_s, addA_ll, addA_fl, addA_tt, isA_n, isA_b, isNotA_n, isNotA_b, isB_bl, isB_non, isB_int, isB_str, isB_nd, isN_bl, strT_s, addA_lf, beq_tt, beq_tf, beq_ft, beq_ff, Option.getD_none, eYes_q, ↓ixB_fl, ↓kX4_fl, ↓setA_fl, ↓atI_fl, fl_get, fl_set, fl_getD, slA_lst, slA_tup, slA_fz, kAnd_ex, kOr_ex, kNot_ex, kIf_ex, kOpB_ex, kA1_ex, kD1_ex, up_id, ↓bSl_q, kSl0_q, kSl1_q, bnd_n, ↓bnd_s, kBd_i, List.length_set, beq_self_eq_true, getD_set, and_true, true_and, or_true, true_or, and_self, List.map_cons, List.map_nil, List.eraseIdx_cons_zero, List.length_cons, List.length_nil, List.length_map, List.replicate, List.append_nil, List.cons_append, List.nil_append, List.getElem?_cons_zero, List.getElem?_cons_succ, List.set_cons_zero, List.set_cons_succ, List.getD_cons_zero, List.getD_cons_succ, Option.getD_some, List.take, Nat.reduceSub, Nat.reduceAdd, Nat.reduceEqDiff, if_true, if_false, reduceIte, if_pos, if_neg, Int.toNat_zero, Int.toNat_one, Int.reduceLT, Int.reduceLE, Int.reduceToNat, List.tail_cons, Nat.zero_add, Nat.reduceLeDiff, Nat.reduceLT, Bool.and_true, Bool.true_and, Bool.and_self, Bool.not_true, Bool.not_false, decide_eq_true_eq, decide_true, decide_false, Bool.false_eq_true, im_ints, eqT_bb, neT_bb, rg_len, take_eq, ↓ix2, ↓ix3, intT_f, intT_t, eqT_ss, neT_ss, isi_ss, lenT_s, slA_s, ltT_i, strT_d])
theorem seq_nx {s u : SF} {S S' : TSt} (h : s S = some (.nx, S')) : sSeq s u S = u S' := by rw [sSeq_q, h]; rfl
theorem text_ex (a s : Int) : ∃ z a' s', m_law_text [bagT a s] = some (.ok (.str z), [bagT a' s']) ∧ PyData.strOk z = true ∧ z.length ≤ 300 := by
  have t4 := tkR_lt a s 4 (by decide)
  have e1 : (sSet 1 (eCall m_law_take 2 (aRef 0 (aVal (eOfN (nC (.int 4))) aNil)))) [some (bagT a s), none, none, none, none] = some (.nx, [some (bagT (tkA a 4) (tkS a s)), some (.int (tkR a s 4)), none, none, none]) := by
    walk_at "vt"
  by_cases h : tkR a s 4 < 2
  · obtain ⟨z, a', s', ef, h1, h2⟩ := figures_ex (tkA a 4) (tkS a s)
    have h01 : tkR a s 4 = 0 ∨ tkR a s 4 = 1 := by omega
    rcases h01 with h0 | h0
    · have hl : ("" : Str).length + z.length ≤ 100000 := by rw [e0_len]; omega
      refine ⟨("" : Str) ++ z, a', s', ?_, ok_app (ofS_ok _) h1, by rw [len_app, e0_len]; omega⟩
      unfold m_law_text b_law_text
      walk_at "vt"
      rw [h0]
      walk_at "vt"
      rw [ef]
      walk_at "vt"
    · have hl1 : ("-" : Str).length = 1 := by decide +kernel
      have hl : ("-" : Str).length + z.length ≤ 100000 := by rw [hl1]; omega
      refine ⟨("-" : Str) ++ z, a', s', ?_, ok_app (ofS_ok _) h1, by rw [len_app, hl1]; omega⟩
      unfold m_law_text b_law_text
      walk_at "vt"
      rw [h0]
      walk_at "vt"
      rw [ef]
      walk_at "vt"
  · have e2 : (sIf (eOfN (bOp ltT (bOfP (pVar 1)) (nC (.int 2)))) (sRet (eOp addA (eOfN (nOfB (bOp ixB (nLst (baVal (nC (.str "")) (baVal (nC (.str "-")) baNil))) (bOfP (pVar 1))))) (eCall m_law_figures 1 (aRef 0 aNil)))) sNil) [some (bagT (tkA a 4) (tkS a s)), some (.int (tkR a s 4)), none, none, none] = some (.nx, [some (bagT (tkA a 4) (tkS a s)), some (.int (tkR a s 4)), none, none, none]) := by
      walk_at "vt"
    obtain ⟨n, a3, s3, e3, n0, n1⟩ := mn_ex (tkA a 4) (tkS a s) (tkR a s 4)
    obtain ⟨ws, a4, s4, e4, w1, w2⟩ := wd_ex a3 s3 (tkR a s 4) n n0 n1
    obtain ⟨us, a5, s5, e5, u1, u2⟩ := if_ex a4 s4 (tkR a s 4) n ws w1 n1 w2
    obtain ⟨z, e6, z1, z2⟩ := ret_ex a5 s5 (tkR a s 4) n us u1 n1 u2
    refine ⟨z, a5, s5, ?_, z1, z2⟩
    unfold m_law_text b_law_text
    rw [mBody_q]
    show (sSeq _ _ [some (bagT a s), none, none, none, none]).bind (kBody 1) = _
    rw [seq_nx e1, seq_nx e2, seq_nx e3, seq_nx e4, seq_nx e5, e6]
    try rfl
abbrev SG : Str := " !\"#$&'()*+,-./0123456789:;<=>?@ABCDEFGHIJKLMNOPQRSTUVWXYZ[\\]^_`abcdefghijklmnopqrstuvwxyz{|}~\n"
theorem sg_ok : PyData.strOk SG = true := ofS_ok _
theorem sgs_len : (SG : Str).length = 95 := by decide +kernel
theorem sign_ex (a s w : Int) (x : T) : ∃ v a' s', (sSet 4 (eOp ixA (eDisp .lst (aVal (eOpV ixT 2 (eCall m_law_take 2 (aRef 0 (aVal (eOfN (nC (.int 95))) aNil)))) (aVal (eOfN (nC (.str "0"))) (aVal (eOfN (nC (.str "-"))) (aVal (eOfN (nC (.str ","))) aNil))))) (eCall m_law_take 2 (aRef 0 (aVal (eOfN (nC (.int 4))) aNil))))) [some (bagT a s), some x, some (.str SG), some (.int w), none, none] = some (.nx, [some (bagT a' s'), some x, some (.str SG), some (.int w), some (.str v), none]) ∧ PyData.strOk v = true ∧ v.length ≤ 1 := by
  have t := tkR_lt a s 95 (by decide)
  have t4 := tkR_lt (tkA a 95) (tkS a s) 4 (by decide)
  obtain ⟨c, hc, ec⟩ := ix_sg (z := SG) (i := tkR a s 95) t.1 (by rw [sgs_len]; exact t.2) sg_ok (by rw [sgs_len]; decide)
  have key : ∀ v : Str, PyData.strOk v = true → v.length ≤ 1 → ([T.str (sg c), .str "0", .str "-", .str ","] : List T)[(tkR (tkA a 95) (tkS a s) 4).toNat]? = some (.str v) → ∃ v a' s', (sSet 4 (eOp ixA (eDisp .lst (aVal (eOpV ixT 2 (eCall m_law_take 2 (aRef 0 (aVal (eOfN (nC (.int 95))) aNil)))) (aVal (eOfN (nC (.str "0"))) (aVal (eOfN (nC (.str "-"))) (aVal (eOfN (nC (.str ","))) aNil))))) (eCall m_law_take 2 (aRef 0 (aVal (eOfN (nC (.int 4))) aNil))))) [some (bagT a s), some x, some (.str SG), some (.int w), none, none] = some (.nx, [some (bagT a' s'), some x, some (.str SG), some (.int w), some (.str v), none]) ∧ PyData.strOk v = true ∧ v.length ≤ 1 := by
    intro v hv hl ev
    refine ⟨v, tkA (tkA a 95) 4, tkS (tkA a 95) (tkS a s), ?_, hv, hl⟩
    have e1 : (eDisp .lst (aVal (eOpV ixT 2 (eCall m_law_take 2 (aRef 0 (aVal (eOfN (nC (.int 95))) aNil)))) (aVal (eOfN (nC (.str "0"))) (aVal (eOfN (nC (.str "-"))) (aVal (eOfN (nC (.str ","))) aNil))))) [some (bagT a s), some x, some (.str SG), some (.int w), none, none] = some (.ok (.nd .lst [.str (sg c), .str "0", .str "-", .str ","]), [some (bagT (tkA a 95) (tkS a s)), some x, some (.str SG), some (.int w), none, none]) := by
      generalize SG = z at ec
      walk_at "vt"
      rw [ec]
      walk_at "vt"
    generalize SG = z at e1
    rw [sSet_q, eOp_q, e1, Option.bind_some, kOp1_ok]
    walk_at "vt"
    rw [ev]
    try rfl
  have h4 : tkR (tkA a 95) (tkS a s) 4 = 0 ∨ tkR (tkA a 95) (tkS a s) 4 = 1 ∨ tkR (tkA a 95) (tkS a s) 4 = 2 ∨ tkR (tkA a 95) (tkS a s) 4 = 3 := by omega
  rcases h4 with h | h | h | h
  · exact key _ (ok_sg hc) (Nat.le_refl 1) (by rw [h]; rfl)
  · exact key _ (ofS_ok "0") (by decide +kernel) (by rw [h]; rfl)
  · exact key _ (ofS_ok "-") (by decide +kernel) (by rw [h]; rfl)
  · exact key _ (ofS_ok ",") (by decide +kernel) (by rw [h]; rfl)
end K23
namespace K23
open PySem L2 VT
local macro_rules | `(tactic| walk_at "vtd") => `(tactic| first | omega | assumption | (simp only [List.length_set]; omega) | (simp only [plT, plAll, pl_ints, plI, Bool.and_true, Bool.and_self, ofS_ok, dg_ok, ofS_ok]; done))
local macro_rules | `(tactic| walk_at "vt") => `(tactic| simp (disch := walk_at "vtd") only [↓eOp_q, kOp1_ok, kOp2_ok, kEn_q, ↓eOpB_q, kOpB_ok, kB1_q, ↓eOpV_q, kOpV0_q, kOpV_ok, kV1_q, ↓eUn_q, kUn_ok, ↓eOfN_q, ↓bOp_q, kBop_q, ↓bUn_q, ↓bOfP_q, kPl_q, kAt_q, tAt_nil, tAt_nd, nC_q, ↓nOfB_q, pVar_q, kPV_q, eVar_q, kVar_q, ↓sSeq_q, kSeq_nx, kSeq_rt, kSeq_ex, kSeq_bk, kSeq_ct, ↓sSet_q, kSet_ok, ↓sRet_q, kRet_ok, sNil_q, ↓sIf_q, kIf_q, ↓eNot_q, kNot_q, ↓eAnd_q, kAnd_q, ↓eOr_q, kOr_q, aNil_q, ↓aVal_q, kA1_ok, kA2_ok, ↓aRef_q, kAr_q, kAr2_ok, argOf_q, kArg_q, ↓eDisp_q, kD1_ok, kD2_q, valsOf_nil, valsOf_val, kVl_q, ↓eCall_q, kCall_ok, callR_q, kC1_q, kC2_q, argT_nil, argT_val, argT_pth, kAT1_q, kAT2_q, putB_nil, putB_val, tPut_nil, tPut_nd, ↓nTup_q, kNT_q, kNT2_q, baNil_q, ↓baVal_q, kBV_q, kBV2_q, ↓baRef_q, kBR_q, kBR2_q, ↓mBody_q, kBody_q, kBody2_nx, kBody2_rt, kBody2_ex, allS_nil, allS_some, imO_int, imO_str, imO_bl, imO_non, imO_tup, im_int, im_str, im_bl, im_non, im_tup, im_fz, im_lst, im_obj, imAll_nil, imAll_cons, mu_lst, mu_obj, gd_pos, gd_tr, subT_i, mulT_i, modT_i, fdivT_i, powT_i, ltT_i, gtT_i, minT_i, ixT_lst, ixT_fz, ixT_tup, lenT_lst, lenT_fz, lenT_tup, isN_non, isN_int, isN_nd, isN_str, setM_q, kSM_q, ob_some, sl, atI, ixN, kF4_q, putB_q, kPB_q, ↓sForR_q, kFR_q, ↓sForE_q, kFE_q, kFE2_q, seqO_lst, seqO_fz, seqO_tup, eqT_ii, neT_ii, inT_ints, kL1_q, kL2_nx, kL2_ct, kL2_bk, kL2_rt, runL_nil, runL_cons, tgN_q, lcFrom_q, kLc_q, lcEnd_q, kLcE_q, ↓eLcP_q, kLcP_q, kLcP1_q, kLcP2_q, kLcP3_q, kLP5_q, wipeS_nil, wipeS_cons, restS_nil, restS_cons, kRs_n, kRs_s, isi_ii, isi_ib, isi_ll, eqT_pl, neT_pl, kSet_ex, kRet_ex, sRaise_q, ↓sTryK_q, kTry_ex, kTry_nx, kTry_rt, kTry2_q, ↓sSetVE_q, kSv1_ok, kSv2_q, kSv3_q, kSv4_ints, ↓nLst_q, kNL_q, kNL2_q, ↓eLcR_q, kLR_q, mulT_l, eqT_ln, neT_ln, rep_ints, get_int, set_int, app_int, teq_int, teq_str, teq_non, teq_tnil, teq_tcons, teq_li, ixA_lst, ixA_fz, ixA_tup, ixA_str, ixB_lst, ixB_fz, ixB_tup, ixB_dK, ixB_dT, kDo_s, dix_Ki, dix_Ks, dix_T, kDt_q, keysT_n, keysT_i, keysT_s, kKc_q, ↓pIxA_q, kX7_q, kX6_q, kX5_q, kX4_lst, kX4_dK, kX4_dT, kX8_s, ↓sSetA_q, kSA_ok, kSA_ex, kSA0_q, kSA1_q, kSA2_q, kSA3_q, kSA4_q, setA_l, setA_Ki, setA_Ks, setA_T, kSt_q, mu_dK, mu_dT, im_dK, im_dT, inA_l, inA_t, inA_f, negT_i, ↓bNot_q, kBNot_q, ↓bAnd_q, kBAnd_q, lockT_q, lcN_q, kNlc_q, addA_i, addA_s, addA_ll, addA_fl, addA_tt, isA_n, isA_b, isNotA_n, isNotA_b, isB_bl, isB_non, isB_int, isB_str, isB_nd, isN_bl, strT_s, addA_lf, beq_tt, beq_tf, beq_ft, beq_ff, Option.getD_none, eYes_q, ↓ixB_fl, ↓kX4_fl, ↓setA_fl, ↓atI_fl, fl_get, fl_set, fl_getD, slA_lst, slA_tup, slA_fz, kAnd_ex, kOr_ex, kNot_ex, kIf_ex, kOpB_ex, kA1_ex, kD1_ex, up_id, ↓bSl_q, kSl0_q, kSl1_q, bnd_n, ↓bnd_s, kBd_i, List.length_set, beq_self_eq_true, getD_set, and_true, true_and, or_true, true_or, and_self, List.map_cons, List.map_nil, List.eraseIdx_cons_zero, List.length_cons, List.length_nil, List.length_map, List.replicate, List.append_nil, List.cons_append, List.nil_append, List.getElem?_cons_zero, List.getElem?_cons_succ, List.set_cons_zero, List.set_cons_succ, List.getD_cons_zero, List.getD_cons_succ, Option.getD_some, List.take, Nat.reduceSub, Nat.reduceAdd, Nat.reduceEqDiff, if_true, if_false, reduceIte, if_pos, if_neg, Int.toNat_zero, Int.toNat_one, Int.reduceLT, Int.reduceLE, Int.reduceToNat, List.tail_cons, Nat.zero_add, Nat.reduceLeDiff, Nat.reduceLT, Bool.and_true, Bool.true_and, Bool.and_self, Bool.not_true, Bool.not_false, decide_eq_true_eq, decide_true, decide_false, Bool.false_eq_true, im_ints, eqT_bb, neT_bb, rg_len, take_eq, ↓ix2, ↓ix3, intT_f, intT_t, eqT_ss, neT_ss, isi_ss, lenT_s, slA_s, ltT_i, strT_d])
theorem spoilt_ex (a s : Int) (z : Str) (hz : PyData.strOk z = true) (hl : z.length ≤ 300) : ∃ y a' s', m_law_spoilt [bagT a s, .str z] = some (.ok (.str y), [bagT a' s', .str z]) ∧ PyData.strOk y = true ∧ y.length ≤ 1000 := by
  have t8 := tkR_lt a s 8 (by decide)
  have e1 : (sSet 2 (eOfN (nC (.str SG)))) [some (bagT a s), some (.str z), none, none, none, none] = some (.nx, [some (bagT a s), some (.str z), some (.str SG), none, none, none]) := rfl
  have e2 : (sSet 3 (eCall m_law_take 2 (aRef 0 (aVal (eOfN (nC (.int 8))) aNil)))) [some (bagT a s), some (.str z), some (.str SG), none, none, none] = some (.nx, [some (bagT (tkA a 8) (tkS a s)), some (.str z), some (.str SG), some (.int (tkR a s 8)), none, none]) := by
    generalize SG = q
    walk_at "vt"
  obtain ⟨v, a3, s3, e3, v1, v2⟩ := sign_ex (tkA a 8) (tkS a s) (tkR a s 8) (.str z)
  have hL : 0 < (z.length : Int) + 1 := by omega
  have hL2 : (z.length : Int) + 1 < 1073741824 := by omega
  have ht := tkR_lt a3 s3 ((z.length : Int) + 1) hL
  have hzl : z.length ≤ 100000 := by omega
  have e4 : (sSet 5 (eCall m_law_take 2 (aRef 0 (aVal (eOfN (bOp addA (bUn lenT (bOfP (pVar 1))) (nC (.int 1)))) aNil)))) [some (bagT a3 s3), some (.str z), some (.str SG), some (.int (tkR a s 8)), some (.str v), none] = some (.nx, [some (bagT (tkA a3 ((z.length : Int) + 1)) (tkS a3 s3)), some (.str z), some (.str SG), some (.int (tkR a s 8)), some (.str v), some (.int (tkR a3 s3 ((z.length : Int) + 1)))]) := by
    generalize SG = q
    walk_at "vt"
  have fin : ∃ y, (PyData.strOk y = true ∧ y.length ≤ 1000) ∧ m_law_spoilt [bagT a s, .str z] = some (.ok (.str y), [bagT (tkA a3 ((z.length : Int) + 1)) (tkS a3 s3), .str z]) := by
    generalize tkR a3 s3 ((z.length : Int) + 1) = k at e4
    generalize tkA a3 ((z.length : Int) + 1) = a4 at e4
    generalize tkS a3 s3 = s4 at e4
    have hA := cut_len z none (some k)
    have hB := cut_len z (some (k + 1)) none
    have hC := cut_len z none (some (k + 1))
    have hD := cut_len z (some k) none
    have hE : (cutS z none (some k) ++ v).length ≤ 301 := by rw [len_app]; omega
    have kA := cut_ok none (some k) hz
    have kB := cut_ok (some (k + 1)) none hz
    have kC := cut_ok none (some (k + 1)) hz
    have kD := cut_ok (some k) none hz
    unfold m_law_spoilt b_law_spoilt
    rw [mBody_q]
    show ∃ y, _ ∧ (sSeq _ _ [some (bagT a s), some (.str z), none, none, none, none]).bind (kBody 2) = _
    rw [seq_nx e1, seq_nx e2, seq_nx e3, seq_nx e4]
    generalize SG = q
    by_cases h0 : tkR a s 8 = 0
    · refine ⟨cutS z none (some k) ++ cutS z (some (k + 1)) none, ⟨ok_app kA kB, by rw [len_app]; omega⟩, ?_⟩
      walk_at "vt"
    by_cases h1 : tkR a s 8 = 1
    · refine ⟨cutS z none (some (k + 1)) ++ cutS z (some k) none, ⟨ok_app kC kD, by rw [len_app]; omega⟩, ?_⟩
      walk_at "vt"
    by_cases h2 : tkR a s 8 = 2
    · refine ⟨cutS z none (some k) ++ v ++ cutS z (some k) none, ⟨ok_app (ok_app kA v1) kD, by rw [len_app]; omega⟩, ?_⟩
      walk_at "vt"
    by_cases h3 : tkR a s 8 = 3
    · refine ⟨cutS z none (some k) ++ v ++ cutS z (some (k + 1)) none, ⟨ok_app (ok_app kA v1) kB, by rw [len_app]; omega⟩, ?_⟩
      walk_at "vt"
    · refine ⟨z, ⟨hz, by omega⟩, ?_⟩
      walk_at "vt"
  obtain ⟨y, ⟨y1, y2⟩, ey⟩ := fin
  exact ⟨y, _, _, ey, y1, y2⟩
def Good (t : T) : Prop := t.im = true ∧ ∀ k : Int, k = 0 ∨ k = 1 ∨ k = 2 → m_law_right [.int k, t] = some (.ok (.bl true), [.int k, t])
theorem good_s {z : Str} (h : PyData.strOk z = true) (hl : z.length ≤ 3000) : Good (.str z) := ⟨rfl, fun k hk => right_str hk h hl⟩
theorem good_t {t : T} (hi : t.im = true) (hs : isiT "str" t = some (.bl false)) : Good t := ⟨hi, fun k hk => right_thing hk hi hs⟩
abbrev B1 : SF := (sIf (eNot (eCall m_law_right 2 (aRef 5 (aRef 4 aNil)))) (sRet (eOfN (nC (.bl false)))) sNil)
abbrev B2 : SF := (sIf (eNot (eCall m_law_right 2 (aRef 5 (aRef 2 aNil)))) (sRet (eOfN (nC (.bl false)))) sNil)
theorem rg3 {t : T} (h : t ∈ rgT 3) : ∃ k : Int, t = .int k ∧ (k = 0 ∨ k = 1 ∨ k = 2) := by
  rw [rgT_ints] at h
  obtain ⟨k, hk, rfl⟩ := List.mem_map.mp h
  have := mem_rgI.mp hk
  exact ⟨k, rfl, by omega⟩
theorem loop1 {x0 x1 x2 x3 x5 : Option T} {t : T} (g : Good t) : ∃ p, (sForR (tgN 5) (eOfN (nC (.int 3))) B1) [x0, x1, x2, x3, some t, x5] = some (.nx, [x0, x1, x2, x3, some t, p]) := by
  obtain ⟨S', e, ⟨p, hS⟩⟩ := runL_inv (tf := tgN 5) (body := B1) (I := fun _ S => ∃ p, S = [x0, x1, x2, x3, some t, p]) (rgT 3) [x0, x1, x2, x3, some t, x5] ⟨x5, rfl⟩ (by
    rintro n u S hu ⟨p, rfl⟩
    obtain ⟨k, rfl, hk⟩ := rg3 hu
    have e1 := g.2 k hk
    have hi := g.1
    refine ⟨_, [x0, x1, x2, x3, some t, some (.int k)], rfl, ?_, _, rfl⟩
    show B1 [x0, x1, x2, x3, some t, some (.int k)] = _
    walk_at "vt"
    rw [e1]
    walk_at "vt")
  refine ⟨p, ?_⟩
  rw [sForR_q]
  show (kFR (tgN 5) B1 (.ok (.int 3), [x0, x1, x2, x3, some t, x5])) = _
  walk_at "vt"
  rw [e, hS]
theorem loop2 {x0 x1 x3 x4 x5 : Option T} {t : T} (g : Good t) : ∃ p, (sForR (tgN 5) (eOfN (nC (.int 3))) B2) [x0, x1, some t, x3, x4, x5] = some (.nx, [x0, x1, some t, x3, x4, p]) := by
  obtain ⟨S', e, ⟨p, hS⟩⟩ := runL_inv (tf := tgN 5) (body := B2) (I := fun _ S => ∃ p, S = [x0, x1, some t, x3, x4, p]) (rgT 3) [x0, x1, some t, x3, x4, x5] ⟨x5, rfl⟩ (by
    rintro n u S hu ⟨p, rfl⟩
    obtain ⟨k, rfl, hk⟩ := rg3 hu
    have e1 := g.2 k hk
    have hi := g.1
    refine ⟨_, [x0, x1, some t, x3, x4, some (.int k)], rfl, ?_, _, rfl⟩
    show B2 [x0, x1, some t, x3, x4, some (.int k)] = _
    walk_at "vt"
    rw [e1]
    walk_at "vt")
  refine ⟨p, ?_⟩
  rw [sForR_q]
  show (kFR (tgN 5) B2 (.ok (.int 3), [x0, x1, some t, x3, x4, x5])) = _
  walk_at "vt"
  rw [e, hS]
end K23
namespace K23
open PySem L2 VT
local macro_rules | `(tactic| walk_at "vtd") => `(tactic| first | omega | assumption | (simp only [List.length_set]; omega) | (simp only [plT, plAll, pl_ints, plI, Bool.and_true, Bool.and_self, ofS_ok, dg_ok, ofS_ok]; done))
local macro_rules | `(tactic| walk_at "vt") => `(tactic| simp (disch := walk_at "vtd") only [↓eOp_q, kOp1_ok, kOp2_ok, kEn_q, ↓eOpB_q, kOpB_ok, kB1_q, ↓eOpV_q, kOpV0_q, kOpV_ok, kV1_q, ↓eUn_q, kUn_ok, ↓eOfN_q, ↓bOp_q, kBop_q, ↓bUn_q, ↓bOfP_q, kPl_q, kAt_q, tAt_nil, tAt_nd, nC_q, ↓nOfB_q, pVar_q, kPV_q, eVar_q, kVar_q, ↓sSeq_q, kSeq_nx, kSeq_rt, kSeq_ex, kSeq_bk, kSeq_ct, ↓sSet_q, kSet_ok, ↓sRet_q, kRet_ok, sNil_q, ↓sIf_q, kIf_q, ↓eNot_q, kNot_q, ↓eAnd_q, kAnd_q, ↓eOr_q, kOr_q, aNil_q, ↓aVal_q, kA1_ok, kA2_ok, ↓aRef_q, kAr_q, kAr2_ok, argOf_q, kArg_q, ↓eDisp_q, kD1_ok, kD2_q, valsOf_nil, valsOf_val, kVl_q, ↓eCall_q, kCall_ok, callR_q, kC1_q, kC2_q, argT_nil, argT_val, argT_pth, kAT1_q, kAT2_q, putB_nil, putB_val, tPut_nil, tPut_nd, ↓nTup_q, kNT_q, kNT2_q, baNil_q, ↓baVal_q, kBV_q, kBV2_q, ↓baRef_q, kBR_q, kBR2_q, ↓mBody_q, kBody_q, kBody2_nx, kBody2_rt, kBody2_ex, allS_nil, allS_some, imO_int, imO_str, imO_bl, imO_non, imO_tup, im_int, im_str, im_bl, im_non, im_tup, im_fz, im_lst, im_obj, imAll_nil, imAll_cons, mu_lst, mu_obj, gd_pos, gd_tr, subT_i, mulT_i, modT_i, fdivT_i, powT_i, ltT_i, gtT_i, minT_i, ixT_lst, ixT_fz, ixT_tup, lenT_lst, lenT_fz, lenT_tup, isN_non, isN_int, isN_nd, isN_str, setM_q, kSM_q, ob_some, sl, atI, ixN, kF4_q, putB_q, kPB_q, ↓sForR_q, kFR_q, ↓sForE_q, kFE_q, kFE2_q, seqO_lst, seqO_fz, seqO_tup, eqT_ii, neT_ii, inT_ints, kL1_q, kL2_nx, kL2_ct, kL2_bk, kL2_rt, runL_nil, runL_cons, tgN_q, lcFrom_q, kLc_q, lcEnd_q, kLcE_q, ↓eLcP_q, kLcP_q, kLcP1_q, kLcP2_q, kLcP3_q, kLP5_q, wipeS_nil, wipeS_cons, restS_nil, restS_cons, kRs_n, kRs_s, isi_ii, isi_ib, isi_ll, eqT_pl, neT_pl, kSet_ex, kRet_ex, sRaise_q, ↓sTryK_q, kTry_ex, kTry_nx, kTry_rt, kTry2_q, ↓sSetVE_q, kSv1_ok, kSv2_q, kSv3_q, kSv4_ints, ↓nLst_q, kNL_q, kNL2_q, ↓eLcR_q, kLR_q, mulT_l, eqT_ln, neT_ln, rep_ints, get_int, set_int, app_int, teq_int, teq_str, teq_non, teq_tnil, teq_tcons, teq_li, ixA_lst, ixA_fz, ixA_tup, ixA_str, ixB_lst, ixB_fz, ixB_tup, ixB_dK, ixB_dT, kDo_s, dix_Ki, dix_Ks, dix_T, kDt_q, keysT_n, keysT_i, keysT_s, kKc_q, ↓pIxA_q, kX7_q, kX6_q, kX5_q, kX4_lst, kX4_dK, kX4_dT, kX8_s, ↓sSetA_q, kSA_ok, kSA_ex, kSA0_q, kSA1_q, kSA2_q, kSA3_q, kSA4_q, setA_l, setA_Ki, setA_Ks, setA_T, kSt_q, mu_dK, mu_dT, im_dK, im_dT, inA_l, inA_t, inA_f, negT_i, ↓bNot_q, kBNot_q, ↓bAnd_q, kBAnd_q, lockT_q, lcN_q, kNlc_q, addA_i, addA_s, addA_ll, addA_fl, addA_tt, isA_n, isA_b, isNotA_n, isNotA_b, isB_bl, isB_non, isB_int, isB_str, isB_nd, isN_bl, strT_s, addA_lf, beq_tt, beq_tf, beq_ft, beq_ff, Option.getD_none, eYes_q, ↓ixB_fl, ↓kX4_fl, ↓setA_fl, ↓atI_fl, fl_get, fl_set, fl_getD, slA_lst, slA_tup, slA_fz, kAnd_ex, kOr_ex, kNot_ex, kIf_ex, kOpB_ex, kA1_ex, kD1_ex, up_id, ↓bSl_q, kSl0_q, kSl1_q, bnd_n, ↓bnd_s, kBd_i, List.length_set, beq_self_eq_true, getD_set, and_true, true_and, or_true, true_or, and_self, List.map_cons, List.map_nil, List.eraseIdx_cons_zero, List.length_cons, List.length_nil, List.length_map, List.replicate, List.append_nil, List.cons_append, List.nil_append, List.getElem?_cons_zero, List.getElem?_cons_succ, List.set_cons_zero, List.set_cons_succ, List.getD_cons_zero, List.getD_cons_succ, Option.getD_some, List.take, Nat.reduceSub, Nat.reduceAdd, Nat.reduceEqDiff, if_true, if_false, reduceIte, if_pos, if_neg, Int.toNat_zero, Int.toNat_one, Int.reduceLT, Int.reduceLE, Int.reduceToNat, List.tail_cons, Nat.zero_add, Nat.reduceLeDiff, Nat.reduceLT, Bool.and_true, Bool.true_and, Bool.and_self, Bool.not_true, Bool.not_false, decide_eq_true_eq, decide_true, decide_false, Bool.false_eq_true, im_ints, eqT_bb, neT_bb, rg_len, take_eq, ↓ix2, ↓ix3, intT_f, intT_t, eqT_ss, neT_ss, isi_ss, lenT_s, slA_s, ltT_i, strT_d])
abbrev BK : SF := (sSeq (sSet 3 (eCall m_law_bag 2 (aRef 0 (aRef 1 aNil))))
    (sSeq (sSet 4 (eCall m_law_spoilt 2 (aRef 3 (aVal (eCall m_law_text 1 (aRef 3 aNil)) aNil))))
    (sForR (tgN 5) (eOfN (nC (.int 3))) B1)))
theorem turn_k (ns : List Int) (k : Int) (h0 : 0 ≤ k) (h1 : k < 1000) (x2 x3 x4 x5 : Option T) : ∃ p3 p4 p5, BK [some (.nd .fz (ns.map .int)), some (.int k), x2, x3, x4, x5] = some (.nx, [some (.nd .fz (ns.map .int)), some (.int k), x2, p3, p4, p5]) := by
  obtain ⟨⟨a, s⟩, eb⟩ := bag_ex ns k h0 h1
  obtain ⟨z, a2, s2, ez, z1, z2⟩ := text_ex a s
  obtain ⟨y, a3, s3, ey, y1, y2⟩ := spoilt_ex a2 s2 z z1 z2
  obtain ⟨p, ep⟩ := loop1 (x0 := some (.nd .fz (ns.map .int))) (x1 := some (.int k)) (x2 := x2) (x3 := some (bagT a3 s3)) (x5 := x5) (good_s y1 (by omega))
  refine ⟨some (bagT a3 s3), some (.str y), p, ?_⟩
  have e1 : (sSet 3 (eCall m_law_bag 2 (aRef 0 (aRef 1 aNil)))) [some (.nd .fz (ns.map .int)), some (.int k), x2, x3, x4, x5] = some (.nx, [some (.nd .fz (ns.map .int)), some (.int k), x2, some (bagT a s), x4, x5]) := by
    walk_at "vt"
    rw [eb]
    walk_at "vt"
  have e2 : (sSet 4 (eCall m_law_spoilt 2 (aRef 3 (aVal (eCall m_law_text 1 (aRef 3 aNil)) aNil)))) [some (.nd .fz (ns.map .int)), some (.int k), x2, some (bagT a s), x4, x5] = some (.nx, [some (.nd .fz (ns.map .int)), some (.int k), x2, some (bagT a3 s3), some (.str y), x5]) := by
    walk_at "vt"
    rw [ez]
    walk_at "vt"
    rw [ey]
    walk_at "vt"
  show (sSeq _ _ _) = _
  rw [seq_nx e1, seq_nx e2, ep]
abbrev THS : List T := [.non, .int 7, .bl true, .nd .tup [.str "1"], .nd .fz [.str "1"], .str "", .str "-", .str "-0", .str "00", .str "1,1", .str ",", .str "--1", .str "1,"]
theorem ths_good : ∀ t ∈ THS, Good t := by
  intro t ht
  simp only [List.mem_cons, List.not_mem_nil, or_false] at ht
  rcases ht with rfl | rfl | rfl | rfl | rfl | rfl | rfl | rfl | rfl | rfl | rfl | rfl | rfl
  · exact good_t rfl rfl
  · exact good_t rfl rfl
  · exact good_t rfl rfl
  · exact good_t rfl rfl
  · exact good_t rfl rfl
  · exact good_s (ofS_ok _) (by decide +kernel)
  · exact good_s (ofS_ok _) (by decide +kernel)
  · exact good_s (ofS_ok _) (by decide +kernel)
  · exact good_s (ofS_ok _) (by decide +kernel)
  · exact good_s (ofS_ok _) (by decide +kernel)
  · exact good_s (ofS_ok _) (by decide +kernel)
  · exact good_s (ofS_ok _) (by decide +kernel)
  · exact good_s (ofS_ok _) (by decide +kernel)
abbrev DTH : EF := (eDisp .lst (aVal (eOfN (nC .non)) (aVal (eOfN (nC (.int 7))) (aVal (eOfN (nC (.bl true))) (aVal (eOfN (nTup (baVal (nC (.str "1")) baNil))) (aVal (eOfN (bUn lockT (nLst (baVal (nC (.str "1")) baNil)))) (aVal (eOfN (nC (.str ""))) (aVal (eOfN (nC (.str "-"))) (aVal (eOfN (nC (.str "-0"))) (aVal (eOfN (nC (.str "00"))) (aVal (eOfN (nC (.str "1,1"))) (aVal (eOfN (nC (.str ","))) (aVal (eOfN (nC (.str "--1"))) (aVal (eOfN (nC (.str "1,"))) aNil))))))))))))))
theorem dth_eq (S : TSt) : DTH S = some (.ok (.nd .lst THS), S) := rfl
theorem law_end (ns : List Int) (hn : ns.length ≤ 63) : ∃ ts', m_law [.nd .fz (ns.map T.int)] = some (.ok (.bl true), ts') := by
  have hm : ∃ m : Int, (if 40 < (ns.length : Int) then 40 else (ns.length : Int)) + 3 = m ∧ 0 ≤ m ∧ m ≤ 63 := by
    refine ⟨_, rfl, ?_, ?_⟩ <;> split <;> omega
  obtain ⟨m, em, m0, m1⟩ := hm
  obtain ⟨S', e, ⟨p1, p3, p4, p5, hS⟩⟩ := runL_inv (tf := tgN 1) (body := BK) (I := fun _ S => ∃ (p1 p3 p4 p5 : Option T), S = [some (.nd .fz (ns.map .int)), p1, none, p3, p4, p5]) (rgT m) [some (.nd .fz (ns.map .int)), none, none, none, none, none] ⟨none, none, none, none, rfl⟩ (by
    rintro n t S ht ⟨p1, p3, p4, p5, rfl⟩
    rw [rgT_ints] at ht
    obtain ⟨j, hj, rfl⟩ := List.mem_map.mp ht
    have hj2 := mem_rgI.mp hj
    obtain ⟨q3, q4, q5, eq⟩ := turn_k ns j hj2.1 (by omega) none p3 p4 p5
    exact ⟨_, _, rfl, eq, _, q3, q4, q5, rfl⟩)
  obtain ⟨S2, e2, ⟨q2, q5, hS2⟩⟩ := runL_inv (tf := tgN 2) (body := (sForR (tgN 5) (eOfN (nC (.int 3))) B2)) (I := fun _ S => ∃ (q2 q5 : Option T), S = [some (.nd .fz (ns.map .int)), p1, q2, p3, p4, q5]) THS [some (.nd .fz (ns.map .int)), p1, none, p3, p4, p5] ⟨none, p5, rfl⟩ (by
    rintro n t S ht ⟨q2, q5, rfl⟩
    have g := ths_good t ht
    obtain ⟨p, ep⟩ := loop2 (x0 := some (.nd .fz (ns.map .int))) (x1 := p1) (x3 := p3) (x4 := p4) (x5 := q5) g
    exact ⟨_, _, if_pos g.1, ep, some t, p, rfl⟩)
  have e3 : (sForE (tgN 2) DTH (sForR (tgN 5) (eOfN (nC (.int 3))) B2)) [some (.nd .fz (ns.map .int)), p1, none, p3, p4, p5] = some (.nx, [some (.nd .fz (ns.map .int)), p1, q2, p3, p4, q5]) := by
    rw [sForE_q, dth_eq, Option.bind_some, kFE_q, seqO_lst]
    rw [if_pos (by decide), Option.bind_some, kFE2_q, e2, hS2]
  have e1 : (sForR (tgN 1) (eOfN (bOp addA (bOp minT (bUn lenT (bOfP (pVar 0))) (nC (.int 40))) (nC (.int 3)))) BK) [some (.nd .fz (ns.map .int)), none, none, none, none, none] = some (.nx, [some (.nd .fz (ns.map .int)), p1, none, p3, p4, p5]) := by
    generalize BK = b at e
    walk_at "vt"
    rw [em]
    rw [e, hS]
  refine ⟨[.nd .fz (ns.map .int)], ?_⟩
  unfold m_law b_law
  rw [mBody_q]
  show (sSeq _ _ [some (.nd .fz (ns.map .int)), none, none, none, none, none]).bind (kBody 1) = _
  rw [seq_nx e1, seq_nx e3]
  try rfl
end K23
namespace K23
open PySem L2 VT
abbrev cL (K : PySem.W.Frag) : Nat → Addr
  | 13 => He.ga K "BadRow"
  | _ => 0
theorem q_aA_NoCall {K : PySem.W.Frag} (c : SaysF fss fns K) : PySem.W.nsIn K mainGlobals "NoCall" = some (some (.ref (He.ga K "NoCall"))) := (He.eqO_ok (c.fact 0 0 (fs := fs0) rfl rfl))
theorem q_it_A_NoCall {K : PySem.W.Frag} (c : SaysF fss fns K) : PySem.W.typeIn K (.ref (He.ga K "NoCall")) = some (.type "type") := (of_decide_eq_true (c.fact 0 1 (fs := fs0) rfl rfl))
theorem q_ic_A_NoCall {K : PySem.W.Frag} (c : SaysF fss fns K) : PySem.W.isClsIn K (He.ga K "NoCall") = true := (c.fact 0 2 (fs := fs0) rfl rfl)
theorem q_aA_Here {K : PySem.W.Frag} (c : SaysF fss fns K) : PySem.W.nsIn K mainGlobals "Here" = some (some (.ref (He.ga K "Here"))) := (He.eqO_ok (c.fact 0 3 (fs := fs0) rfl rfl))
theorem q_it_A_Here {K : PySem.W.Frag} (c : SaysF fss fns K) : PySem.W.typeIn K (.ref (He.ga K "Here")) = some (.type "type") := (of_decide_eq_true (c.fact 0 4 (fs := fs0) rfl rfl))
theorem q_ic_A_Here {K : PySem.W.Frag} (c : SaysF fss fns K) : PySem.W.isClsIn K (He.ga K "Here") = true := (c.fact 0 5 (fs := fs0) rfl rfl)
theorem q_aA_Asleep {K : PySem.W.Frag} (c : SaysF fss fns K) : PySem.W.nsIn K mainGlobals "Asleep" = some (some (.ref (He.ga K "Asleep"))) := (He.eqO_ok (c.fact 0 6 (fs := fs0) rfl rfl))
theorem q_it_A_Asleep {K : PySem.W.Frag} (c : SaysF fss fns K) : PySem.W.typeIn K (.ref (He.ga K "Asleep")) = some (.type "type") := (of_decide_eq_true (c.fact 0 7 (fs := fs0) rfl rfl))
theorem q_ic_A_Asleep {K : PySem.W.Frag} (c : SaysF fss fns K) : PySem.W.isClsIn K (He.ga K "Asleep") = true := (c.fact 0 8 (fs := fs0) rfl rfl)
theorem q_aA_NoPage {K : PySem.W.Frag} (c : SaysF fss fns K) : PySem.W.nsIn K mainGlobals "NoPage" = some (some (.ref (He.ga K "NoPage"))) := (He.eqO_ok (c.fact 0 9 (fs := fs0) rfl rfl))
theorem q_it_A_NoPage {K : PySem.W.Frag} (c : SaysF fss fns K) : PySem.W.typeIn K (.ref (He.ga K "NoPage")) = some (.type "type") := (of_decide_eq_true (c.fact 0 10 (fs := fs0) rfl rfl))
theorem q_ic_A_NoPage {K : PySem.W.Frag} (c : SaysF fss fns K) : PySem.W.isClsIn K (He.ga K "NoPage") = true := (c.fact 0 11 (fs := fs0) rfl rfl)
theorem q_aA_NoLeaf {K : PySem.W.Frag} (c : SaysF fss fns K) : PySem.W.nsIn K mainGlobals "NoLeaf" = some (some (.ref (He.ga K "NoLeaf"))) := (He.eqO_ok (c.fact 0 12 (fs := fs0) rfl rfl))
theorem q_it_A_NoLeaf {K : PySem.W.Frag} (c : SaysF fss fns K) : PySem.W.typeIn K (.ref (He.ga K "NoLeaf")) = some (.type "type") := (of_decide_eq_true (c.fact 0 13 (fs := fs0) rfl rfl))
theorem q_ic_A_NoLeaf {K : PySem.W.Frag} (c : SaysF fss fns K) : PySem.W.isClsIn K (He.ga K "NoLeaf") = true := (c.fact 0 14 (fs := fs0) rfl rfl)
theorem q_aA_NoHand {K : PySem.W.Frag} (c : SaysF fss fns K) : PySem.W.nsIn K mainGlobals "NoHand" = some (some (.ref (He.ga K "NoHand"))) := (He.eqO_ok (c.fact 0 15 (fs := fs0) rfl rfl))
theorem q_it_A_NoHand {K : PySem.W.Frag} (c : SaysF fss fns K) : PySem.W.typeIn K (.ref (He.ga K "NoHand")) = some (.type "type") := (of_decide_eq_true (c.fact 0 16 (fs := fs0) rfl rfl))
theorem q_ic_A_NoHand {K : PySem.W.Frag} (c : SaysF fss fns K) : PySem.W.isClsIn K (He.ga K "NoHand") = true := (c.fact 0 17 (fs := fs0) rfl rfl)
theorem q_aA_NoDeed {K : PySem.W.Frag} (c : SaysF fss fns K) : PySem.W.nsIn K mainGlobals "NoDeed" = some (some (.ref (He.ga K "NoDeed"))) := (He.eqO_ok (c.fact 0 18 (fs := fs0) rfl rfl))
theorem q_it_A_NoDeed {K : PySem.W.Frag} (c : SaysF fss fns K) : PySem.W.typeIn K (.ref (He.ga K "NoDeed")) = some (.type "type") := (of_decide_eq_true (c.fact 0 19 (fs := fs0) rfl rfl))
theorem q_ic_A_NoDeed {K : PySem.W.Frag} (c : SaysF fss fns K) : PySem.W.isClsIn K (He.ga K "NoDeed") = true := (c.fact 0 20 (fs := fs0) rfl rfl)
theorem q_aA_Taken {K : PySem.W.Frag} (c : SaysF fss fns K) : PySem.W.nsIn K mainGlobals "Taken" = some (some (.ref (He.ga K "Taken"))) := (He.eqO_ok (c.fact 0 21 (fs := fs0) rfl rfl))
theorem q_it_A_Taken {K : PySem.W.Frag} (c : SaysF fss fns K) : PySem.W.typeIn K (.ref (He.ga K "Taken")) = some (.type "type") := (of_decide_eq_true (c.fact 0 22 (fs := fs0) rfl rfl))
theorem q_ic_A_Taken {K : PySem.W.Frag} (c : SaysF fss fns K) : PySem.W.isClsIn K (He.ga K "Taken") = true := (c.fact 0 23 (fs := fs0) rfl rfl)
theorem q_aA_NoSpace {K : PySem.W.Frag} (c : SaysF fss fns K) : PySem.W.nsIn K mainGlobals "NoSpace" = some (some (.ref (He.ga K "NoSpace"))) := (He.eqO_ok (c.fact 0 24 (fs := fs0) rfl rfl))
theorem q_it_A_NoSpace {K : PySem.W.Frag} (c : SaysF fss fns K) : PySem.W.typeIn K (.ref (He.ga K "NoSpace")) = some (.type "type") := (of_decide_eq_true (c.fact 0 25 (fs := fs0) rfl rfl))
theorem q_ic_A_NoSpace {K : PySem.W.Frag} (c : SaysF fss fns K) : PySem.W.isClsIn K (He.ga K "NoSpace") = true := (c.fact 0 26 (fs := fs0) rfl rfl)
theorem q_aA_NoRoom {K : PySem.W.Frag} (c : SaysF fss fns K) : PySem.W.nsIn K mainGlobals "NoRoom" = some (some (.ref (He.ga K "NoRoom"))) := (He.eqO_ok (c.fact 0 27 (fs := fs0) rfl rfl))
theorem q_it_A_NoRoom {K : PySem.W.Frag} (c : SaysF fss fns K) : PySem.W.typeIn K (.ref (He.ga K "NoRoom")) = some (.type "type") := (of_decide_eq_true (c.fact 0 28 (fs := fs0) rfl rfl))
theorem q_ic_A_NoRoom {K : PySem.W.Frag} (c : SaysF fss fns K) : PySem.W.isClsIn K (He.ga K "NoRoom") = true := (c.fact 0 29 (fs := fs0) rfl rfl)
theorem q_aA_NoRight {K : PySem.W.Frag} (c : SaysF fss fns K) : PySem.W.nsIn K mainGlobals "NoRight" = some (some (.ref (He.ga K "NoRight"))) := (He.eqO_ok (c.fact 1 0 (fs := fs1) rfl rfl))
theorem q_it_A_NoRight {K : PySem.W.Frag} (c : SaysF fss fns K) : PySem.W.typeIn K (.ref (He.ga K "NoRight")) = some (.type "type") := (of_decide_eq_true (c.fact 1 1 (fs := fs1) rfl rfl))
theorem q_ic_A_NoRight {K : PySem.W.Frag} (c : SaysF fss fns K) : PySem.W.isClsIn K (He.ga K "NoRight") = true := (c.fact 1 2 (fs := fs1) rfl rfl)
theorem q_aA_Waits {K : PySem.W.Frag} (c : SaysF fss fns K) : PySem.W.nsIn K mainGlobals "Waits" = some (some (.ref (He.ga K "Waits"))) := (He.eqO_ok (c.fact 1 3 (fs := fs1) rfl rfl))
theorem q_it_A_Waits {K : PySem.W.Frag} (c : SaysF fss fns K) : PySem.W.typeIn K (.ref (He.ga K "Waits")) = some (.type "type") := (of_decide_eq_true (c.fact 1 4 (fs := fs1) rfl rfl))
theorem q_ic_A_Waits {K : PySem.W.Frag} (c : SaysF fss fns K) : PySem.W.isClsIn K (He.ga K "Waits") = true := (c.fact 1 5 (fs := fs1) rfl rfl)
theorem q_aA_CallError {K : PySem.W.Frag} (c : SaysF fss fns K) : PySem.W.nsIn K mainGlobals "CallError" = some (some (.ref (He.ga K "CallError"))) := (He.eqO_ok (c.fact 1 6 (fs := fs1) rfl rfl))
theorem q_it_A_CallError {K : PySem.W.Frag} (c : SaysF fss fns K) : PySem.W.typeIn K (.ref (He.ga K "CallError")) = some (.type "type") := (of_decide_eq_true (c.fact 1 7 (fs := fs1) rfl rfl))
theorem q_cb {K : PySem.W.Frag} (c : SaysF fss fns K) : PySem.W.subIn K (.ref (He.ga K "CallError")) (.type "BaseException") = some true := (of_decide_eq_true (c.fact 1 8 (fs := fs1) rfl rfl))
theorem q_cd {K : PySem.W.Frag} (c : SaysF fss fns K) : PySem.W.hasDictIn K (He.ga K "CallError") = true := (c.fact 1 9 (fs := fs1) rfl rfl)
theorem q_aC13 {K : PySem.W.Frag} (c : SaysF fss fns K) : PySem.W.nsIn K mainGlobals "BadRow" = some (some (.ref (He.ga K "BadRow"))) := (He.eqO_ok (c.fact 1 10 (fs := fs1) rfl rfl))
theorem q_xe13 {K : PySem.W.Frag} (c : SaysF fss fns K) : PySem.W.excIn K (He.ga K "BadRow") [.type "ValueError", .type "Exception", .type "BaseException", .type "object"] "ValueError.__new__" = true := (c.fact 1 11 (fs := fs1) rfl rfl)
theorem q_kc13 {K : PySem.W.Frag} (c : SaysF fss fns K) : PySem.W.keepIn K (.ref (He.ga K "BadRow")) = true := (c.fact 1 12 (fs := fs1) rfl rfl)
theorem q_xs13 {K : PySem.W.Frag} (c : SaysF fss fns K) : PySem.W.subIn K (.ref (He.ga K "BadRow")) (.type "BaseException") = some true := (of_decide_eq_true (c.fact 1 13 (fs := fs1) rfl rfl))
theorem q_xt13 {K : PySem.W.Frag} (c : SaysF fss fns K) : PySem.W.typeIn K (.ref (He.ga K "BadRow")) = some (.type "type") := (of_decide_eq_true (c.fact 1 14 (fs := fs1) rfl rfl))
theorem q_e1_13 {K : PySem.W.Frag} (c : SaysF fss fns K) : PySem.W.findIn K (.ref (He.ga K "BadRow")) "__getattribute__" = some (some (.builtin "BaseException.__getattribute__")) := (He.eqO_ok (c.fact 1 15 (fs := fs1) rfl rfl))
theorem q_e2_13 {K : PySem.W.Frag} (c : SaysF fss fns K) : PySem.W.findIn K (.ref (He.ga K "BadRow")) "__getattr__" = some none := (He.eqO_ok (c.fact 1 16 (fs := fs1) rfl rfl))
theorem q_e3_13 {K : PySem.W.Frag} (c : SaysF fss fns K) : PySem.W.hasDictIn K (He.ga K "BadRow") = true := (c.fact 1 17 (fs := fs1) rfl rfl)
theorem q_e4_13 {K : PySem.W.Frag} (c : SaysF fss fns K) : PySem.W.findIn K (.ref (He.ga K "BadRow")) "__class__" = some (some (.builtin "object.__class__")) := (He.eqO_ok (c.fact 1 18 (fs := fs1) rfl rfl))
theorem q_e5_13 {K : PySem.W.Frag} (c : SaysF fss fns K) : PySem.W.specialIn K (.builtin "object.__class__") "__get__" = some (some (.builtin "getset_descriptor.__get__")) := (He.eqO_ok (c.fact 1 19 (fs := fs1) rfl rfl))
theorem q_e6_13 {K : PySem.W.Frag} (c : SaysF fss fns K) : PySem.W.takesIn K (.builtin "object.__class__") = some true := (of_decide_eq_true (c.fact 1 20 (fs := fs1) rfl rfl))
theorem q_e7_13 {K : PySem.W.Frag} (c : SaysF fss fns K) : PySem.W.mroIn K (He.ga K "BadRow") (.type "object") = some true := (of_decide_eq_true (c.fact 1 21 (fs := fs1) rfl rfl))
theorem q_ss13 {K : PySem.W.Frag} (c : SaysF fss fns K) : PySem.W.subIn K (.ref (He.ga K "BadRow")) (.ref (He.ga K "BadRow")) = some true := (of_decide_eq_true (c.fact 1 23 (fs := fs1) rfl rfl))
theorem q_q13_0 {K : PySem.W.Frag} (c : SaysF fss fns K) : PySem.W.subIn K (.ref (He.ga K "BadRow")) (.ref (He.ga K "NoCall")) = some false := (of_decide_eq_true (c.fact 1 24 (fs := fs1) rfl rfl))
theorem q_q13_1 {K : PySem.W.Frag} (c : SaysF fss fns K) : PySem.W.subIn K (.ref (He.ga K "BadRow")) (.ref (He.ga K "Here")) = some false := (of_decide_eq_true (c.fact 1 25 (fs := fs1) rfl rfl))
theorem q_q13_3 {K : PySem.W.Frag} (c : SaysF fss fns K) : PySem.W.subIn K (.ref (He.ga K "BadRow")) (.ref (He.ga K "Asleep")) = some false := (of_decide_eq_true (c.fact 1 26 (fs := fs1) rfl rfl))
theorem q_q13_4 {K : PySem.W.Frag} (c : SaysF fss fns K) : PySem.W.subIn K (.ref (He.ga K "BadRow")) (.ref (He.ga K "NoPage")) = some false := (of_decide_eq_true (c.fact 1 27 (fs := fs1) rfl rfl))
theorem q_q13_5 {K : PySem.W.Frag} (c : SaysF fss fns K) : PySem.W.subIn K (.ref (He.ga K "BadRow")) (.ref (He.ga K "NoLeaf")) = some false := (of_decide_eq_true (c.fact 1 28 (fs := fs1) rfl rfl))
theorem q_q13_6 {K : PySem.W.Frag} (c : SaysF fss fns K) : PySem.W.subIn K (.ref (He.ga K "BadRow")) (.ref (He.ga K "NoHand")) = some false := (of_decide_eq_true (c.fact 1 29 (fs := fs1) rfl rfl))
theorem q_q13_7 {K : PySem.W.Frag} (c : SaysF fss fns K) : PySem.W.subIn K (.ref (He.ga K "BadRow")) (.ref (He.ga K "NoDeed")) = some false := (of_decide_eq_true (c.fact 2 0 (fs := fs2) rfl rfl))
theorem q_q13_8 {K : PySem.W.Frag} (c : SaysF fss fns K) : PySem.W.subIn K (.ref (He.ga K "BadRow")) (.ref (He.ga K "Taken")) = some false := (of_decide_eq_true (c.fact 2 1 (fs := fs2) rfl rfl))
theorem q_q13_9 {K : PySem.W.Frag} (c : SaysF fss fns K) : PySem.W.subIn K (.ref (He.ga K "BadRow")) (.ref (He.ga K "NoSpace")) = some false := (of_decide_eq_true (c.fact 2 2 (fs := fs2) rfl rfl))
theorem q_q13_10 {K : PySem.W.Frag} (c : SaysF fss fns K) : PySem.W.subIn K (.ref (He.ga K "BadRow")) (.ref (He.ga K "NoRoom")) = some false := (of_decide_eq_true (c.fact 2 3 (fs := fs2) rfl rfl))
theorem q_q13_11 {K : PySem.W.Frag} (c : SaysF fss fns K) : PySem.W.subIn K (.ref (He.ga K "BadRow")) (.ref (He.ga K "NoRight")) = some false := (of_decide_eq_true (c.fact 2 4 (fs := fs2) rfl rfl))
theorem q_q13_12 {K : PySem.W.Frag} (c : SaysF fss fns K) : PySem.W.subIn K (.ref (He.ga K "BadRow")) (.type "ValueError") = some true := (of_decide_eq_true (c.fact 2 5 (fs := fs2) rfl rfl))
theorem q_q13_13 {K : PySem.W.Frag} (c : SaysF fss fns K) : PySem.W.subIn K (.ref (He.ga K "BadRow")) (.ref (He.ga K "Waits")) = some false := (of_decide_eq_true (c.fact 2 6 (fs := fs2) rfl rfl))
theorem q_xm13 {K : PySem.W.Frag} (c : SaysF fss fns K) : PySem.W.subIn K (.ref (He.ga K "BadRow")) (.ref (He.ga K "CallError")) = some true := (of_decide_eq_true (c.fact 2 7 (fs := fs2) rfl rfl))
theorem q_aK {K : PySem.W.Frag} (c : SaysF fss fns K) : PySem.W.nsIn K mainGlobals "_law_kinds" = some (some (.ref (He.ga K "_law_kinds"))) := (He.eqO_ok (c.fact 2 8 (fs := fs2) rfl rfl))
theorem q_kK {K : PySem.W.Frag} (c : SaysF fss fns K) : PySem.W.keepIn K (.ref (He.ga K "_law_kinds")) = true := (c.fact 2 9 (fs := fs2) rfl rfl)
theorem q_a0 {K : PySem.W.Frag} (c : SaysF fss fns K) : PySem.W.nsIn K mainGlobals "read_number" = some (some (.ref (He.ga K "read_number"))) := (He.eqO_ok (c.fact 2 10 (fs := fs2) rfl rfl))
theorem q_k0 {K : PySem.W.Frag} (c : SaysF fss fns K) : PySem.W.keepIn K (.ref (He.ga K "read_number")) = true := (c.fact 2 11 (fs := fs2) rfl rfl)
theorem q_a1 {K : PySem.W.Frag} (c : SaysF fss fns K) : PySem.W.nsIn K mainGlobals "read_signed" = some (some (.ref (He.ga K "read_signed"))) := (He.eqO_ok (c.fact 2 12 (fs := fs2) rfl rfl))
theorem q_k1 {K : PySem.W.Frag} (c : SaysF fss fns K) : PySem.W.keepIn K (.ref (He.ga K "read_signed")) = true := (c.fact 2 13 (fs := fs2) rfl rfl)
theorem q_a2 {K : PySem.W.Frag} (c : SaysF fss fns K) : PySem.W.nsIn K mainGlobals "read_pages" = some (some (.ref (He.ga K "read_pages"))) := (He.eqO_ok (c.fact 2 14 (fs := fs2) rfl rfl))
theorem q_k2 {K : PySem.W.Frag} (c : SaysF fss fns K) : PySem.W.keepIn K (.ref (He.ga K "read_pages")) = true := (c.fact 2 15 (fs := fs2) rfl rfl)
theorem q_a3 {K : PySem.W.Frag} (c : SaysF fss fns K) : PySem.W.nsIn K mainGlobals "_law_bag" = some (some (.ref (He.ga K "_law_bag"))) := (He.eqO_ok (c.fact 2 16 (fs := fs2) rfl rfl))
theorem q_k3 {K : PySem.W.Frag} (c : SaysF fss fns K) : PySem.W.keepIn K (.ref (He.ga K "_law_bag")) = true := (c.fact 2 17 (fs := fs2) rfl rfl)
theorem q_a4 {K : PySem.W.Frag} (c : SaysF fss fns K) : PySem.W.nsIn K mainGlobals "_law_take" = some (some (.ref (He.ga K "_law_take"))) := (He.eqO_ok (c.fact 2 18 (fs := fs2) rfl rfl))
theorem q_k4 {K : PySem.W.Frag} (c : SaysF fss fns K) : PySem.W.keepIn K (.ref (He.ga K "_law_take")) = true := (c.fact 2 19 (fs := fs2) rfl rfl)
theorem q_a5 {K : PySem.W.Frag} (c : SaysF fss fns K) : PySem.W.nsIn K mainGlobals "_law_whole" = some (some (.ref (He.ga K "_law_whole"))) := (He.eqO_ok (c.fact 2 20 (fs := fs2) rfl rfl))
theorem q_k5 {K : PySem.W.Frag} (c : SaysF fss fns K) : PySem.W.keepIn K (.ref (He.ga K "_law_whole")) = true := (c.fact 2 21 (fs := fs2) rfl rfl)
theorem q_a6 {K : PySem.W.Frag} (c : SaysF fss fns K) : PySem.W.nsIn K mainGlobals "_law_figures" = some (some (.ref (He.ga K "_law_figures"))) := (He.eqO_ok (c.fact 2 22 (fs := fs2) rfl rfl))
theorem q_k6 {K : PySem.W.Frag} (c : SaysF fss fns K) : PySem.W.keepIn K (.ref (He.ga K "_law_figures")) = true := (c.fact 2 23 (fs := fs2) rfl rfl)
theorem q_a7 {K : PySem.W.Frag} (c : SaysF fss fns K) : PySem.W.nsIn K mainGlobals "_law_text" = some (some (.ref (He.ga K "_law_text"))) := (He.eqO_ok (c.fact 2 24 (fs := fs2) rfl rfl))
theorem q_k7 {K : PySem.W.Frag} (c : SaysF fss fns K) : PySem.W.keepIn K (.ref (He.ga K "_law_text")) = true := (c.fact 2 25 (fs := fs2) rfl rfl)
theorem q_a8 {K : PySem.W.Frag} (c : SaysF fss fns K) : PySem.W.nsIn K mainGlobals "_law_spoilt" = some (some (.ref (He.ga K "_law_spoilt"))) := (He.eqO_ok (c.fact 2 26 (fs := fs2) rfl rfl))
theorem q_k8 {K : PySem.W.Frag} (c : SaysF fss fns K) : PySem.W.keepIn K (.ref (He.ga K "_law_spoilt")) = true := (c.fact 2 27 (fs := fs2) rfl rfl)
theorem q_a9 {K : PySem.W.Frag} (c : SaysF fss fns K) : PySem.W.nsIn K mainGlobals "_law_number" = some (some (.ref (He.ga K "_law_number"))) := (He.eqO_ok (c.fact 2 28 (fs := fs2) rfl rfl))
theorem q_k9 {K : PySem.W.Frag} (c : SaysF fss fns K) : PySem.W.keepIn K (.ref (He.ga K "_law_number")) = true := (c.fact 2 29 (fs := fs2) rfl rfl)
theorem q_a10 {K : PySem.W.Frag} (c : SaysF fss fns K) : PySem.W.nsIn K mainGlobals "_law_due" = some (some (.ref (He.ga K "_law_due"))) := (He.eqO_ok (c.fact 3 0 (fs := fs3) rfl rfl))
theorem q_k10 {K : PySem.W.Frag} (c : SaysF fss fns K) : PySem.W.keepIn K (.ref (He.ga K "_law_due")) = true := (c.fact 3 1 (fs := fs3) rfl rfl)
theorem q_a11 {K : PySem.W.Frag} (c : SaysF fss fns K) : PySem.W.nsIn K mainGlobals "_law_tried" = some (some (.ref (He.ga K "_law_tried"))) := (He.eqO_ok (c.fact 3 2 (fs := fs3) rfl rfl))
theorem q_k11 {K : PySem.W.Frag} (c : SaysF fss fns K) : PySem.W.keepIn K (.ref (He.ga K "_law_tried")) = true := (c.fact 3 3 (fs := fs3) rfl rfl)
theorem q_a12 {K : PySem.W.Frag} (c : SaysF fss fns K) : PySem.W.nsIn K mainGlobals "_law_right" = some (some (.ref (He.ga K "_law_right"))) := (He.eqO_ok (c.fact 3 4 (fs := fs3) rfl rfl))
theorem q_k12 {K : PySem.W.Frag} (c : SaysF fss fns K) : PySem.W.keepIn K (.ref (He.ga K "_law_right")) = true := (c.fact 3 5 (fs := fs3) rfl rfl)
theorem q_a13 {K : PySem.W.Frag} (c : SaysF fss fns K) : PySem.W.nsIn K mainGlobals "law" = some (some (.ref (He.ga K "law"))) := (He.eqO_ok (c.fact 3 6 (fs := fs3) rfl rfl))
theorem q_k13 {K : PySem.W.Frag} (c : SaysF fss fns K) : PySem.W.keepIn K (.ref (He.ga K "law")) = true := (c.fact 3 7 (fs := fs3) rfl rfl)
theorem q_gc_MOST_FIGURES {K : PySem.W.Frag} (c : SaysF fss fns K) : (He.Fa.int "MOST_FIGURES" 40).ok K = true := (c.fact 3 8 (fs := fs3) rfl rfl)
theorem q_gc_FIGURES {K : PySem.W.Frag} (c : SaysF fss fns K) : (He.Fa.str "FIGURES" "0123456789").ok K = true := (c.fact 3 9 (fs := fs3) rfl rfl)
theorem q_gc_MOST_PAGES {K : PySem.W.Frag} (c : SaysF fss fns K) : (He.Fa.int "MOST_PAGES" 40).ok K = true := (c.fact 3 10 (fs := fs3) rfl rfl)
theorem q_z0 {K : PySem.W.Frag} (c : SaysF fss fns K) : PySem.W.nsIn K mainGlobals "ValueError" = some none := (He.eqO_ok (c.fact 3 11 (fs := fs3) rfl rfl))
theorem q_z1 {K : PySem.W.Frag} (c : SaysF fss fns K) : PySem.W.nsIn K mainGlobals "bool" = some none := (He.eqO_ok (c.fact 3 12 (fs := fs3) rfl rfl))
theorem q_z2 {K : PySem.W.Frag} (c : SaysF fss fns K) : PySem.W.nsIn K mainGlobals "int" = some none := (He.eqO_ok (c.fact 3 13 (fs := fs3) rfl rfl))
theorem q_z3 {K : PySem.W.Frag} (c : SaysF fss fns K) : PySem.W.nsIn K mainGlobals "isinstance" = some none := (He.eqO_ok (c.fact 3 14 (fs := fs3) rfl rfl))
theorem q_z4 {K : PySem.W.Frag} (c : SaysF fss fns K) : PySem.W.nsIn K mainGlobals "len" = some none := (He.eqO_ok (c.fact 3 15 (fs := fs3) rfl rfl))
theorem q_z5 {K : PySem.W.Frag} (c : SaysF fss fns K) : PySem.W.nsIn K mainGlobals "min" = some none := (He.eqO_ok (c.fact 3 16 (fs := fs3) rfl rfl))
theorem q_z6 {K : PySem.W.Frag} (c : SaysF fss fns K) : PySem.W.nsIn K mainGlobals "range" = some none := (He.eqO_ok (c.fact 3 17 (fs := fs3) rfl rfl))
theorem q_z7 {K : PySem.W.Frag} (c : SaysF fss fns K) : PySem.W.nsIn K mainGlobals "set" = some none := (He.eqO_ok (c.fact 3 18 (fs := fs3) rfl rfl))
theorem q_z8 {K : PySem.W.Frag} (c : SaysF fss fns K) : PySem.W.nsIn K mainGlobals "str" = some none := (He.eqO_ok (c.fact 3 19 (fs := fs3) rfl rfl))
theorem okc {K : PySem.W.Frag} (c : SaysF fss fns K) : ∀ x f, f ∈ ct x → Cls K (cL K x) ∧ NoAttr K (cL K x) f := fun x f hf => by
  unfold ct at hf
  split at hf
  · cases hf
abbrev gX {K : PySem.W.Frag} (c : SaysF fss fns K) : Gx := gx K (cL K) (okc c)
theorem bB {K : PySem.W.Frag} {h : Heap} {mg : Str → Option Value} (X : K.In h) (G : h.Ns mainGlobals mg) (c : SaysF fss fns K) : Bi mg := ⟨PySem.W.mg_none_of X G (q_z0 c), PySem.W.mg_none_of X G (q_z1 c), PySem.W.mg_none_of X G (q_z2 c), PySem.W.mg_none_of X G (q_z3 c), PySem.W.mg_none_of X G (q_z4 c), PySem.W.mg_none_of X G (q_z5 c), PySem.W.mg_none_of X G (q_z6 c), PySem.W.mg_none_of X G (q_z7 c), PySem.W.mg_none_of X G (q_z8 c)⟩
theorem rX13 {K : PySem.W.Frag} {h : Heap} {mg : Str → Option Value} (X : K.In h) (G : h.Ns mainGlobals mg) (c : SaysF fss fns K) : RaiseOk K mg "BadRow" (cL K 13) := ⟨(q_xe13 c), PySem.W.mg_of X G (q_aC13 c), (q_kc13 c), (q_xs13 c), (q_xt13 c)⟩
theorem gcMOST_FIGURES {K : PySem.W.Frag} {h : Heap} {mg : Str → Option Value} (X : K.In h) (G : h.Ns mainGlobals mg) (c : SaysF fss fns K) : GlV mg "MOST_FIGURES" (.int 40) := by
  obtain ⟨t, e⟩ := He.int_ok X G (q_gc_MOST_FIGURES c)
  exact ⟨_, e, t, rfl⟩
theorem gcFIGURES {K : PySem.W.Frag} {h : Heap} {mg : Str → Option Value} (X : K.In h) (G : h.Ns mainGlobals mg) (c : SaysF fss fns K) : GlV mg "FIGURES" (.str "0123456789") := by
  obtain ⟨t, e⟩ := He.str_ok X G (q_gc_FIGURES c)
  exact ⟨_, e, t, rfl⟩
theorem gcMOST_PAGES {K : PySem.W.Frag} {h : Heap} {mg : Str → Option Value} (X : K.In h) (G : h.Ns mainGlobals mg) (c : SaysF fss fns K) : GlV mg "MOST_PAGES" (.int 40) := by
  obtain ⟨t, e⟩ := He.int_ok X G (q_gc_MOST_PAGES c)
  exact ⟨_, e, t, rfl⟩
theorem qFK {K : PySem.W.Frag} (c : SaysF fss fns K) : ∃ fd, Fun K "_law_kinds" "_law_kinds" s_law_kinds (He.ga K "_law_kinds") fd := by
  obtain ⟨oc, od, sl, kV, dc, pm, an, cd, ct, l, c1⟩ := c.fun_ 14 (d := fdK) rfl
  exact ⟨_, fun_mk (st := s_law_kinds) l c1 (q_kK c)⟩
theorem cKD {P : Program} {w : World} {K : PySem.W.Frag} {h : Heap} {mg : Str → Option Value} {base : Heap} (X : K.In h) (G : h.Ns mainGlobals mg) (c : SaysF fss fns K) : KindsOk P w (gX c) mg base 1 "_law_kinds" "CallError" kn := by
  obtain ⟨fd, FK⟩ := qFK c
  have bK := FK.binds (ps := ["e"]) fun _ _ _ _ _ _ us hl => match us, hl with | [_], _ => rfl
  refine ⟨⟨(He.ga K "_law_kinds"), _, "e", PySem.W.mg_of X G (q_aK c), (q_kK c), bK, fun x kd hc => ?_⟩, He.ga K "CallError", PySem.W.mg_of X G (q_aA_CallError c), fun x kd hc => ?_⟩
  rotate_left
  · unfold kn at hc
    split at hc
    · exact PySem.W.exm_ref (q_cb c) (q_cd c) (q_it_A_CallError c) (q_xm13 c)
    · cases hc
  · unfold kn at hc
    split at hc
    · cases hc
      exact okk (cl := cL K) (okc := okc c) FK (bB X G c) (PySem.W.mg_of X G (q_aA_NoCall c)) (PySem.W.mg_of X G (q_aA_Here c)) (PySem.W.mg_of X G (q_aC13 c)) (PySem.W.mg_of X G (q_aA_Asleep c)) (PySem.W.mg_of X G (q_aA_NoPage c)) (PySem.W.mg_of X G (q_aA_NoLeaf c)) (PySem.W.mg_of X G (q_aA_NoHand c)) (PySem.W.mg_of X G (q_aA_NoDeed c)) (PySem.W.mg_of X G (q_aA_Taken c)) (PySem.W.mg_of X G (q_aA_NoSpace c)) (PySem.W.mg_of X G (q_aA_NoRoom c)) (PySem.W.mg_of X G (q_aA_NoRight c)) (PySem.W.mg_of X G (q_aA_Waits c)) ⟨(q_e1_13 c), (q_e2_13 c), (q_xs13 c), (q_e3_13 c), (q_e4_13 c), (q_e5_13 c), (q_e6_13 c), (q_e7_13 c)⟩ (kit_no (q_ss13 c) (q_ic_A_NoCall c) (q_it_A_NoCall c) (q_q13_0 c)) (kit_no (q_ss13 c) (q_ic_A_Here c) (q_it_A_Here c) (q_q13_1 c)) kit_self (kit_no (q_ss13 c) (q_ic_A_Asleep c) (q_it_A_Asleep c) (q_q13_3 c)) (kit_no (q_ss13 c) (q_ic_A_NoPage c) (q_it_A_NoPage c) (q_q13_4 c)) (kit_no (q_ss13 c) (q_ic_A_NoLeaf c) (q_it_A_NoLeaf c) (q_q13_5 c)) (kit_no (q_ss13 c) (q_ic_A_NoHand c) (q_it_A_NoHand c) (q_q13_6 c)) (kit_no (q_ss13 c) (q_ic_A_NoDeed c) (q_it_A_NoDeed c) (q_q13_7 c)) (kit_no (q_ss13 c) (q_ic_A_Taken c) (q_it_A_Taken c) (q_q13_8 c)) (kit_no (q_ss13 c) (q_ic_A_NoSpace c) (q_it_A_NoSpace c) (q_q13_9 c)) (kit_no (q_ss13 c) (q_ic_A_NoRoom c) (q_it_A_NoRoom c) (q_q13_10 c)) (kit_no (q_ss13 c) (q_ic_A_NoRight c) (q_it_A_NoRight c) (q_q13_11 c)) (kit_ve (q_q13_12 c)) (kit_no (q_ss13 c) (q_ic_A_Waits c) (q_it_A_Waits c) (q_q13_13 c)) (S1 := _) rfl
    · cases hc
theorem qF0 {K : PySem.W.Frag} (c : SaysF fss fns K) : ∃ fd, Fun K "read_number" "read_number" s_read_number (He.ga K "read_number") fd := by
  obtain ⟨oc, od, sl, kV, dc, pm, an, cd, ct, l, c1⟩ := c.fun_ 0 (d := fd0) rfl
  exact ⟨_, fun_mk (st := s_read_number) l c1 (q_k0 c)⟩
theorem qF1 {K : PySem.W.Frag} (c : SaysF fss fns K) : ∃ fd, Fun K "read_signed" "read_signed" s_read_signed (He.ga K "read_signed") fd := by
  obtain ⟨oc, od, sl, kV, dc, pm, an, cd, ct, l, c1⟩ := c.fun_ 1 (d := fd1) rfl
  exact ⟨_, fun_mk (st := s_read_signed) l c1 (q_k1 c)⟩
theorem qF2 {K : PySem.W.Frag} (c : SaysF fss fns K) : ∃ fd, Fun K "read_pages" "read_pages" s_read_pages (He.ga K "read_pages") fd := by
  obtain ⟨oc, od, sl, kV, dc, pm, an, cd, ct, l, c1⟩ := c.fun_ 2 (d := fd2) rfl
  exact ⟨_, fun_mk (st := s_read_pages) l c1 (q_k2 c)⟩
theorem qF3 {K : PySem.W.Frag} (c : SaysF fss fns K) : ∃ fd, Fun K "_law_bag" "_law_bag" s_law_bag (He.ga K "_law_bag") fd := by
  obtain ⟨oc, od, sl, kV, dc, pm, an, cd, ct, l, c1⟩ := c.fun_ 3 (d := fd3) rfl
  exact ⟨_, fun_mk (st := s_law_bag) l c1 (q_k3 c)⟩
theorem qF4 {K : PySem.W.Frag} (c : SaysF fss fns K) : ∃ fd, Fun K "_law_take" "_law_take" s_law_take (He.ga K "_law_take") fd := by
  obtain ⟨oc, od, sl, kV, dc, pm, an, cd, ct, l, c1⟩ := c.fun_ 4 (d := fd4) rfl
  exact ⟨_, fun_mk (st := s_law_take) l c1 (q_k4 c)⟩
theorem qF5 {K : PySem.W.Frag} (c : SaysF fss fns K) : ∃ fd, Fun K "_law_whole" "_law_whole" s_law_whole (He.ga K "_law_whole") fd := by
  obtain ⟨oc, od, sl, kV, dc, pm, an, cd, ct, l, c1⟩ := c.fun_ 5 (d := fd5) rfl
  exact ⟨_, fun_mk (st := s_law_whole) l c1 (q_k5 c)⟩
theorem qF6 {K : PySem.W.Frag} (c : SaysF fss fns K) : ∃ fd, Fun K "_law_figures" "_law_figures" s_law_figures (He.ga K "_law_figures") fd := by
  obtain ⟨oc, od, sl, kV, dc, pm, an, cd, ct, l, c1⟩ := c.fun_ 6 (d := fd6) rfl
  exact ⟨_, fun_mk (st := s_law_figures) l c1 (q_k6 c)⟩
theorem qF7 {K : PySem.W.Frag} (c : SaysF fss fns K) : ∃ fd, Fun K "_law_text" "_law_text" s_law_text (He.ga K "_law_text") fd := by
  obtain ⟨oc, od, sl, kV, dc, pm, an, cd, ct, l, c1⟩ := c.fun_ 7 (d := fd7) rfl
  exact ⟨_, fun_mk (st := s_law_text) l c1 (q_k7 c)⟩
theorem qF8 {K : PySem.W.Frag} (c : SaysF fss fns K) : ∃ fd, Fun K "_law_spoilt" "_law_spoilt" s_law_spoilt (He.ga K "_law_spoilt") fd := by
  obtain ⟨oc, od, sl, kV, dc, pm, an, cd, ct, l, c1⟩ := c.fun_ 8 (d := fd8) rfl
  exact ⟨_, fun_mk (st := s_law_spoilt) l c1 (q_k8 c)⟩
theorem qF9 {K : PySem.W.Frag} (c : SaysF fss fns K) : ∃ fd, Fun K "_law_number" "_law_number" s_law_number (He.ga K "_law_number") fd := by
  obtain ⟨oc, od, sl, kV, dc, pm, an, cd, ct, l, c1⟩ := c.fun_ 9 (d := fd9) rfl
  exact ⟨_, fun_mk (st := s_law_number) l c1 (q_k9 c)⟩
theorem qF10 {K : PySem.W.Frag} (c : SaysF fss fns K) : ∃ fd, Fun K "_law_due" "_law_due" s_law_due (He.ga K "_law_due") fd := by
  obtain ⟨oc, od, sl, kV, dc, pm, an, cd, ct, l, c1⟩ := c.fun_ 10 (d := fd10) rfl
  exact ⟨_, fun_mk (st := s_law_due) l c1 (q_k10 c)⟩
theorem qF11 {K : PySem.W.Frag} (c : SaysF fss fns K) : ∃ fd, Fun K "_law_tried" "_law_tried" s_law_tried (He.ga K "_law_tried") fd := by
  obtain ⟨oc, od, sl, kV, dc, pm, an, cd, ct, l, c1⟩ := c.fun_ 11 (d := fd11) rfl
  exact ⟨_, fun_mk (st := s_law_tried) l c1 (q_k11 c)⟩
theorem qF12 {K : PySem.W.Frag} (c : SaysF fss fns K) : ∃ fd, Fun K "_law_right" "_law_right" s_law_right (He.ga K "_law_right") fd := by
  obtain ⟨oc, od, sl, kV, dc, pm, an, cd, ct, l, c1⟩ := c.fun_ 12 (d := fd12) rfl
  exact ⟨_, fun_mk (st := s_law_right) l c1 (q_k12 c)⟩
theorem D3d {P : Program} {w : World} {K : PySem.W.Frag} {h : Heap} {mg : Str → Option Value} {base : Heap} (X : K.In h) (G : h.Ns mainGlobals mg) (c : SaysF fss fns K) : DefOk P w (gX c) mg base 1 "_law_bag" 2 m_law_bag := by
  obtain ⟨fd, F⟩ := qF3 c
  exact ⟨(He.ga K "_law_bag"), _, _, ok_law_bag (P := P) (w := w) (cl := cL K) (okc := okc c) (base := base) F (bB X G c) , PySem.W.mg_of X G (q_a3 c), (q_k3 c), (F.binds (ps := ["script", "k"]) fun _ _ _ _ _ _ us hl => match us, hl with | [_, _], _ => rfl)⟩
theorem D4d {P : Program} {w : World} {K : PySem.W.Frag} {h : Heap} {mg : Str → Option Value} {base : Heap} (X : K.In h) (G : h.Ns mainGlobals mg) (c : SaysF fss fns K) : DefOk P w (gX c) mg base 1 "_law_take" 2 m_law_take := by
  obtain ⟨fd, F⟩ := qF4 c
  exact ⟨(He.ga K "_law_take"), _, _, ok_law_take (P := P) (w := w) (cl := cL K) (okc := okc c) (base := base) F (bB X G c) , PySem.W.mg_of X G (q_a4 c), (q_k4 c), (F.binds (ps := ["bag", "many"]) fun _ _ _ _ _ _ us hl => match us, hl with | [_, _], _ => rfl)⟩
theorem D8d {P : Program} {w : World} {K : PySem.W.Frag} {h : Heap} {mg : Str → Option Value} {base : Heap} (X : K.In h) (G : h.Ns mainGlobals mg) (c : SaysF fss fns K) : DefOk P w (gX c) mg base 2 "_law_spoilt" 2 m_law_spoilt := by
  obtain ⟨fd, F⟩ := qF8 c
  exact ⟨(He.ga K "_law_spoilt"), _, _, ok_law_spoilt (P := P) (w := w) (cl := cL K) (okc := okc c) (base := base) F (bB X G c) (D4d X G c), PySem.W.mg_of X G (q_a8 c), (q_k8 c), (F.binds (ps := ["bag", "text"]) fun _ _ _ _ _ _ us hl => match us, hl with | [_, _], _ => rfl)⟩
theorem D6d {P : Program} {w : World} {K : PySem.W.Frag} {h : Heap} {mg : Str → Option Value} {base : Heap} (X : K.In h) (G : h.Ns mainGlobals mg) (c : SaysF fss fns K) : DefOk P w (gX c) mg base 2 "_law_figures" 1 m_law_figures := by
  obtain ⟨fd, F⟩ := qF6 c
  exact ⟨(He.ga K "_law_figures"), _, _, ok_law_figures (P := P) (w := w) (cl := cL K) (okc := okc c) (base := base) F (bB X G c) (D4d X G c), PySem.W.mg_of X G (q_a6 c), (q_k6 c), (F.binds (ps := ["bag"]) fun _ _ _ _ _ _ us hl => match us, hl with | [_], _ => rfl)⟩
theorem D7d {P : Program} {w : World} {K : PySem.W.Frag} {h : Heap} {mg : Str → Option Value} {base : Heap} (X : K.In h) (G : h.Ns mainGlobals mg) (c : SaysF fss fns K) : DefOk P w (gX c) mg base 3 "_law_text" 1 m_law_text := by
  obtain ⟨fd, F⟩ := qF7 c
  exact ⟨(He.ga K "_law_text"), _, _, ok_law_text (P := P) (w := w) (cl := cL K) (okc := okc c) (base := base) F (bB X G c) (D4d X G c) (D6d X G c), PySem.W.mg_of X G (q_a7 c), (q_k7 c), (F.binds (ps := ["bag"]) fun _ _ _ _ _ _ us hl => match us, hl with | [_], _ => rfl)⟩
theorem D9d {P : Program} {w : World} {K : PySem.W.Frag} {h : Heap} {mg : Str → Option Value} {base : Heap} (X : K.In h) (G : h.Ns mainGlobals mg) (c : SaysF fss fns K) : DefOk P w (gX c) mg base 1 "_law_number" 1 m_law_number := by
  obtain ⟨fd, F⟩ := qF9 c
  exact ⟨(He.ga K "_law_number"), _, _, ok_law_number (P := P) (w := w) (cl := cL K) (okc := okc c) (base := base) F (bB X G c) , PySem.W.mg_of X G (q_a9 c), (q_k9 c), (F.binds (ps := ["text"]) fun _ _ _ _ _ _ us hl => match us, hl with | [_], _ => rfl)⟩
theorem D10d {P : Program} {w : World} {K : PySem.W.Frag} {h : Heap} {mg : Str → Option Value} {base : Heap} (X : K.In h) (G : h.Ns mainGlobals mg) (c : SaysF fss fns K) : DefOk P w (gX c) mg base 2 "_law_due" 2 m_law_due := by
  obtain ⟨fd, F⟩ := qF10 c
  exact ⟨(He.ga K "_law_due"), _, _, ok_law_due (P := P) (w := w) (cl := cL K) (okc := okc c) (base := base) F (bB X G c) (D9d X G c), PySem.W.mg_of X G (q_a10 c), (q_k10 c), (F.binds (ps := ["which", "text"]) fun _ _ _ _ _ _ us hl => match us, hl with | [_, _], _ => rfl)⟩
theorem D0d {P : Program} {w : World} {K : PySem.W.Frag} {h : Heap} {mg : Str → Option Value} {base : Heap} (X : K.In h) (G : h.Ns mainGlobals mg) (c : SaysF fss fns K) : DefOk P w (gX c) mg base 1 "read_number" 1 m_read_number := by
  obtain ⟨fd, F⟩ := qF0 c
  exact ⟨(He.ga K "read_number"), _, _, ok_read_number (P := P) (w := w) (cl := cL K) (okc := okc c) (base := base) F (bB X G c) (gcMOST_FIGURES X G c) (gcFIGURES X G c) (rX13 X G c), PySem.W.mg_of X G (q_a0 c), (q_k0 c), (F.binds (ps := ["text"]) fun _ _ _ _ _ _ us hl => match us, hl with | [_], _ => rfl)⟩
theorem D1d {P : Program} {w : World} {K : PySem.W.Frag} {h : Heap} {mg : Str → Option Value} {base : Heap} (X : K.In h) (G : h.Ns mainGlobals mg) (c : SaysF fss fns K) : DefOk P w (gX c) mg base 2 "read_signed" 1 m_read_signed := by
  obtain ⟨fd, F⟩ := qF1 c
  exact ⟨(He.ga K "read_signed"), _, _, ok_read_signed (P := P) (w := w) (cl := cL K) (okc := okc c) (base := base) F (bB X G c) (rX13 X G c) (D0d X G c), PySem.W.mg_of X G (q_a1 c), (q_k1 c), (F.binds (ps := ["text"]) fun _ _ _ _ _ _ us hl => match us, hl with | [_], _ => rfl)⟩
theorem D2d {P : Program} {w : World} {K : PySem.W.Frag} {h : Heap} {mg : Str → Option Value} {base : Heap} (X : K.In h) (G : h.Ns mainGlobals mg) (c : SaysF fss fns K) : DefOk P w (gX c) mg base 2 "read_pages" 1 m_read_pages := by
  obtain ⟨fd, F⟩ := qF2 c
  exact ⟨(He.ga K "read_pages"), _, _, ok_read_pages (P := P) (w := w) (cl := cL K) (okc := okc c) (base := base) F (bB X G c) (gcMOST_PAGES X G c) (rX13 X G c) (D0d X G c), PySem.W.mg_of X G (q_a2 c), (q_k2 c), (F.binds (ps := ["text"]) fun _ _ _ _ _ _ us hl => match us, hl with | [_], _ => rfl)⟩
theorem D11d {P : Program} {w : World} {K : PySem.W.Frag} {h : Heap} {mg : Str → Option Value} {base : Heap} (X : K.In h) (G : h.Ns mainGlobals mg) (c : SaysF fss fns K) : DefOk P w (gX c) mg base 3 "_law_tried" 2 m_law_tried := by
  obtain ⟨fd, F⟩ := qF11 c
  exact ⟨(He.ga K "_law_tried"), _, _, ok_law_tried (P := P) (w := w) (cl := cL K) (okc := okc c) (base := base) F (bB X G c) (cKD X G c) (D0d X G c) (D1d X G c) (D2d X G c), PySem.W.mg_of X G (q_a11 c), (q_k11 c), (F.binds (ps := ["which", "text"]) fun _ _ _ _ _ _ us hl => match us, hl with | [_, _], _ => rfl)⟩
theorem D5d {P : Program} {w : World} {K : PySem.W.Frag} {h : Heap} {mg : Str → Option Value} {base : Heap} (X : K.In h) (G : h.Ns mainGlobals mg) (c : SaysF fss fns K) : DefOk P w (gX c) mg base 1 "_law_whole" 1 m_law_whole := by
  obtain ⟨fd, F⟩ := qF5 c
  exact ⟨(He.ga K "_law_whole"), _, _, ok_law_whole (P := P) (w := w) (cl := cL K) (okc := okc c) (base := base) F (bB X G c) , PySem.W.mg_of X G (q_a5 c), (q_k5 c), (F.binds (ps := ["thing"]) fun _ _ _ _ _ _ us hl => match us, hl with | [_], _ => rfl)⟩
theorem D12d {P : Program} {w : World} {K : PySem.W.Frag} {h : Heap} {mg : Str → Option Value} {base : Heap} (X : K.In h) (G : h.Ns mainGlobals mg) (c : SaysF fss fns K) : DefOk P w (gX c) mg base 4 "_law_right" 2 m_law_right := by
  obtain ⟨fd, F⟩ := qF12 c
  exact ⟨(He.ga K "_law_right"), _, _, ok_law_right (P := P) (w := w) (cl := cL K) (okc := okc c) (base := base) F (bB X G c) (D10d X G c) (D11d X G c) (D5d X G c), PySem.W.mg_of X G (q_a12 c), (q_k12 c), (F.binds (ps := ["which", "text"]) fun _ _ _ _ _ _ us hl => match us, hl with | [_, _], _ => rfl)⟩
theorem facts {P : Program} {w : World} {K : PySem.W.Frag} {h : Heap} {mg : Str → Option Value} {fa : Addr} (X : K.In h) (G : h.Ns mainGlobals mg) (hfa : mg "law" = some (.ref fa)) (c : SaysF fss fns K) :
    ∃ fd : FuncData, (∀ (s : Shared) (v : Value), BindsTo s fd ⟨[v], []⟩ [("script", v)]) ∧ ∀ base : Heap, K.In base → base.Ns mainGlobals mg → FnOk P w K mg base (L2N.CX P w) 5 fa fd ["script"] (VT.spL 63 K) := by
  have e := hfa.symm.trans (PySem.W.mg_of X G (q_a13 c))
  cases e
  obtain ⟨oc, od, sl, kV, dc, pm, an, cd, ct, l, c1⟩ := c.fun_ 13 (d := fd13) rfl
  have F := fun_mk (st := s_law) l c1 (q_k13 c)
  refine ⟨PySem.W.fnOf "law" "law" (defArgs s_law) (defBody s_law) (defScope s_law) .none kV dc pm an cd ct, fun s v => .of_eq rfl, fun base _ _ => ?_⟩
  exact FnOk.imp (ok_law (P := P) (w := w) (cl := cL K) (okc := okc c) (base := base) F (bB X G c) (D3d X G c) (D8d X G c) (D7d X G c) (D12d X G c)) fun vs H Q E q => VT.spL_sp (Γ := gX c) law_end q
end K23
open PySem PySem.W PySem.Calls PyProof.Rows
theorem PySem.Challenge.cw_leafcall_k23_numbers_and_pages_read_holds : PySem.Challenge.rw_leafcall_k23_numbers_and_pages_read.Holds := by
  refine K23.hold_of fun q => ?_
  refine VT.walk_own (l := PySem.Challenge.rw_leafcall_k23_numbers_and_pages_read) (n := 63) (k := 5) (x := "script") (CX := fun w => L2N.CX PySem.Challenge.rw_leafcall_k23_numbers_and_pages_read.prog w) rfl (by decide) (by kernel_rfl) ⟨rfl, by decide, by decide⟩ ?F (fun w H s e s' z => by
    obtain ⟨_, _, _, _, _, _, _, _, _, _, _, _, z⟩ := z
    exact z)
  intro w mg fa h Y G hm0
  obtain ⟨K, KX, c⟩ := Y
  have hm : mg ("law" : PySem.Str) = some (.ref fa) := by
    have e : (HandSHeadRun.topDef (OpenLaw.row PySem.Challenge.rw_leafcall_k23_numbers_and_pages_read).prog 34).name = ("law" : PySem.Str) := by kernel_rfl
    rw [← e]
    exact hm0
  obtain ⟨fd, hb, hF⟩ := K23.facts (P := PySem.Challenge.rw_leafcall_k23_numbers_and_pages_read.prog) (w := w) KX G hm c
  exact ⟨K, KX, fd, VT.spL 63 K, hb, fun H a ns hl hO hS => ⟨a, ns, rfl, hl, hO, hS, fun _ => rfl⟩, hF⟩
#print axioms PySem.Challenge.cw_leafcall_k23_numbers_and_pages_read_holds
