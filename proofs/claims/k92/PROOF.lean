import PyProof.Rows.All
import Wide.All
import OpenK.AllK
import Wide.FinOn
import HandS.ForMost
import HandS.Exc
import HandS.Codes
import HandS.Head2
import HandS.HeadHook4
import HandS.HeadWalk
import KE.KExcSuper
import HandS.ExcOwn
import HandS.WordsExc
import HandS.ExcInit
import HandS.ExcIs
import HandS.ExcField
import HandS.Defaults
import HandS.IsInst
import HandS.Nested
import KE.KExcIs
import KE.KLam
import KE.KNest
import HandS.Lambda
import HandS.EndBits
import HandS.EndTab
import KE.KDictDisplayH
import KE.LtSeq
import KE.LtData
import HandS.Deep
import HandS.TupLe
import HandS.Strs
import HandS.SetFor
import HandS.Star
import HandS.Walk
import HandS.TupAny
import HandS.FStr
import HandS.Flow
import HandS.Conv
import KE.KEqDeep
import PyProof.Rows.StrSplitJoin
import KE.IntTextLaws
import PyProof.Rows.StrItems
import HandS.CallLocal
import PyProof.NeKinds
import PyProof.FitsInt
import HandS.FStrTup
import PyProof.ReprLen
import HandS.Wide
import HandS.JoinGen
import KE.KStateDown
import HandS.HeadEnd
import PySem.Challenge.RW_piledtrees_k92_whole_any_text_of_a_tree
set_option Elab.async false
set_option linter.all false
set_option maxRecDepth 100000
set_option maxHeartbeats 0
/-! k92: the text by places -/
namespace KT
open PySem PySem.Spec PyProof.Rows L2
abbrev prog : Program := PySem.Challenge.pw_piledtrees_k92_whole_any_text_of_a_tree
abbrev row : PySem.W.OpenLaw := PySem.Challenge.rw_piledtrees_k92_whole_any_text_of_a_tree
def top (i : Nat) : Stmt := prog.main.body.getD i (.Pass ⟨0, 0, 0, 0⟩)
end KT
set_option Elab.async false
set_option linter.all false
set_option maxRecDepth 100000
set_option maxHeartbeats 0
/-! k92: what is looked at behind the top; the head's run -/
namespace KHk
open PySem PySem.Spec PyProof.Rows L2 KT
abbrev Frag := PySem.W.Frag
/-! ### the defs -/
def fnG (i : Nat) (x : Str) : He.DefD := ⟨(x, none), x, x, defArgs (top i), defBody (top i), defScope (top i), [], []⟩
def fnM (i j : Nat) (c m q : Str) (dfl : List He.Dv) : He.DefD := ⟨(c, some m), m, q, defArgs (inClass (top i) j), defBody (inClass (top i) j), defScope (inClass (top i) j), dfl, []⟩
def fn : List He.DefD := [
  fnG 19 "is_word", fnG 20 "is_number", fnG 21 "is_tuple", fnG 22 "are_rising", fnG 23 "are_pairs", fnG 24 "is_node", fnG 25 "numbers_in", fnG 26 "nodes_in", fnG 27 "is_tree", fnG 28 "need_tree",
  fnG 37 "path_text", fnG 38 "nodes_text", fnG 39 "pairs_text", fnG 40 "tree_text", fnG 42 "number_in", fnG 43 "path_in", fnG 45 "read_lines", fnG 46 "take_node", fnG 47 "read_tree",
  fnG 49 "_law_mixed", fnG 50 "_law_folded", fnG 51 "_law_draw", fnG 52 "_law_begun", fnG 53 "_law_like", fnG 54 "_law_folder", fnG 55 "_law_numbers", fnG 56 "_law_tree", fnG 57 "_law_said", fnG 58 "_law_is_word", fnG 59 "_law_is_number",
  fnG 60 "_law_path_in", fnG 61 "_law_at", fnG 62 "_law_wrong", fnG 63 "_law_folder_of", fnG 64 "_law_due", fnG 65 "_law_right", fnG 66 "_law_bent", fnG 67 "law",
  fnM 41 0 "Line" "__init__" "Line.__init__" [], fnM 41 1 "Line" "refuse" "Line.refuse" [], fnM 41 2 "Line" "has_more" "Line.has_more" [], fnM 41 3 "Line" "taken" "Line.taken" [], fnM 41 4 "Line" "next_of" "Line.next_of" [],
  fnM 41 5 "Line" "next_word" "Line.next_word" [], fnM 41 6 "Line" "next_number" "Line.next_number" [], fnM 41 7 "Line" "next_path" "Line.next_path" [.int 6], fnM 41 8 "Line" "need_end" "Line.need_end" [],
  fnM 44 0 "Reader" "__init__" "Reader.__init__" [], fnM 44 1 "Reader" "place_in" "Reader.place_in" [], fnM 44 2 "Reader" "put" "Reader.put" [], fnM 44 3 "Reader" "begin_folder" "Reader.begin_folder" [], fnM 44 4 "Reader" "take_pair" "Reader.take_pair" [],
  fnM 44 5 "Reader" "entries" "Reader.entries" []]
/-! ### the facts -/
def gloN : List Str := ["is_word", "is_number", "is_tuple", "are_rising", "are_pairs", "is_node", "numbers_in", "nodes_in", "is_tree", "need_tree", "path_text", "nodes_text", "pairs_text", "tree_text", "number_in", "path_in", "read_lines", "take_node", "read_tree"]
def gloL : List Str := ["_law_mixed", "_law_folded", "_law_draw", "_law_begun", "_law_like", "_law_folder", "_law_numbers", "_law_tree", "_law_said", "_law_is_word", "_law_is_number", "_law_path_in", "_law_at", "_law_wrong", "_law_folder_of", "_law_due", "_law_right", "_law_bent", "law"]
def gloC : List Str := ["PileError", "BadTree", "BadPath", "BadUpper", "BadDeed", "BadBook", "BadRow", "BadLayers", "BadText", "Refused", "Line", "Reader"]
def freeN : List Str := ["all", "bool", "dict", "enumerate", "int", "isinstance", "len", "list", "min", "range", "repr", "set", "sorted", "str", "sum", "tuple", "zip", "super"]
def intN : List (Str × Int) := [("MOST_NODES", 60), ("MOST_DEEP", 6), ("MOST_NUMBER", 99), ("MOST_LETTERS", 8), ("MOST_FIGURES", 4)]
def strN : List (Str × Str) := [("LETTERS", "abcdefghijklmnopqrstuvwxyz"), ("FILE", "file"), ("FOLDER", "folder"), ("JOINS", "joins"), ("ROOT", "-"), ("SLASH", "/"), ("WORD", "word"), ("INDEX", "index"), ("FIGURES", "0123456789")]
def meN : List (Str × Str) := [("Line", "refuse"), ("Line", "has_more"), ("Line", "taken"), ("Line", "next_of"), ("Line", "next_word"), ("Line", "next_number"), ("Line", "next_path"), ("Line", "need_end"), ("Reader", "place_in"), ("Reader", "put"), ("Reader", "begin_folder"), ("Reader", "take_pair"), ("Reader", "entries")]
def noN : List (Str × Str) := [("Line", "words"), ("Line", "number"), ("Line", "at"), ("Reader", "folders"), ("Reader", "marks"), ("Reader", "last"), ("Reader", "pairs"), ("BadTree", "value"), ("BadText", "line"), ("BadText", "word")]
def faGlo : List He.Fa := (gloN ++ gloL ++ gloC).map .glo
def faFree : List He.Fa := freeN.map .free
def faInt : List He.Fa := intN.map fun p => .int p.1 p.2
def faStr : List He.Fa := strN.map fun p => .str p.1 p.2
def faMe : List He.Fa := meN.map fun p => .meth p.1 p.2
def faNo : List He.Fa := noN.map fun p => .noat p.1 p.2
def faRest : List He.Fa := [.cls "Line", .cls "Reader", .mkr "Line", .mkr "Reader", .exm "BadTree" "PileError" true, .exm "BadText" "PileError" true]
def fa : List He.Fa := faGlo ++ (faFree ++ (faInt ++ (faStr ++ (faMe ++ (faNo ++ faRest)))))
/-! ### the classes of errors -/
def oexB (K : Frag) (C : Addr) : Bool := match K.lookup C with
  | some ⟨.type "type", _, .cls cd, sl⟩ => (match cd.mro, sl.toList with
    | .ref C' :: bm, [_, _, _, _, some (.builtin n), _] => C' == C && n == "ValueError.__new__" && !cd.hasDel && cd.hasDict && PySem.HandSPX.refsVE bm
    | _, _ => false)
  | _ => false
def fileB (K : Frag) (cda : Addr) : Bool := match K.lookup cda with
  | some ⟨_, _, .fields vs, _⟩ => (match (vs[2]? : Option Value) with
    | some (.str z _) => (prog.main.file : Str) == z
    | _ => false)
  | _ => false
def cellB (K : Frag) (cc C : Addr) : Bool := match K.lookup cc with
  | some ⟨_, _, .cell (some (.ref D)), _⟩ => D == C
  | _ => false
def noneB : Value → Bool
  | .none => true
  | _ => false
def initB (K : Frag) (C fI : Addr) (q : Str) : Bool := match K.lookup fI with
  | some ⟨_, _, .func fd, _⟩ => noneB fd.defaults && ((match fd.closure with
    | [(_, cc)] => cellB K cc C
    | _ => false) && (match fd.code with
    | .ref cda => PySem.W.codeIn K (.ref cda) q && fileB K cda
    | _ => false))
  | _ => false
def excB (K : Frag) (D : Addr) : Bool := He.eqO (PySem.W.findIn K (.ref D) "__class__") (some (some (.builtin "object.__class__"))) && (He.eqO (PySem.W.specialIn K (.builtin "object.__class__") "__get__") (some (some (.builtin "getset_descriptor.__get__"))) &&
  (decide (PySem.W.takesIn K (.builtin "object.__class__") = some true) && decide (PySem.W.mroIn K D (.type "object") = some true)))
def errB (K : Frag) (x q : Str) : Bool := oexB K (He.ga K x) && (He.eqO (PySem.W.findIn K (.ref (He.ga K x)) "__setattr__") (some (some (.builtin "object.__setattr__"))) && (decide (PySem.W.typeIn K (.ref (He.ga K x)) = some (.type "type")) && (PySem.W.keepIn K (.ref (He.ga K x)) &&
  (He.eqO (PySem.W.findIn K (.ref (He.ga K x)) "__init__") (some (some (.ref (He.ma K (He.ga K x) "__init__")))) && (decide (PySem.W.typeIn K (.ref (He.ma K (He.ga K x) "__init__")) = some (.type "function")) && (initB K (He.ga K x) (He.ma K (He.ga K x) "__init__") q &&
  (decide (PySem.W.mroIn K (He.ga K x) (.ref (He.ga K x)) = some true) && (He.eqO (PySem.W.ks_superIn K (He.ga K x) (He.ga K x) "__init__") (some (some (.builtin "ValueError.__init__"))) && (decide (PySem.W.subIn K (.ref (He.ga K x)) (.type "ValueError") = some true) &&
  (xfB K (He.ga K x) && excB K (He.ga K x)))))))))))
def askN : List Str := ["BadTree", "BadPath", "BadUpper", "BadDeed", "BadBook", "BadRow", "BadLayers", "BadText", "Refused"]
def exB (K : Frag) : Bool := !((He.cT K ("is_node", none)).2 == (He.cT K ("_law_right", none)).2) && (errB K "BadTree" "BadTree.__init__" && (errB K "BadText" "BadText.__init__" && (He.eqO (PySem.W.nsIn K cStatics "thirdparty.any") (some none) &&
  ((askN.all fun x => decide (PySem.W.kitOne K (.ref (He.ga K "BadTree")) (.ref (He.ga K x)) = some (decide (x = "BadTree")))) && (askN.all fun x => decide (PySem.W.kitOne K (.ref (He.ga K "BadText")) (.ref (He.ga K x)) = some (decide (x = "BadText"))))))))
/-! ### defs with cells -/
abbrev FnZ : Type := Option (Str × Str × Arguments × FuncBody × Scope × Addr × List Str × Addr)
def fnZ (K : Frag) (p : Str × Option Str) : FnZ := match K.lookup (He.fAd K p) with
  | some ⟨_, _, .func fd, _⟩ => some (fd.name, fd.qualname, fd.params, fd.body, fd.scope, fd.globals, fd.closure.map (·.1), fd.builtins)
  | _ => none
structure Zd where
  at_ : Str × Option Str
  qual : Str
  st : Stmt
def Zd.val (z : Zd) : FnZ := some ("__init__", z.qual, defArgs z.st, .stmts (defBody z.st), defScope z.st, mainGlobals, ["__class__"], builtinsNs)
def zs : List Zd := [⟨("BadTree", some "__init__"), "BadTree.__init__", inClass (top 2) 0⟩, ⟨("BadText", some "__init__"), "BadText.__init__", inClass (top 9) 0⟩]
def tf : List He.Defn := [("is_node", none), ("_law_right", none)]
/-! ### the hook -/
def KZ (g : Addr → Option Obj) : Frag := He.frT g (cStatics :: He.asD g 6)
abbrev AlZ : Type := He.AlX × List FnZ
def obZ (K : Frag) (g : Addr → Option Obj) : AlZ := ((He.obsT fa fn [] K, exB K && He.tabsB g tf K), zs.map fun z => fnZ K z.at_)
def valZ (w : World) : AlZ := (He.valX fn [] w, zs.map Zd.val)
structure SaysZ (w : World) (h : Heap) (K : Frag) : Prop where
  t : He.SaysT fa fn [] w K
  more : exB K = true
  hd : ∀ p ∈ tf, PySem.W.codeHdIn K (He.cT K p).1 (He.cT K p).2 = true
  out : ∀ p ∈ tf, K.lookup (He.cT K p).2 = none
  empty : ∀ p ∈ tf, h.get? (He.cT K p).2 = some { cls := .none, data := .fields #[] }
  inits : ∀ z ∈ zs, fnZ K z.at_ = z.val
theorem saysZ_of {w : World} {h : Heap} (e : obZ (KZ h.get?) h.get? = valZ w) : SaysZ w h (KZ h.get?) := by
  have e1 : He.obsT fa fn [] (KZ h.get?) = He.valT fn [] w := congrArg (fun z : AlZ => z.1.1) e
  have e2 : (exB (KZ h.get?) && He.tabsB h.get? tf (KZ h.get?)) = true := congrArg (fun z : AlZ => z.1.2) e
  have e3 : zs.map (fun z => fnZ (KZ h.get?) z.at_) = zs.map Zd.val := congrArg (fun z : AlZ => z.2) e
  obtain ⟨h1, h2⟩ := He.ba e2
  have key : ∀ p ∈ tf, PySem.W.codeHdIn (KZ h.get?) (He.cT (KZ h.get?) p).1 (He.cT (KZ h.get?) p).2 = true ∧ ∃ o, h.get? (He.cT (KZ h.get?) p).2 = some o ∧ He.emptyTab o = true := fun p hp => by
    obtain ⟨h3, h4⟩ := He.ba (List.all_eq_true.mp h2 p hp)
    refine ⟨h3, ?_⟩
    cases q : h.get? (He.cT (KZ h.get?) p).2 with
    | none =>
      rw [q] at h4
      cases h4
    | some o =>
      rw [q] at h4
      exact ⟨o, rfl, h4⟩
  exact ⟨e1, h1, fun p hp => (key p hp).1, fun p hp => by
    obtain ⟨_, o, q, z⟩ := key p hp
    exact He.frT_none q z, fun p hp => by
    obtain ⟨_, o, q, z⟩ := key p hp
    rw [q, He.emptyTab_eq z], fun z hz => by
    obtain ⟨i, hi, ei⟩ := List.mem_iff_getElem.mp hz
    have ez : zs[i]? = some z := by rw [List.getElem?_eq_getElem hi, ei]
    have q : (zs.map fun z => fnZ (KZ h.get?) z.at_)[i]? = (zs.map Zd.val)[i]? := by rw [e3]
    rw [List.getElem?_map, List.getElem?_map, ez] at q
    exact Option.some.inj q⟩
def hk : PySem.W.Hook where
  α := AlZ
  obs := fun s => obZ (KZ s.heap.get?) s.heap.get?
  val := fun w => valZ w
  says := fun w h => ∃ K : Frag, K.In h ∧ SaysZ w h K
  of := fun _ _ e => ⟨_, He.frT_in, saysZ_of e⟩
  keeps := fun _ _ _ ⟨K, hK, c⟩ k => ⟨K, PySem.W.Frag.In.keeps hK k, ⟨c.t, c.more, c.hd, c.out, fun p hp => k _ _ (c.empty p hp), c.inits⟩⟩
def ob (s : PySem.W.SharedT) : AlZ := obZ (KZ (HandSHeadRun.getT s)) (HandSHeadRun.getT s)
theorem ob_eq (s : PySem.W.SharedT) : ob s = hk.obs s.abs := by
  have e : HandSHeadRun.getT s = s.abs.heap.get? := funext fun a => HandSHeadRun.getT_eq s a
  unfold ob
  rw [e] <;> rfl
def loose : List Str := (prog.main.scope.names.map (·.1)).filter fun x => !decide (x = "law") && !decide (x = "__name__")
end KHk
set_option Elab.async false
set_option linter.all false
set_option maxRecDepth 100000
set_option maxHeartbeats 0
/-! k92: the head's run -/
namespace KHk
open PySem PySem.Spec PyProof.Rows L2 KT
theorem run (w : World) : HandSHeadRun.RunEq row.row (PySem.W.view row.row.prog [67]) hk ob 20000 loose w := by
  intro os
  kernel_rfl
end KHk
set_option Elab.async false
set_option linter.all false
set_option maxRecDepth 100000
set_option maxHeartbeats 4000000
/-! k92: an own exception whose __init__ says super().__init__(text), then stores fields: FnOk of that __init__ -/
namespace L2
namespace KX
open PySem PySem.Spec PyProof.Rows NdefX LamX
/-- what the written part says of the class at C and its __init__ (text st), at fI; cc: the cell of __class__, cda: the code object -/
structure ExK (P : Program) (K : PySem.W.Frag) (mg : Str → Option Value) (C fI cc cda : Addr) (x qual : Str) (st : Stmt) : Prop where
  oex : OexC K C
  iC : PySem.W.findIn K (.ref C) "__init__" = some (some (.ref fI))
  tI : PySem.W.typeIn K (.ref fI) = some (.type "function")
  gC : mg x = some (.ref C)
  fn : ∃ (oc : Value) (od : Option Addr) (kV doc pm : Value) (an : Option Addr) (ct : Value) (osl : Array (Option Value)),
    K.lookup fI = some ⟨oc, od, .func (PySem.W.fnX "__init__" qual (defArgs st) (defBody st) (defScope st) [("__class__", cc)] .none kV doc pm an (.ref cda) ct), osl⟩
  code : PySem.W.codeIn K (.ref cda) qual = true
  file : ∃ (cl : Value) (cd : Option Addr) (vs : Array Value) (cs : Array (Option Value)) (file : Str) (tf : Tok), K.lookup cda = some ⟨cl, cd, .fields vs, cs⟩ ∧ vs[2]? = some (.str file tf) ∧ ((P.main.file : Str) == file) = true
  cell : ∃ (cl : Value) (cd : Option Addr) (cs : Array (Option Value)), K.lookup cc = some ⟨cl, cd, .cell (some (.ref C)), cs⟩
  self : PySem.W.mroIn K C (.ref C) = some true
  sup : PySem.W.nsIn K mainGlobals "super" = some none
  sta : PySem.W.nsIn K cStatics "thirdparty.any" = some none
  along : PySem.W.ks_superIn K C C "__init__" = some (some (.builtin "ValueError.__init__"))
  sub : PySem.W.subIn K (.ref C) (.type "ValueError") = some true
  top : (P.main.scope.names.lookup ("super" : Str)).isSome = false
section
variable {P : Program} {w : World} {K : PySem.W.Frag} {mg : Str → Option Value} {base : Heap} {C fI cc cda : Addr} {x qual : Str} {st : Stmt}
/-- the wrapper, called -/
theorem mw_call {A : Around} {E : Value → Shared → Prop} {X : Cx} {pins : List (Addr × Obj)} {σ : St} {H : Hp} {s : Shared} {a u : Addr} {us : List Value} {Q : Value → Shared → Prop} (T : OexC X.K C) (I : Inv X pins σ H s) (e : H a = some (exo a C none))
    (hu : s.heap.get? u = some (PySem.W.kxs_mw "ValueError.__init__" a)) (hl : us.length ≤ sizeLine) (h : ∀ s', Inv X pins σ H s' → Q .none s') :
    wpAny (model X.prog X.w) A (call (.ref u) us) Q E s := by
  obtain ⟨nm, q, N, bs, bm, sn, sub, ab, col, dd, k0, k1, k2, k3, k5, hC, hbm⟩ := T.cls
  obtain ⟨t1, ho⟩ := exo_at I.hok e
  have hcls := I.kIn _ _ hC
  have fin : ∀ h' : Heap, (∀ b o, b ≠ a → s.heap.get? b = some o → h'.get? b = some o) →
      (∃ t2 : Addr, h'.get? a = some ({ cls := .ref C, dict := none, data := .fields #[.ref t2, .none, .none, .none, .bool false, .none] } : Obj)) → Q .none { s with heap := h' } := fun h' k ⟨t2, hx⟩ => by
    have J := I.write (t' := s.toks) (x := a) (e := a) (o := exo a C none) (by rw [e]; exact True.intro) (.inl rfl) k ⟨_, hx⟩ (exo_ok hx)
    have eu : upd H a (exo a C none) = H := by
      funext b
      by_cases hb : b = a
      · rw [hb, upd_same, e]
      · rw [upd_ne hb]
    rw [eu] at J
    exact h _ J
  obtain ⟨hp, g, d, t, os⟩ := s
  refine wpAny_call (codeAny_of_tree ?_)
  show wpAny _ A.in1 (callAny (.ref u) ⟨us, []⟩) _ _ _
  simp only [callAny]
  refine wpAny_bind (wpAny_load (o := PySem.W.kxs_mw "ValueError.__init__" a) hu ?_)
  simp only [PySem.W.kxs_mw, show (Value.type "method-wrapper" == Value.type "method" || Value.type "method-wrapper" == Value.type "builtin_function_or_method" || Value.type "method-wrapper" == Value.type "method-wrapper") = true by decide, if_true]
  refine PySem.W.KFB.if_so (by decide) ?_
  refine wpAny_bind (PySem.W.check_bound_init F.excBase_ValueError.toExcCallFacts hcls ho rfl ?_)
  refine wpAny_bind (wpAny_pure (wpAny_pure ?_))
  refine ⟨plainId_quiet F.excBase_ValueError.init.plain _, codeAny_builtin F.excBase_ValueError.initEntry ?_⟩
  exact PySem.W.exc_init_tree (cls := .ref C) (t0 := t1) (dv := none) (c2 := .none) (c3 := .none) (b4 := .bool false) ho hl fun h' k hx ht => fin h' k ⟨_, hx⟩
/-- super().__init__(txt), self (slot 0) an exception that is being made -/
theorem super_line {X : Cx} {body : List Stmt} {pins : List (Addr × Obj)} {σ : St} {H : Hp} {s : Shared} {a L : Addr} {p0 p1 p2 p3 p4 p5 : Pos} {j : Nat} {txt : Str} {ar : Arg} {pl : Sem Bool}
    (T : ExK X.prog X.K X.mg C fI cc cda x qual st) (I : Inv X pins σ H s) (henv : X.env = PySem.W.envX qual (defScope st) L fI (.ref cda) [("__class__", cc)]) (hN : X.N[0]? = some ("self" : Str)) (h0 : σ[0]? = some (some (.ref a))) (e : H a = some (exo a C none))
    (har : ((defArgs st).posonlyargs ++ (defArgs st).args).head? = some ar) (har2 : ar.arg = ("self" : Str)) (kself : (defScope st).names.lookup ("self" : Str) = some .local) (ksup : (defScope st).names.lookup ("super" : Str) = some .globalImplicit)
    (kcls : (defScope st).names.lookup ("__class__" : Str) = some .free) (kfun : (defScope st).kind = .function)
    (hev : eval (.Call (.Attribute (.Call (.Name "super" p0) [] [] p1) "__init__" p2) [.Constant (.str txt) j p3] [] p4) (PySem.W.envX qual (defScope st) L fI (.ref cda) [("__class__", cc)]) = (do
      let ov ← attributeBase (.Call (.Name "super" p0) [] [] p1) "__init__" (PySem.W.envX qual (defScope st) L fI (.ref cda) [("__class__", cc)]) (eval (.Call (.Name "super" p0) [] [] p1) (PySem.W.envX qual (defScope st) L fI (.ref cda) [("__class__", cc)]))
      standAt p2.atName
      let (f, first) ← holding [ov] (getMethod ov "__init__" pl)
      callWith p4 f first (backTo p4 (starEach [.Constant (.str txt) j p3] (PySem.W.envX qual (defScope st) L fI (.ref cda) [("__class__", cc)]))) [])) :
    PySem.wpAt (model X.prog X.w) X.A (.func body X.env) (exec (.Expr (.Call (.Attribute (.Call (.Name "super" p0) [] [] p1) "__init__" p2) [.Constant (.str txt) j p3] [] p4) p5) X.env) (fun fl s' => fl = .next ∧ Inv X pins σ H s') X.xe s := by
  have KI := I.kIn
  obtain ⟨oc, od, kV, doc, pm, an, ct, osl, hfn⟩ := T.fn
  obtain ⟨cl, cd, vs, cs, file, tf, hcode, hvs, hfile⟩ := T.file
  obtain ⟨cl2, cd2, cs2, hcell⟩ := T.cell
  obtain ⟨nm, q, N, bs, bm, sn, sub, ab, col, dd, k0, k1, k2, k3, k5, hC, hbm⟩ := T.oex.cls
  obtain ⟨t1, ho⟩ := exo_at I.hok e
  -- the name self
  obtain ⟨m, hns, hl⟩ := id I.loc
  have hself : m ("self" : Str) = some (.ref a) := by
    obtain ⟨u, ru, lk⟩ := hl 0 "self" (.ref a) hN h0 (.inl (by rw [henv]; exact kself))
    obtain rfl : u = Value.ref a := ru
    rcases lk with ⟨_, z⟩ | ⟨z, _⟩
    · exact z
    · have z' : (defScope st).names.lookup ("self" : Str) = some .cell ∨ (defScope st).names.lookup ("self" : Str) = some .free := by
        rw [henv] at z
        exact z
      rw [kself] at z'
      rcases z' with z' | z' <;> cases z'
  obtain ⟨mb, hmb, hbb⟩ := I.ok.mod.blt
  have mgs : X.mg ("super" : Str) = none := PySem.W.mg_none_of I.ok.mod.kin I.ok.mod.glob T.sup
  have glob := I.ok.mod.glob.keeps I.bk
  have bltn := hmb.keeps I.bk
  rw [henv] at hns ⊢
  have hi : interactive (PySem.W.envX qual (defScope st) L fI (.ref cda) [("__class__", cc)]) = false := by
    unfold interactive
    rw [show (PySem.W.envX qual (defScope st) L fI (.ref cda) [("__class__", cc)]).scope.kind = .function from kfun] <;> rfl
  refine ks_wpAt_Expr_any (ks_wpAt_MethodCall (pl := pl) ?_ hev) hi rfl
  refine ks_wpAt_super_base ksup kcls (by decide) rfl (KI _ _ hfn) rfl har rfl (KI _ _ hcode) rfl hvs hfile T.top ?_
  obtain ⟨hp, g, d, t, os⟩ := s
  refine PySem.W.ks_loadName_global kfun ksup (Calls.loadGlobal_builtin (mg := X.mg) (mb := mb) glob mgs bltn ((hbb _ (by decide +kernel)).trans (by first | rfl | kernel_rfl)) ⟨rfl, ?_⟩)
  refine wpAny_loadName_free (c := cc) (v := .ref C) kfun kcls rfl ⟨_, KI _ _ hcell, rfl⟩ ?_
  refine wpAny_loadName_local (v := .ref a) kfun (by rw [har2]; exact kself) hns (by rw [har2]; exact hself) ?_
  refine ks_wpAny_isType_cls (KI _ _ hC) rfl ⟨rfl, ?_⟩
  refine ks_wpAny_call_super (KI _ _ hC) rfl ho rfl (fun c z => by cases z) (PySem.W.looks_mroIn KI T.self) (fun h1 e1 k1 => ?_)
  have KI1 : X.K.In h1 := KI.keeps k1
  have hcl : PySem.W.clsIn X.K C = some { name := nm, bases := bs, mro := .ref C :: bm, ns := N, qualname := q, hasDict := true, slotNames := sn, subclasses := sub, abstract := ab, collection := col, hasDel := false } := by
    unfold PySem.W.clsIn
    rw [hC] <;> rfl
  have hal := T.along
  unfold PySem.W.ks_superIn at hal
  rw [hcl] at hal
  have haC : a ≠ C := fun z => by
    have y := KI _ _ hC
    rw [← z, ho] at y
    have y2 := congrArg Obj.data (Option.some.inj y)
    cases y2
  have hI : PySem.W.Looks (model X.prog X.w) h1 (isInstance (.ref a) (.type "ValueError")) true :=
    (PySem.W.InstAt.type (C := C) (od := none) ⟨k1 _ _ ho, rfl, rfl, trivial⟩).andThen (PySem.W.looks_subIn KI1 T.sub)
  refine PySem.W.kxs_getMethod PySem.W.kxs_ValueError e1 (PySem.W.looks_opaque KI1 T.sta) (l₀ := .ref C :: bm) (fun A Q E s k q => wpAny_bind ((PySem.W.looks_clsIn KI1 hcl) A _ E s k (wpAny_pure q))) rfl KI1 hal hI haC (by decide) ?_
  have kk : ∀ (b : Addr) (o : Obj), hp.get? b = some o → (h1.push (PySem.W.kxs_mw "ValueError.__init__" a)).get? b = some o := fun b o y => Heap.get?_push_of_some _ (k1 b o y)
  have sz : hp.objs.size ≤ h1.objs.size := Nat.le_of_lt (Heap.lt_size e1)
  have I2 : Inv X pins σ H ⟨h1.push (PySem.W.kxs_mw "ValueError.__init__" a), g, d, t + 1, os⟩ := I.kept (t' := t + 1) kk
  have nf : H h1.objs.size = none := I.hok.fresh sz
  have pinned : ∀ p ∈ (h1.objs.size, PySem.W.kxs_mw "ValueError.__init__" a) :: pins, (h1.push (PySem.W.kxs_mw "ValueError.__init__" a)).get? p.1 = some p.2 ∧ H p.1 = none ∧ p.1 ≠ X.env.locals ∧ p.1 ∉ X.fs ∧ ∀ v, p.2.data ≠ .cell v := fun p z => by
    rcases List.mem_cons.mp z with rfl | z
    · refine ⟨Heap.get?_push_size _ rfl, nf, fun y => ?_, I.nofs sz, fun v y => by cases y⟩
      have lt := I.lt
      rw [← y] at lt
      exact absurd (Nat.lt_of_lt_of_le lt sz) (Nat.lt_irrefl _)
    · exact I2.pin p (List.mem_append_right _ z)
  have I3 : Inv X ((h1.objs.size, PySem.W.kxs_mw "ValueError.__init__" a) :: pins) σ H ⟨h1.push (PySem.W.kxs_mw "ValueError.__init__" a), g, d, t + 1, os⟩ := I2.pins_of fun p hp' => pinned p hp'
  show wpAny _ _ (callWith p4 (Value.ref h1.objs.size) [] (backTo p4 ((false, eval (.Constant (.str txt) j p3) _) :: [])) []) _ _ _
  refine PySem.W.kxs_callWith (i := "ValueError.__init__") (x := a) rfl (Calls.evalArgs_plain ?_)
  have hc := (pa_cons (X := X) (pe_str (x := txt) (j := j) (pos := p3)) pa_nil).run p4 _ _ σ H (fun vs H' => vs = [.str txt] ∧ H' = H) I3 ⟨rfl, rfl⟩
  rw [henv] at hc
  refine thn hc fun us s2 ⟨vs2, H2, I4, r4, ev, eH⟩ => ?_
  subst ev eH
  refine ⟨(I4.pin _ (List.mem_append_right _ List.mem_cons_self)).1, ?_⟩
  refine mw_call T.oex I4 e (I4.pin _ (List.mem_append_right _ List.mem_cons_self)).1 ?_ fun s3 I5 => ⟨rfl, I5.pins_of fun p hp' => I5.pin p (List.mem_append_right _ (List.mem_cons_of_mem _ hp'))⟩
  show us.length ≤ sizeLine
  rw [← Paired.length r4]
  show 1 ≤ sizeLine
  decide
/-- the words of such an __init__ -/
abbrev nfOf (qual : Str) (st : Stmt) (cc cda : Addr) : NF := ⟨"__init__", qual, defArgs st, defBody st, defScope st, [("__class__", cc)], cda⟩
theorem ok_exinit {CX : CXT} {k : Nat} {N ps : List Str} {sp : Sp} {rest : List Stmt} {p0 p1 p2 p3 p4 p5 : Pos} {j : Nat} {txt : Str} {ar : Arg} {pl : Cx → Sem Bool} {oc : Value} {od : Option Addr} {kV doc pm : Value} {an : Option Addr} {ct : Value} {osl : Array (Option Value)}
    (T : ExK P K mg C fI cc cda x qual st) (lk : K.lookup fI = some ⟨oc, od, .func (PySem.W.fnX "__init__" qual (defArgs st) (defBody st) (defScope st) [("__class__", cc)] .none kV doc pm an (.ref cda) ct), osl⟩)
    (S : NScope N ps ["__class__"] (defScope st)) (hb : defBody st = .Expr (.Call (.Attribute (.Call (.Name "super" p0) [] [] p1) "__init__" p2) [.Constant (.str txt) j p3] [] p4) p5 :: rest)
    (har : ((defArgs st).posonlyargs ++ (defArgs st).args).head? = some ar) (har2 : ar.arg = ("self" : Str)) (hN : N[0]? = some ("self" : Str)) (kself : (defScope st).names.lookup ("self" : Str) = some .local) (ksup : (defScope st).names.lookup ("super" : Str) = some .globalImplicit)
    (hev : ∀ X : Cx, eval (.Call (.Attribute (.Call (.Name "super" p0) [] [] p1) "__init__" p2) [.Constant (.str txt) j p3] [] p4) X.env = (do
      let ov ← attributeBase (.Call (.Name "super" p0) [] [] p1) "__init__" X.env (eval (.Call (.Name "super" p0) [] [] p1) X.env)
      standAt p2.atName
      let (f, first) ← holding [ov] (getMethod ov "__init__" (pl X))
      callWith p4 f first (backTo p4 (starEach [.Constant (.str txt) j p3] X.env)) []))
    (len : ∀ vs H Q E, sp vs H Q E → vs.length = ps.length)
    (hbody : ∀ (A : Around) (outer : List Env) (s : Shared) (H : Hp) (vs : List V) (Q : VK) (E : XK), sp vs H Q E → ∃ (a : Addr) (vr : List V) (t : TS), vs = .ref a :: vr ∧ H a = some (exo a C none) ∧
      PSs (ncx CX P w K mg base N (nfOf qual st cc cda) fI A outer s H E) rest t ∧ t { nx := fun _ H' => Q .non H', rt := Q } (startF N vs [some (.ref C)]) H) :
    FnOk P w K mg base CX (k + 1) fI (PySem.W.fnX "__init__" qual (defArgs st) (defBody st) (defScope st) [("__class__", cc)] .none kV doc pm an (.ref cda) ct) ps sp := by
  refine ⟨len, fun A outer s H args us vs Q E hr e0 hbd r hsp => ?_⟩
  have hl := len _ _ _ _ hsp
  have KI : K.In s.heap := e0.mod.kin.keeps fun b o e => (e0.bs b o e).1
  have lim : s.heap.NoLimit := e0.mod.nolimit.keeps fun b o e => (e0.bs b o e).1
  obtain ⟨cl2, cd2, cs2, hcell⟩ := T.cell
  have hcc := e0.bs cc _ (e0.mod.kin _ _ hcell)
  have C0 : CellsAt [(("__class__" : Str), cc)] ["__class__"] [some (V.ref C)] s.heap H := by
    refine ⟨rfl, fun y c e => ?_, fun y z c e1 e2 => ?_, fun i y e => ?_⟩
    · have h1 : y = ("__class__" : Str) ∧ c = cc := by
        by_cases hy : y = ("__class__" : Str)
        · subst hy
          have e' : some cc = some c := e
          exact ⟨rfl, (Option.some.inj e').symm⟩
        · have q : (y == ("__class__" : Str)) = false := by simpa using hy
          have e' : List.lookup y [(("__class__" : Str), cc)] = some c := e
          simp [List.lookup, q] at e'
      rw [h1.2]
      exact ⟨hcc.2, _, _, hcc.1, rfl⟩
    · have key : ∀ y : Str, List.lookup y [(("__class__" : Str), cc)] = some c → y = ("__class__" : Str) := fun y e => by
        by_cases hy : y = ("__class__" : Str)
        · exact hy
        · have q : (y == ("__class__" : Str)) = false := by simpa using hy
          simp [List.lookup, q] at e
      rw [key y e1, key z e2]
    · cases i with
      | zero =>
        have e' : some ("__class__" : Str) = some y := e
        cases e'
        exact ⟨cc, rfl, fun v ev => by
          have ev' : some (some (V.ref C)) = some (some v) := ev
          cases ev'
          exact ⟨.ref C, rfl, _, hcc.1, rfl⟩⟩
      | succ n => simp at e
  obtain ⟨a, vr, t, rfl, ea, ht, hq⟩ := hbody A outer s H vs Q E hsp
  refine ks_codeAny_call_defAt (fd := PySem.W.fnX "__init__" qual (defArgs st) (defBody st) (defScope st) [("__class__", cc)] .none kV doc pm an (.ref cda) ct) (body := defBody st) (binds := ps.zip us) hr.depth (KI _ _ lk) rfl lim (PySem.W.codeRec_of KI T.code) rfl hbd S.nocell
    (fun ⟨n, _⟩ hy => S.par n (List.of_mem_zip hy).1) (fun h₁ hns kp => ?_) S.co S.gen S.kind
  have I : Inv (ncx CX P w K mg base N (nfOf qual st cc cda) fI A outer s H E) [] (startF N (.ref a :: vr) [some (.ref C)]) H { s with heap := h₁, toks := s.toks + (ps.zip us).length } := inv_startN (F := nfOf qual st cc cda) S hr.hd e0 hl r C0 hns kp
  have fin : ∀ {σ' : St} {H' : Hp} {v : V} {u : Value} {s' : Shared}, Inv (ncx CX P w K mg base N (nfOf qual st cc cda) fI A outer s H E) [] σ' H' s' → RelV v u → Q v H' → CE outer P w H s Q u s' :=
    fun {σ' H' v u s'} J rv q => ⟨v, H', J.os, J.bare, J.base, J.hok, rv, q⟩
  have T' : ExK (ncx CX P w K mg base N (nfOf qual st cc cda) fI A outer s H E).prog (ncx CX P w K mg base N (nfOf qual st cc cda) fI A outer s H E).K (ncx CX P w K mg base N (nfOf qual st cc cda) fI A outer s H E).mg C fI cc cda x qual st := T
  have line := super_line (body := defBody st) (L := s.heap.objs.size) (j := j) (txt := txt) (p0 := p0) (p1 := p1) (p2 := p2) (p3 := p3) (p4 := p4) (p5 := p5) T' I rfl hN rfl ea har har2 kself ksup (S.frk _ List.mem_cons_self) S.kind (hev (ncx CX P w K mg base N (nfOf qual st cc cda) fI A outer s H E))
  show PySem.wpAt _ _ (.func (defBody st) (ncx CX P w K mg base N (nfOf qual st cc cda) fI A outer s H E).env) (execs (defBody st) _) _ _ _
  rw [show execs (defBody st) (callEnv (PySem.W.fnX "__init__" qual (defArgs st) (defBody st) (defScope st) [("__class__", cc)] .none kV doc pm an (.ref cda) ct) s.heap.objs.size fI) = execs (.Expr (.Call (.Attribute (.Call (.Name "super" p0) [] [] p1) "__init__" p2) [.Constant (.str txt) j p3] [] p4) p5 :: rest) (ncx CX P w K mg base N (nfOf qual st cc cda) fI A outer s H E).env from by rw [← hb]; rfl]
  refine ks_wpAt_execs_cons (ks_wpAt_mono line (fun fl s1 z => ?_) fun e s' hs => hs)
  obtain ⟨rfl, I1⟩ := z
  refine wpAt_of_wpAny (wpAny_mono (ht.run [] s1 _ H _ I1 hq) (fun fl s' hs => ?_) fun e s' hs => hs)
  cases fl with
  | ret u =>
    obtain ⟨v, σ', H', J, rv, q⟩ := hs
    exact fin J rv q
  | next =>
    obtain ⟨σ', H', J, q⟩ := hs
    exact fin (v := V.non) (u := Value.none) J rfl q
  | brk =>
    obtain ⟨_, _, _, q⟩ := hs
    exact False.elim q
  | cont =>
    obtain ⟨_, _, _, q⟩ := hs
    exact False.elim q
end
end KX
end L2
set_option Elab.async false
set_option linter.all false
set_option maxRecDepth 100000
set_option maxHeartbeats 4000000
/-! k92: try: body / except X as e: y = e, the exception kept as a value behind the try; its class asked, its fields read -/
namespace L2
namespace KT
open PySem PySem.Spec PyProof.Rows
/-- the exception object at a: its class, its dict -/
def ExcV (cls : Value) (d : Option Addr) (a : Addr) : HO := .ext fun h => ∃ (oe : Obj) (vs : Array Value), h.get? a = some oe ∧ Zc cls d oe ∧ oe.data = .fields vs
theorem excV_ok {P : Program} {w : World} {H : Hp} {h : Heap} {a : Addr} {cls : Value} {d : Option Addr} {oe : Obj} {vs : Array Value} (e : h.get? a = some oe) (z : Zc cls d oe) (v : oe.data = .fields vs) : ObjOk P w H h a (ExcV cls d a) :=
  ⟨⟨oe, vs, e, z, v⟩, ⟨oe, e⟩, fun _ _ ⟨oe, vs, e1, z, v⟩ st => ⟨oe, vs, st _ e1, z, v⟩⟩
theorem excV_at {P : Program} {w : World} {H : Hp} {h : Heap} {a : Addr} {cls : Value} {d : Option Addr} (hok : HOk P w H h) (e : H a = some (ExcV cls d a)) : ∃ (oe : Obj) (vs : Array Value), h.get? a = some oe ∧ Zc cls d oe ∧ oe.data = .fields vs := by
  obtain ⟨x, _, _⟩ := (show ObjOk P w H h a (ExcV cls d a) from hok a _ e)
  exact x
theorem excV_tbl {cls : Value} {d : Option Addr} {a : Addr} (ps : Array Value) : ExcV cls d a ≠ .tbl ps := fun z => by
  unfold ExcV at z
  cases z
section
variable {X : Cx} {pins : List (Addr × Obj)} {σ : St} {H : Hp} {s : Shared}
/-- an object that is younger than the entry, not tracked so far, is tracked from now on -/
theorem track {a : Addr} {oe : Obj} {vs : Array Value} {cls : Value} {d : Option Addr} (I : Inv X pins σ H s) (ha : s.heap.get? a = some oe) (hz : Zc cls d oe) (hv : oe.data = .fields vs) (na : H a = none) (young : X.s_0.heap.get? a = none)
    (nL : a ≠ X.env.locals) (nP : ∀ p ∈ X.pn ++ pins, p.1 ≠ a) : Inv X pins σ (upd H a (ExcV cls d a)) s where
  ok := I.ok
  os := I.os
  bare := I.bare
  base := {
    keep := fun b o q n hb hx => I.base.keep b o q n hb hx
    slot := fun b o q n hb hx => I.base.slot b o q n hb hx
    free := fun b o q n hx => by
      have nb : b ≠ a := fun z => by
        rw [z, young] at q
        cases q
      rw [upd_ne nb]
      exact I.base.free b o q n hx
    there := fun b o q hx => I.base.there b o q hx
    tups := fun b xs q => by
      have q1 := I.base.tups b xs q
      rw [upd_ne (ne_of_none q1 na)]
      exact q1
    frzs := fun b o u q => by
      have q1 := I.base.frzs b o u q
      rw [upd_ne (ne_of_none q1 na)]
      exact q1
    tbls := fun b ps q => by
      obtain ⟨m, q1⟩ := I.base.tbls b ps q
      exact ⟨m, by rw [upd_ne (ne_of_none q1 na)]; exact q1⟩ }
  loc := I.loc
  cell := I.cell
  free := by
    rw [upd_ne (Ne.symm nL)]
    exact I.free
  freeC := fun x c e => by
    obtain ⟨v, o, ho, hd⟩ := I.cell x c e
    have nc : c ≠ a := fun z => by
      rw [z, ha] at ho
      cases ho
      rw [hv] at hd
      cases hd
    rw [upd_ne nc]
    exact I.freeC x c e
  pin := fun p hp => by
    obtain ⟨e, n, r⟩ := I.pin p hp
    exact ⟨e, by rw [upd_ne (nP p hp)]; exact n, r⟩
  hok := fun b o q => by
    by_cases hb : b = a
    · subst hb
      rw [upd_same] at q
      cases q
      exact excV_ok ha hz hv
    · rw [upd_ne hb] at q
      exact (I.hok b o q).stay (fun _ _ _ z => z) (fun c z => by rw [upd_ne (ne_of_none z na)]; exact z) fun c xs z => by rw [upd_ne (ne_of_none z na)]; exact z
  len := I.len
/-- into an except suite whose exception is tracked -/
theorem toSuite {a : Addr} (I : Inv X pins σ H s) : Inv (X.suite a (X.pn ++ pins)) [] σ H s :=
  ⟨I.ok.suite a _, I.os, I.bare, I.base, I.loc, I.cell, I.free, I.freeC, fun p hp => I.pin p (by simpa using hp), I.hok, I.len⟩
theorem ofSuite {a : Addr} (I : Inv (X.suite a (X.pn ++ pins)) [] σ H s) (ok : X.Ok) : Inv X pins σ H s :=
  ⟨ok, I.os, I.bare, I.base, I.loc, I.cell, I.free, I.freeC, fun p hp => I.pin p (by simpa using hp), I.hok, I.len⟩
end
/-- what is wished of an exception of the body: it is the clause's; the name at j holds it behind the try, that at i nothing -/
def wKeep (K : PySem.W.Frag) (c : Value) (i j : Nat) (D : Ends) : WX := fun cls d σ H =>
  PySem.W.exmOne K cls c = some true ∧ ∀ a, H a = none → D.nx ((((σ.set i (some (.ref a))).set j (some (.ref a)))).set i none) (upd H a (ExcV cls d a))
section
variable {X : Cx} {x n y : Str} {c : Value} {i j : Nat} {body : List Stmt} {np pn1 py pa pos pos' : Pos} {tb : WX → TS}
theorem ps_try_keep (hs : X.stack = X.env :: X.outer) (hf : X.env.frame = some X.env.locals) (hN : X.N.Nodup) (hi : X.N[i]? = some n) (hj : X.N[j]? = some y) (hln : X.env.kindOf n = some .local) (hly : Loc X.env.scope y) (hfy : X.fn y = true ∨ X.env.scope.names.lookup y = some .local) (hc : Names X x c) (hex : X.ex = [])
    (hb : ∀ (W : WX) (pn : List (Addr × Obj)) (xe : Value → Shared → Prop), Takes (X.tr pn xe) W → PassesOwn (model X.prog X.w) X.A X.env xe → PSs (X.tr pn xe) body (tb W))
    (hnd : (n == ("__debug__" : Str)) = false := by decide) (hncd : (n == ("__classdict__" : Str)) = false := by decide) :
    PS X (.Try body [.ExceptHandler (some (.Name x np)) (some n) [.Assign [.Name y py] (.Name n pn1) pa] pos'] [] [] pos) (fun D σ H => tb (wKeep X.K c i j D) D σ H) := by
  refine ⟨fun pins s σ H D I h => ?_⟩
  have ok := I.ok
  have hfr : X.A.frames = some (X.env :: X.outer) := by rw [ok.frames, hs]
  refine wpAny_Try_except ?_
  refine wpAny_mono ((hb (wKeep X.K c i j D) (X.pn ++ pins) (fun e s₁ => wpAny (model X.prog X.w) X.A (noteFrame e X.env) (fun _ s₂ => wpAny (model X.prog X.w) X.A (setFlight e none) (fun _ s₃ =>
    wpAny (model X.prog X.w) X.A (handleBy e X.env [.ExceptHandler (some (.Name x np)) (some n) [.Assign [.Name y py] (.Name n pn1) pa] pos']) (SP X pins D) X.xe s₃) X.xe s₂) X.xe s₁) (fun u s' xx => ?_) PassesOwn.looking).run [] s σ H D (I.toTry _) h) (fun f s1 hsp => ?_) (fun e s1 he => he)
  · obtain ⟨a, B, sI, pins', σ', H', cls, d, rfl, J', nb, up, sky, na, os, ag, hb1, hyes⟩ := xx
    have J : Inv X pins σ' H' sI := J'.ofTry ok
    have sky' : Sky B (X.env :: X.outer) a (Zc cls d) X.env.locals s'.heap := by rw [← hs]; exact sky
    show wpAny (model X.prog X.w) X.A (noteFrame (.ref a) X.env) _ _ _
    refine Sky.land Zc.steady hfr hf sky' fun h3 fl3 up3 => ?_
    have J3 : Inv X pins σ' H' { s' with heap := h3 } := J.landed nb fl3.1 (up.trans up3) os ag
    obtain ⟨oe3, vs3, he3, hz3, hd3⟩ := fl3.there
    have nfr : a ∉ frs (X.env :: X.outer) := fun hm => by
      obtain ⟨_, o', e', hnf⟩ := fl3.2.2.1.mem hm
      rw [he3] at e'; cases e'
      exact hnf _ hd3
    have nL : a ≠ X.env.locals := fun z => nfr (List.mem_filterMap.mpr ⟨X.env, List.mem_cons_self, by rw [hf, z]⟩)
    have nF : a ∉ X.fs := fun hm => by
      obtain ⟨e, he, q⟩ := List.mem_filterMap.mp hm
      exact nfr (List.mem_filterMap.mpr ⟨e, List.mem_cons_of_mem _ he, q⟩)
    -- it is younger than what stood when the body raised
    have nI : sI.heap.get? a = none := by
      cases q : sI.heap.get? a with
      | none => rfl
      | some o =>
        have z := nb a o q (by rw [hs]; exact nfr)
        rw [fl3.2.1] at z
        cases z
    have young : X.s_0.heap.get? a = none := by
      cases q : X.s_0.heap.get? a with
      | none => rfl
      | some o =>
        obtain ⟨o', z⟩ := J.base.there a o q (by rw [hex]; simp)
        rw [nI] at z
        cases z
    have nP : ∀ p ∈ X.pn ++ pins, p.1 ≠ a := fun p hp z => by
      have q := (J.pin p hp).1
      rw [z, nI] at q
      cases q
    have S3 := J3.suite he3 hd3 na nL nF
    refine wpAny_handleBy_cons (codeAny_handlers_test ?_) (by intro q; cases q)
    have LT : PySem.W.Looks (model X.prog X.w) h3 (typeOf (.ref a)) cls := fun A Q E s k q => wpAny_typeOf_ref (k _ _ he3) (by rw [hz3.1]; exact q)
    have LM := PySem.W.exm_one (M := model X.prog X.w) (J3.kIn) LT hb1
    have test : ∀ {Q : Value → Shared → Prop} {E : Value → Shared → Prop}, Q c { s' with heap := h3 } → wpAny (model X.prog X.w) (X.A.mark (some (.ref a))) (eval (.Name x np) X.env) Q E { s' with heap := h3 } := fun {Q E} q => by
      obtain ⟨hg, hdbg, hm | ⟨hm, hv, hnn⟩⟩ := hc
      · exact ld_glob (X := X.suite a ((a, oe3) :: (X.pn ++ pins))) S3 hg hm q hdbg
      · exact ld_blt (X := X.suite a ((a, oe3) :: (X.pn ++ pins))) S3 hg hm hv q hnn hdbg
    refine test (LM.here ?_)
    refine codeAny_handlers_suite_as ?_
    refine HandSPX.lands_againZ fl3 fun h4 fl4 up4 => ?_
    have J4 : Inv X pins σ' H' { s' with heap := h4 } := J.landed nb fl4.1 ((up.trans up3).trans up4) os ag
    obtain ⟨oe4, vs4, he4, hz4, hd4⟩ := fl4.there
    have T4 : Inv (X.suite a (X.pn ++ pins)) [] σ' (upd H' a (ExcV cls d a)) { s' with heap := h4 } := toSuite (track J4 he4 hz4 hd4 na young nL nP)
    refine store_ok (X := X.suite a (X.pn ++ pins)) (v := .ref a) T4 hN hi (.inl hln) rfl (fun s5 S5 => ?_) (.inr hln)
    have asg : PSs (X.suite a (X.pn ++ pins)) [.Assign [.Name y py] (.Name n pn1) pa] (tAsg (tVar i) (gName j)) := pss_one (ps_set (X := X.suite a (X.pn ++ pins)) (i := j) hN hj hly (pe_var (X := X.suite a (X.pn ++ pins)) (i := i) hi (.inl hln) hnd hncd) rfl hfy)
    have hlt : i < σ'.length := by
      rw [J4.len]
      exact (List.getElem?_eq_some_iff.mp hi).1
    refine wpAny_mono (asg.run [] s5 _ _ { nx := fun σ6 H6 => σ6 = (σ'.set i (some (.ref a))).set j (some (.ref a)) ∧ H6 = upd H' a (ExcV cls d a), rt := fun _ _ => False } S5 ⟨.ref a, by rw [List.getElem?_set_self hlt], rfl, rfl⟩) (fun f s6 hsp => ?_) (fun _ _ z => False.elim z)
    cases f with
    | next =>
      obtain ⟨σ6, H6, S6, q6⟩ := hsp
      obtain ⟨rfl, rfl⟩ := q6
      exact gone_ok (ofSuite S6 ok) hN hi hln fun s7 J7 => ⟨_, _, J7, hyes a na⟩
    | brk =>
      obtain ⟨_, _, _, q6⟩ := hsp
      exact q6.elim
    | cont =>
      obtain ⟨_, _, _, q6⟩ := hsp
      exact q6.elim
    | ret u =>
      obtain ⟨_, _, _, _, _, q6⟩ := hsp
      exact q6.elim
  · cases f with
    | next =>
      obtain ⟨σ', H', J', q⟩ := hsp
      exact wpAny_execs_nil ⟨σ', H', J'.ofTry ok, q⟩
    | brk =>
      obtain ⟨σ', H', J', q⟩ := hsp
      exact ⟨σ', H', J'.ofTry ok, q⟩
    | cont =>
      obtain ⟨σ', H', J', q⟩ := hsp
      exact ⟨σ', H', J'.ofTry ok, q⟩
    | ret u =>
      obtain ⟨v, σ', H', J', r, q⟩ := hsp
      exact ⟨v, σ', H', J'.ofTry ok, r, q⟩
end
/-! ### the kept exception is asked -/
/-- isinstance(x, C): x a kept exception of the class at D -/
def rIsX (K : PySem.W.Frag) : List V → Hp → VK → Prop := fun xs H Q => ∃ (a D C : Addr) (dx : Addr) (fs : List (Str × V)) (b : Bool), xs = [.ref a, .ref C] ∧ H a = some (ExcV (.ref D) (some dx) a) ∧ H dx = some (.xd fs) ∧ ExcC K D ∧ PySem.W.kitOne K (.ref D) (.ref C) = some b ∧ Q (.bl b) H
/-- e.f, e a kept exception -/
def tExf (K : PySem.W.Frag) (f : Str) (te : TE) : TE := fun σ H Q => te σ H fun x H1 => ∃ (a C dx : Addr) (fs : List (Str × V)) (v : V), x = .ref a ∧ H1 a = some (ExcV (.ref C) (some dx) a) ∧ H1 dx = some (.xd fs) ∧ XfC K C ∧ PySem.W.findIn K (.ref C) f = some none ∧ fs.lookup f = some v ∧ Q v H1
section
variable {X : Cx}
theorem inst_of {pins : List (Addr × Obj)} {σ : St} {H : Hp} {s : Shared} {a D dx : Addr} {fs : List (Str × V)} (I : Inv X pins σ H s) (e : H a = some (ExcV (.ref D) (some dx) a)) (ed : H dx = some (.xd fs)) :
    ∃ (oe od : Obj) (mA : Str → Option Value), PySem.W.InstAt s.heap a oe D (some od) ∧ s.heap.get? dx = some od ∧ (∀ f : Str, PySem.W.lookIn f od = some (mA f)) ∧ ∀ f, RelO (fs.lookup f) (mA f) := by
  obtain ⟨oe, vs, e1, hz, hv⟩ := excV_at I.hok e
  obtain ⟨mA, hns, hr⟩ := (show ObjOk X.prog X.w H s.heap dx (.xd fs) from I.hok dx _ ed)
  obtain ⟨od, ho, hl⟩ := lookIn_ns hns
  exact ⟨oe, od, mA, ⟨e1, hz.1, by unfold PySem.W.notCls; rw [hv] <;> rfl, by rw [hz.2]; exact ho⟩, ho, hl, hr⟩
theorem call_isX : CallR X (.builtin "isinstance") (rIsX X.K) := by
  intro pins s σ H xs us Q I r h
  obtain ⟨a, D, C, dx, fs, b, rfl, e, ed, T, k, q⟩ := h
  obtain ⟨u1, u2, rfl, r1, r2⟩ := vals2 r
  cases (show u1 = Value.ref a from r1)
  cases (show u2 = Value.ref C from r2)
  obtain ⟨oe, od, mA, J, ho, hl, hr⟩ := inst_of I e ed
  have hc : (PySem.W.clsIn X.K D).isSome = true := by
    obtain ⟨cd, z, _⟩ := PySem.W.any_some T.hd
    rw [z] <;> rfl
  exact PySem.W.kia_one (PySem.W.kitx_exc hc T.hg T.hk T.hs T.ha T.hn T.ht T.hm) I.kIn J k (fun z => nomatch z) fun tk => ⟨.bl b, H, I.tok tk, rfl, q⟩
theorem pe_exf {e : Expr} {te : TE} {pos : Pos} {n : Str} (he : PE X e te) (hb : attributeBase e n X.env (eval e X.env) = eval e X.env := by rfl) : PE X (.Attribute e n pos) (tExf X.K n te) := by
  refine ⟨fun pins s σ H Q I h => ?_⟩
  refine attr_of hb (thn (he.run pins s σ H _ I h) fun u s1 hh => ?_)
  obtain ⟨x, H1, I1, rx, a, C, dx, fs, v, ex, ea, ed, T, hno, l, q⟩ := hh
  subst ex
  obtain rfl : u = Value.ref a := rx
  obtain ⟨oe, od, mA, J, ho, hl, hr⟩ := inst_of I1 ea ed
  obtain ⟨u, hu, ru⟩ := RelO.some_of (v := v) (o := mA n) (by rw [← l]; exact hr n)
  exact HandSPX.exc_get I1.kIn J T.ga T.gg T.exC (PySem.W.findObj_own T.hdC hno rfl (by rw [hl, hu])) (handed_of ru) ⟨v, H1, I1.tok _, ru, q⟩
end
end KT
end L2
set_option Elab.async false
set_option linter.all false
set_option maxRecDepth 100000
set_option maxHeartbeats 4000000
/-! k92: lambdas with one captured cell as values; while a callee holds one, the cell is locked in its abstract heap, and unlocked while the lambda runs -/
namespace L2
namespace KL
open PySem PySem.Spec PyProof.Rows NdefX LamX
/-- the words of a lambda -/
structure LW where
  qual : Str
  params : Arguments
  body : Expr
  scope : Scope
abbrev LW.nf (W : LW) (cl : List (Str × Addr)) (c : Addr) : NF := ⟨"<lambda>", W.qual, W.params, [], W.scope, cl, c⟩
/-- the object at f is the lambda W over the cells cl, its code object at c -/
def LamO (f : Addr) (W : LW) (cl : List (Str × Addr)) (c : Addr) : HO := .ext fun h => ∃ pm ctv : Value, h.get? f = some (PySem.W.kla_obj "<lambda>" W.qual W.params W.body W.scope cl pm c ctv)
theorem lamO_tbl {f : Addr} {W : LW} {cl : List (Str × Addr)} {c : Addr} (ps : Array Value) : LamO f W cl c ≠ .tbl ps := fun z => by
  unfold LamO at z
  cases z
theorem lamO_at {P : Program} {w : World} {H : Hp} {h : Heap} {f : Addr} {W : LW} {cl : List (Str × Addr)} {c : Addr} (hok : HOk P w H h) (e : H f = some (LamO f W cl c)) : ∃ pm ctv : Value, h.get? f = some (PySem.W.kla_obj "<lambda>" W.qual W.params W.body W.scope cl pm c ctv) := by
  obtain ⟨x, _, _⟩ := (show ObjOk P w H h f (LamO f W cl c) from hok f _ e)
  exact x
theorem lamO_ok {P : Program} {w : World} {H : Hp} {h : Heap} {f : Addr} {W : LW} {cl : List (Str × Addr)} {c : Addr} {pm ctv : Value} (e : h.get? f = some (PySem.W.kla_obj "<lambda>" W.qual W.params W.body W.scope cl pm c ctv)) : ObjOk P w H h f (LamO f W cl c) :=
  ⟨⟨pm, ctv, e⟩, ⟨_, e⟩, fun _ _ ⟨pm, ctv, e1⟩ st => ⟨pm, ctv, st _ e1⟩⟩
/-- an object that is not to be touched -/
def Lk (o : Obj) : HO := .frz o (.ext fun _ => True)
theorem lk_ok {P : Program} {w : World} {H : Hp} {h : Heap} {c : Addr} {o : Obj} (e : h.get? c = some o) : ObjOk P w H h c (Lk o) := ⟨e, True.intro, ⟨o, e⟩, fun _ _ _ _ => True.intro⟩
theorem lk_at {P : Program} {w : World} {H : Hp} {h : Heap} {c : Addr} {o : Obj} (hok : HOk P w H h) (e : H c = some (Lk o)) : h.get? c = some o := (show ObjOk P w H h c (Lk o) from hok c _ e).1
theorem lk_own {o : Obj} {a : Addr} : Lk o ≠ .own a := fun z => by cases z
theorem lk_tup {o : Obj} {xs : List V} : Lk o ≠ .tup xs := fun z => by cases z
theorem lk_tbl {o : Obj} (ps : Array Value) : Lk o ≠ .tbl ps := fun z => by cases z
/-- just one cell, that of y, at c -/
structure OneCell (cl : List (Str × Addr)) (y : Str) (c : Addr) : Prop where
  at_ : cl.lookup y = some c
  only : ∀ z d, cl.lookup z = some d → z = y
theorem OneCell.eq {cl : List (Str × Addr)} {y : Str} {c d : Addr} (a : OneCell cl y c) (b : OneCell cl y d) : d = c := by
  have z := a.at_
  rw [b.at_] at z
  exact Option.some.inj z
/-- at f a lambda W whose one cell (of y) is locked and holds x -/
def LamAt (H : Hp) (f : Addr) (W : LW) (y : Str) (x : V) : Prop :=
  ∃ (cl : List (Str × Addr)) (cc c : Addr) (o : Obj) (u : Value), H f = some (LamO f W cl cc) ∧ H cc = some (CodeO cc W.qual) ∧ OneCell cl y c ∧ H c = some (Lk o) ∧ o.data = .cell (some u) ∧ RelV x u
theorem LamAt.ext {H H' : Hp} {f : Addr} {W : LW} {y : Str} {x : V} (l : LamAt H f W y x) (e : ExtN H H') : LamAt H' f W y x := by
  obtain ⟨cl, cc, c, o, u, h1, h2, h3, h4, h5, h6⟩ := l
  exact ⟨cl, cc, c, o, u, e _ _ h1 lamO_tbl, e _ _ h2 codeO_ne, h3, e _ _ h4 lk_tbl, h5, h6⟩
section
variable {X : Cx} {pins : List (Addr × Obj)} {σ : St} {H : Hp} {s : Shared}
/-- the words of a lambda of X's text -/
abbrev lwOf (X : Cx) (params : Arguments) (body : Expr) (scope : Scope) : LW := ⟨X.env.qual ++ "<lambda>", params, body, scope⟩
/-- the making of a lambda: a new function object, known from now on -/
theorem lam_make3 {T : List (Addr × Str)} {c P : Addr} {params : Arguments} {body : Expr} {scope : Scope} {pos : Pos} {E : Value → Shared → Prop} {Q : Value → Shared → Prop} (I : Inv X pins σ H s) (TB : TabB X.base X.mg c P) (hcode : X.env.code = .ref c)
    (hm : (P, X.env.qual ++ "<lambda>") ∈ T) (hu : ∀ p ∈ T, p.1 = P → p.2 = X.env.qual ++ "<lambda>") (hT : Tabs T H) (hdef : defaultsOf params X.env = ([], [])) (hfree : ∀ y ∈ scope.names, y.2 = .free → ∃ c, X.env.cells.lookup y.1 = some c)
    (h : ∀ (f c' : Addr) (H1 : Hp) (s' : Shared), Inv X pins σ H1 s' → H f = none → ExtN H H1 → Tabs T H1 → H1 f = some (LamO f (lwOf X params body scope) (cloFrom X.env.cells scope.names []) c') → H1 c' = some (CodeO c' (X.env.qual ++ "<lambda>")) → Q (.ref f) s') :
    wpAny (model X.prog X.w) X.A (eval (.Lambda params body scope pos) X.env) Q E s := by
  obtain ⟨ps, hP, ht, ha⟩ := hT _ hm
  refine PySem.W.kla_eval hdef ?_
  have bP : s.heap.BuiltinsAt X.mg P := TB.bm.keeps I.bk
  have hP' : s.heap.get? P = some { cls := .none, data := .fields ps } := I.hok P _ hP
  cases hc : codeAmong pos ps.toList with
  | some cv =>
    obtain ⟨c', e, hco⟩ := ha pos cv hc
    subst e
    refine PySem.W.kla_makeFunctionHit (mg := X.mg) (c := c) (P := P) (ps := ps) (closure_ok hfree) I.ok.glob (I.mod.glob.keeps I.bk) hcode (TB.code.keeps I.bk) hP' ht hc bP fun ctv h' tk hx hsz => ?_
    have I1 : Inv X pins σ H { s with heap := h', toks := tk } := I.kept (t' := tk) hx
    have nf : H h'.objs.size = none := I1.hok.fresh (Nat.le_refl _)
    have I2 : Inv X pins σ (upd H h'.objs.size (LamO h'.objs.size (lwOf X params body scope) (cloFrom X.env.cells scope.names []) c')) { s with heap := h'.push (PySem.W.kla_obj "<lambda>" (X.env.qual ++ "<lambda>") params body scope (cloFrom X.env.cells scope.names []) ((X.mg "__name__").getD .none) c' ctv), toks := tk } :=
      I1.laid (t' := tk) (fun b u q => Heap.get?_push_of_some _ q) (Nat.le_refl _) (lamO_ok (W := lwOf X params body scope) (Heap.get?_push_size _ rfl))
    have ex : ∀ b o, H b = some o → upd H h'.objs.size (LamO h'.objs.size (lwOf X params body scope) (cloFrom X.env.cells scope.names []) c') b = some o := fun b o q => by
      rw [upd_ne (ne_of_none q nf)]
      exact q
    exact h h'.objs.size c' _ _ I2 nf (ExtN.of ex) (hT.ext ex) upd_same (ex _ _ hco)
  | none =>
    refine PySem.W.kla_makeFunction (mg := X.mg) (c := c) (P := P) (ps := ps) (closure_ok hfree) I.ok.glob (I.mod.glob.keeps I.bk) hcode (TB.code.keeps I.bk) hP' ht hc TB.gP bP fun c' ctv h' tk hx hge hlt hrec htb => ?_
    obtain ⟨c2, oc, vs, t, e2, hoc, hd, hv⟩ := hrec
    cases e2
    have nC : H c' = none := I.hok.fresh hge
    have I1 : Inv X pins σ (upd (upd H P (.tbl (ps ++ #[rawInt pos.line, rawInt pos.col, .ref c']))) c' (CodeO c' (X.env.qual ++ "<lambda>"))) { s with heap := h', toks := tk } :=
      inv_table (t' := tk) (more := #[rawInt pos.line, rawInt pos.col, .ref c']) (h' := h') I hP hx htb hge ⟨oc, vs, t, hoc, hd, hv⟩
    have hE : ExtN H (upd (upd H P (.tbl (ps ++ #[rawInt pos.line, rawInt pos.col, .ref c']))) c' (CodeO c' (X.env.qual ++ "<lambda>"))) := fun b o e n => by
      rw [upd_ne (ne_of_none e nC), upd_ne (fun z => n ps (Option.some.inj (e.symm.trans (by rw [z]; exact hP))))]
      exact e
    have eL : (ps ++ #[rawInt pos.line, rawInt pos.col, .ref c']).toList = ps.toList ++ [rawInt pos.line, rawInt pos.col, .ref c'] := by simp
    have T1 : Tabs T (upd (upd H P (.tbl (ps ++ #[rawInt pos.line, rawInt pos.col, .ref c']))) c' (CodeO c' (X.env.qual ++ "<lambda>"))) := fun p hp => by
      by_cases hb : p.1 = P
      · rw [hu p hp hb, hb]
        refine ⟨_, by rw [upd_ne (ne_of_none hP nC), upd_same], by rw [eL]; exact PySem.TriplesOk_snoc _ _ _ _ ht, fun p' cv hcv => ?_⟩
        rw [eL] at hcv
        rcases among_app _ ht hcv with z | z
        · obtain ⟨c0, e1, e2⟩ := ha p' cv z
          exact ⟨c0, e1, hE _ _ e2 codeO_ne⟩
        · exact ⟨c', z, upd_same⟩
      · obtain ⟨ps', a1, a2, a3⟩ := hT p hp
        refine ⟨ps', by rw [upd_ne (ne_of_none a1 nC), upd_ne hb]; exact a1, a2, fun p' cv hcv => ?_⟩
        obtain ⟨c0, e1, e2⟩ := a3 p' cv hcv
        exact ⟨c0, e1, hE _ _ e2 codeO_ne⟩
    have nf1 := I1.hok.fresh (a := h'.objs.size) (Nat.le_refl _)
    have nf : H h'.objs.size = none := I.hok.fresh (Nat.le_trans hge (Nat.le_of_lt hlt))
    have I2 := I1.laid (t' := tk) (a := h'.objs.size) (o := LamO h'.objs.size (lwOf X params body scope) (cloFrom X.env.cells scope.names []) c') (h' := h'.push (PySem.W.kla_obj "<lambda>" (X.env.qual ++ "<lambda>") params body scope (cloFrom X.env.cells scope.names []) ((X.mg "__name__").getD .none) c' ctv))
      (fun b u q => Heap.get?_push_of_some _ q) (Nat.le_refl _) (lamO_ok (W := lwOf X params body scope) (Heap.get?_push_size _ rfl))
    have ex : ∀ b o, upd (upd H P (.tbl (ps ++ #[rawInt pos.line, rawInt pos.col, .ref c']))) c' (CodeO c' (X.env.qual ++ "<lambda>")) b = some o →
        upd (upd (upd H P (.tbl (ps ++ #[rawInt pos.line, rawInt pos.col, .ref c']))) c' (CodeO c' (X.env.qual ++ "<lambda>"))) h'.objs.size (LamO h'.objs.size (lwOf X params body scope) (cloFrom X.env.cells scope.names []) c') b = some o := fun b o q => by
      rw [upd_ne (ne_of_none q nf1)]
      exact q
    exact h h'.objs.size c' _ _ I2 nf (hE.trans (ExtN.of ex)) (T1.ext ex) upd_same (ex _ _ upd_same)
end
/-! ### the lambda as an expression -/
def tLamV (T : List (Addr × Str)) (W : LW) (cl : List (Str × Addr)) : TE := fun _ H Q => Tabs T H ∧ ∀ (f c' : Addr) (H1 : Hp), H f = none → ExtN H H1 → Tabs T H1 → H1 f = some (LamO f W cl c') → H1 c' = some (CodeO c' W.qual) → Q (.ref f) H1
theorem pe_lam {X : Cx} {T : List (Addr × Str)} {c P : Addr} {params : Arguments} {body : Expr} {scope : Scope} {pos : Pos} (TB : TabB X.base X.mg c P) (hcode : X.env.code = .ref c) (hm : (P, X.env.qual ++ "<lambda>") ∈ T) (hu : ∀ p ∈ T, p.1 = P → p.2 = X.env.qual ++ "<lambda>")
    (hfree : ∀ y ∈ scope.names, y.2 = .free → X.env.scope.names.lookup y.1 = some .cell ∨ X.env.scope.names.lookup y.1 = some .free) (hdef : defaultsOf params X.env = ([], []) := by rfl) :
    PE X (.Lambda params body scope pos) (tLamV T (lwOf X params body scope) (cloFrom X.env.cells scope.names [])) := by
  refine ⟨fun pins s σ H Q I h => ?_⟩
  obtain ⟨hT, hq⟩ := h
  have hf : ∀ y ∈ scope.names, y.2 = .free → ∃ c, X.env.cells.lookup y.1 = some c := fun y hy e => (hfree y hy e).elim (fun z => I.ok.has _ (.inl z)) fun z => I.ok.has _ (.inr z)
  exact lam_make3 I TB hcode hm hu hT hdef hf fun f c' H1 s' I1 nf e1 t1 hf hc => ⟨.ref f, H1, I1, rfl, hq f c' H1 nf e1 t1 hf hc⟩
/-- its one cell -/
theorem oneCell_of {X : Cx} (ok : X.Ok) {scope : Scope} {y : Str} (hy : X.env.scope.names.lookup y = some .cell) (hin : (y, NameKind.free) ∈ scope.names) (honly : ∀ z ∈ scope.names, z.2 = .free → z.1 = y) : ∃ c, X.env.cells.lookup y = some c ∧ OneCell (cloFrom X.env.cells scope.names []) y c := by
  obtain ⟨c, hc⟩ := ok.has y (.inl hy)
  have hf : ∀ z ∈ scope.names, z.2 = .free → ∃ c, X.env.cells.lookup z.1 = some c := fun z hz e => by
    rw [honly z hz e]
    exact ⟨c, hc⟩
  refine ⟨c, hc, clo_has hf hin hc, fun z d e => ?_⟩
  rcases cloFrom_mem (PySem.mem_of_lookup e) with hm | ⟨h1, _⟩
  · cases hm
  · exact honly _ h1 rfl
/-! ### a call while a cell is locked -/
section
variable {X : Cx} {k : Nat} {g : Addr} {fd : FuncData} {ps : List Str} {sp : Sp} {pins : List (Addr × Obj)} {σ : St} {H : Hp} {s : Shared}
theorem del_none {H : Hp} {a b : Addr} (h : H b = none) : del H a b = none := by
  by_cases e : b = a
  · rw [e, del_same]
  · rw [del_ne e, h]
theorem run_lock {y : Str} {c : Addr} {o : Obj} {Q : VK} {us : List Value} {vs : List V} (F : FnOk X.prog X.w X.K X.mg X.base CX0 k g fd ps sp) (hr : Room k X.A) (hb : Binds X.K fd ps []) (I : Inv X pins σ H s) (r : Vals vs us)
    (hc : X.env.cells.lookup y = some c) (hfn : X.fn y = true) (ho : s.heap.get? c = some o) (h : sp vs (upd H c (Lk o)) (fun v H2 => Q v (del H2 c)) E0) : wpAny (model X.prog X.w) X.A (call (.ref g) us) (EP X pins σ Q) X.xe s := by
  have nc : H c = none := I.freeC y c hc
  have nfs : c ∉ frs X.stack := fun z => by
    rcases List.mem_cons.mp (I.stkSub c z) with z | z
    · exact I.cne y c hc z
    · obtain ⟨_, o', e, _⟩ := I.ok.funs.mem z
      exact absurd (Nat.lt_of_lt_of_le (Heap.lt_size e) (I.ok.cab y c hfn hc)) (Nat.lt_irrefl _)
  have nb : ∀ b o, X.base.get? b = some o → b ≠ c := fun b o e z => by
    have q := (I.ok.bs b o e).1
    rw [z] at q
    exact absurd (Nat.lt_of_lt_of_le (Heap.lt_size q) (I.ok.cab y c hfn hc)) (Nat.lt_irrefl _)
  have e0 := I.env0
  have e1 : Env0 X.prog X.w X.K X.mg X.base X.A X.stack s (upd H c (Lk o)) := ⟨e0.frames, e0.mod, fun b o' e => ⟨(e0.bs b o' e).1, by rw [upd_ne (nb b o' e)]; exact (e0.bs b o' e).2⟩, e0.bsz, e0.funs,
    fun b hb' => by rw [upd_ne (fun z : b = c => nfs (by rw [← z]; exact hb'))]; exact e0.frf b hb', fun b u e => by
      by_cases hbc : b = c
      · subst hbc
        rw [upd_same] at e
        cases e
        exact lk_ok ho
      · rw [upd_ne hbc] at e
        exact (e0.hok b u e).stay (fun _ _ _ z => z) (fun d z => by rw [upd_ne (ne_of_none z nc)]; exact z) fun d xs z => by rw [upd_ne (ne_of_none z nc)]; exact z, e0.bare⟩
  have hl : us.length = ps.length := by
    rw [← Paired.length r]
    exact F.len _ _ _ _ h
  have hbd := hb s us I.kIn (by rw [List.append_nil]; exact hl)
  rw [List.append_nil] at hbd
  refine wpAny_call (codeAny_mono (F.run X.A X.stack s (upd H c (Lk o)) ⟨us, []⟩ us vs _ E0 hr e1 hbd r h) fun r s' hq => ?_)
  cases r with
  | error e => exact False.elim hq
  | ok fl =>
    cases fl with
    | next => exact False.elim hq
    | brk => exact False.elim hq
    | cont => exact False.elim hq
    | ret u =>
      obtain ⟨v, H2, os, bare, un, hok, rv, q⟩ := hq
      have h2c : H2 c = some (Lk o) := un.frzs c o _ upd_same
      have nown : ∀ {b d : Addr}, H2 d = some (.own b) → d ≠ c := fun {b d} z => ne_of z h2c fun w => lk_own w.symm
      have ntup : ∀ {d : Addr} {xs : List V}, H2 d = some (.tup xs) → d ≠ c := fun {d xs} z => ne_of z h2c fun w => lk_tup w.symm
      have un2 : Un (frs X.stack) [] H (del H2 c) s.heap s'.heap := {
        keep := fun b o' e n hf hx => by
          by_cases hbc : b = c
          · subst hbc
            rw [ho] at e
            cases e
            exact lk_at hok h2c
          · exact un.keep b o' e (by rw [upd_ne hbc]; exact n) hf hx
        slot := fun b o' e n hf hx => un.slot b o' e (by rw [upd_ne (fun z : b = c => nfs (by rw [← z]; exact hf))]; exact n) hf hx
        free := fun b o' e n hx => by
          by_cases hbc : b = c
          · rw [hbc, del_same]
          · rw [del_ne hbc]
            exact un.free b o' e (by rw [upd_ne hbc]; exact n) hx
        there := un.there
        tups := fun b xs z => by
          have z2 := un.tups b xs (by rw [upd_ne (ne_of_none z nc)]; exact z)
          rw [del_ne (ne_of_none z nc)]
          exact z2
        frzs := fun b o' u z => by
          have z2 := un.frzs b o' u (by rw [upd_ne (ne_of_none z nc)]; exact z)
          rw [del_ne (ne_of_none z nc)]
          exact z2
        tbls := fun b ps z => by
          obtain ⟨m, z2⟩ := un.tbls b ps (by rw [upd_ne (ne_of_none z nc)]; exact z)
          exact ⟨m, by rw [del_ne (ne_of_none z nc)]; exact z2⟩ }
      have hok2 : HOk X.prog X.w (del H2 c) s'.heap := fun b u e => by
        have hbc : b ≠ c := fun z => by
          rw [z, del_same] at e
          cases e
        rw [del_ne hbc] at e
        exact (hok b u e).stay (fun _ _ _ z => z) (fun d z => by rw [del_ne (nown z)]; exact z) fun d xs z => by rw [del_ne (ntup z)]; exact z
      exact I.after ⟨v, del H2 c, os, bare, un2, hok2, rv, q⟩
/-- g(..), an argument among them a lambda over the cell of y, whose value stands in slot j -/
def tCallLk (X : Cx) (y : Str) (j : Nat) (sp : Sp) (t : TA) : TE := fun σ H Q => t σ H fun vs H1 => ∃ x, σ[j]? = some (some x) ∧ ∀ (c : Addr) (o : Obj) (u : Value), X.env.cells.lookup y = some c → o.data = .cell (some u) → RelV x u → H1 c = none → sp vs (upd H1 c (Lk o)) (fun v H2 => Q v (del H2 c)) E0
theorem pe_callLk {x y : Str} {j : Nat} {p pos : Pos} {e : Expr} {es : List Expr} {t : TA} (F : FnOk X.prog X.w X.K X.mg X.base CX0 k g fd ps sp) (hr : Room k X.A) (hg : Gl X x) (hm : X.mg x = some (.ref g)) (hk : PySem.W.keepIn X.K (.ref g) = true) (hb : Binds X.K fd ps [])
    (hN : X.N[j]? = some y) (hy : X.env.scope.names.lookup y = some .cell) (hfn : X.fn y = true) (ha : PA X (e :: es) t) (hdb : (x == ("__debug__" : Str)) = false := by decide)
    (he : starEach (e :: es) X.env = (false, eval e X.env) :: starEach es X.env := by rfl) (hpl : (backTo pos (starEach es X.env)).any (·.1) = false := by rfl) :
    PE X (.Call (.Name x p) (e :: es) [] pos) (tCallLk X y j sp t) := by
  refine ⟨fun pins s σ H Q I h => ?_⟩
  refine wpAny_Call_Name_kw (ld_glob I hg hm ?_ hdb)
  refine PySem.W.callWith_K (h₀ := X.base) I.ok.mod.kin hk (thn (ha.run pos pins s σ H _ I h) fun us s1 ⟨vs, H1, I1, r, x0, hs, q⟩ => ⟨I1.kIn, ?_⟩) he hpl
  obtain ⟨c, hc⟩ := I1.ok.has y (.inl hy)
  obtain ⟨m, hn, hl⟩ := I1.loc
  obtain ⟨u, ru, lk⟩ := hl j y x0 hN hs (.inr (.inl hy))
  have hcell : s1.heap.IsCell c (some u) := by
    rcases lk with ⟨z, _⟩ | ⟨_, c', hc', z⟩
    · have z' : X.env.scope.names.lookup y = some .local := z
      rw [hy] at z'
      cases z'
    · rw [hc] at hc'
      cases hc'
      exact z
  obtain ⟨o, ho, hd⟩ := hcell
  exact run_lock F hr hb I1 r hc hfn ho (q c o u hc hd ru (I1.freeC y c hc))
end
/-! ### what a lambda promises -/
/-- sp x: x what its cell holds -/
structure LOk (CX : CXT) (P : Program) (w : World) (K : PySem.W.Frag) (mg : Str → Option Value) (base : Heap) (k : Nat) (W : LW) (y : Str) (ps : List Str) (sp : V → Sp) : Prop where
  len : ∀ x vs H Q E, sp x vs H Q E → vs.length = ps.length
  run : ∀ (f : Addr) (cl : List (Str × Addr)) (cc : Addr) (A : Around) (outer : List Env) (s : Shared) (H : Hp) (us : List Value) (vs : List V) (x : V) (Q : VK) (E : XK), Room k A → Env0 P w K mg base A outer s H → H f = some (LamO f W cl cc) → H cc = some (CodeO cc W.qual) →
    CellsAt cl [y] [some x] s.heap H → Vals vs us → sp x vs H Q E → codeAny (model P w) A (.call (.ref f) ⟨us, []⟩) (CR CX outer P w H s Q E) s
section
variable {CX : CXT} {P : Program} {w : World} {K : PySem.W.Frag} {mg : Str → Option Value} {base : Heap} {N ps : List Str} {W : LW} {y : Str} {k : Nat} {sp : V → Sp}
theorem LOk.mono {j : Nat} (o : LOk CX P w K mg base j W y ps sp) (h : j ≤ k) : LOk CX P w K mg base k W y ps sp := ⟨o.len, fun f cl cc A outer s H us vs x Q E hr => o.run f cl cc A outer s H us vs x Q E (hr.mono h)⟩
theorem lok_of (S : NScope N ps [y] W.scope) (hbind : ∀ (cl : List (Str × Addr)) (pm cdv ctv : Value) (us : List Value), us.length = ps.length → bindArgs (PySem.W.kla_fn "<lambda>" W.qual W.params W.body W.scope cl pm cdv ctv) ⟨us, []⟩ = pure (ps.zip us))
    (len : ∀ x vs H Q E, sp x vs H Q E → vs.length = ps.length)
    (hbody : ∀ (f : Addr) (cl : List (Str × Addr)) (cc : Addr) (A : Around) (outer : List Env) (s : Shared) (H : Hp) (vs : List V) (x : V) (Q : VK) (E : XK), Room k (A.deeper (envF (W.nf cl cc) f s.heap.objs.size)) → sp x vs H Q E →
      ∃ t, PE (ncx CX P w K mg base N (W.nf cl cc) f A outer s H E) W.body t ∧ t (startF N vs [some x]) H Q) : LOk CX P w K mg base (k + 1) W y ps sp := by
  refine ⟨len, fun f cl cc A outer s H us vs x Q E hr e0 hf hc C r hsp => ?_⟩
  have hl := len _ _ _ _ _ hsp
  have lim : s.heap.NoLimit := e0.mod.nolimit.keeps fun b o e => (e0.bs b o e).1
  obtain ⟨pm, ctv, ho⟩ := lamO_at e0.hok hf
  refine PySem.W.kla_callFunE hr.depth ho rfl S.co S.gen rfl (codeO_at e0.hok hc) ?_
  rw [hbind cl pm (.ref cc) ctv us (by rw [← r.length]; exact hl)]
  refine wpAny_pure (wpAny_newFunctionEnv S.nocell (fun ⟨n, _⟩ hy => S.par n (List.of_mem_zip hy).1) (fun h₁ hns hsb => ⟨lim.fresh _ hsb, ?_⟩) S.kind)
  show codeAny _ _ (.expr W.body (envF (W.nf cl cc) f s.heap.objs.size)) _ _
  have kp : ∀ b o, s.heap.get? b = some o → h₁.get? b = some o := fun b o e => hsb.extBut b o (Nat.ne_of_lt (Heap.lt_size e)) (Heap.get?_push_of_some _ e)
  obtain ⟨t, ht, hq⟩ := hbody f cl cc A outer s H vs x Q E (hr.deeper _) hsp
  have I : Inv (ncx CX P w K mg base N (W.nf cl cc) f A outer s H E) [] (startF N vs [some x]) H { s with heap := h₁, toks := s.toks + (ps.zip us).length } := inv_startN (F := W.nf cl cc) S hr.hd e0 hl r C hns kp
  refine PySem.W.kla_codeExpr (wpAny_mono (ht.run [] _ (startF N vs [some x]) H Q I hq) (fun v s' hs => ?_) fun e s' hs => hs)
  obtain ⟨v', H', J, rv, q⟩ := hs
  exact ⟨v', H', J.os, J.bare, J.base, J.hok, rv, q⟩
end
/-! ### calls of a name that holds a def or such a lambda -/
/-- f may be called with the promise sp -/
def Cb (P : Program) (w : World) (K : PySem.W.Frag) (mg : Str → Option Value) (base : Heap) (k : Nat) (H : Hp) (f : Addr) (sp : Sp) : Prop :=
  (∃ (fd : FuncData) (ps : List Str), FnOk P w K mg base CX0 k f fd ps sp ∧ PySem.W.keepIn K (.ref f) = true ∧ Binds K fd ps []) ∨
  ∃ (W : LW) (y : Str) (x : V) (ps : List Str) (spx : V → Sp), LamAt H f W y x ∧ LOk CX0 P w K mg base k W y ps spx ∧
    ∀ (vs : List V) (H1 : Hp) (Q : VK) (c : Addr) (o : Obj), H1 c = some (Lk o) → sp vs H1 Q E0 → spx x vs (del H1 c) (fun v H2 => H2 c = none → Q v (upd H2 c (Lk o))) (fun _ _ H2 => H2 c = none → False)
theorem Cb.ext {P : Program} {w : World} {K : PySem.W.Frag} {mg : Str → Option Value} {base : Heap} {k : Nat} {H H' : Hp} {f : Addr} {sp : Sp} (b : Cb P w K mg base k H f sp) (e : ExtN H H') : Cb P w K mg base k H' f sp := by
  rcases b with b | ⟨W, y, x, ps, spx, l, r⟩
  · exact .inl b
  · exact .inr ⟨W, y, x, ps, spx, l.ext e, r⟩
def tCallCb (X : Cx) (k i : Nat) (t : TA) : TE := fun σ H Q => ∃ (f : Addr) (sp : Sp), σ[i]? = some (some (.ref f)) ∧ Cb X.prog X.w X.K X.mg X.base k H f sp ∧ t σ H fun vs H1 => ExtN H H1 ∧ sp vs H1 Q E0
section
variable {X : Cx} {k : Nat} {sp : Sp} {pins : List (Addr × Obj)} {σ : St} {H : Hp} {s : Shared}
/-- a lambda runs, its cell unlocked -/
theorem run_lam {CX : CXT} {E : XK} {f : Addr} {W : LW} {y : Str} {x : V} {ps : List Str} {spx : V → Sp} {Q : VK} {us : List Value} {vs : List V} (L : LOk CX X.prog X.w X.K X.mg X.base k W y ps spx) (hr : Room k X.A) (I : Inv X pins σ H s) (r : Vals vs us) (l : LamAt H f W y x)
    (h : ∀ (c : Addr) (o : Obj), H c = some (Lk o) → spx x vs (del H c) (fun v H2 => H2 c = none → Q v (upd H2 c (Lk o))) (fun cls d H2 => H2 c = none → E cls d (upd H2 c (Lk o))))
    (hx : ∀ (c : Addr) (o : Obj) (e : Value) (s' : Shared), H c = some (Lk o) → s.heap.get? c = some o → c ∉ frs X.stack → CX X.stack (del H c) s (fun cls d H2 => H2 c = none → E cls d (upd H2 c (Lk o))) e s' → X.xe e s') : wpAny (model X.prog X.w) X.A (call (.ref f) us) (EP X pins σ Q) X.xe s := by
  obtain ⟨cl, cc, c, o, u, hf, hc, oc, hl, hd, ru⟩ := l
  have ho : s.heap.get? c = some o := lk_at I.hok hl
  have nfs : c ∉ frs X.stack := fun z => by
    have q := I.stkFree c z
    rw [hl] at q
    cases q
  have nown : ∀ {b d : Addr}, H d = some (.own b) → d ≠ c := fun {b d} z => ne_of z hl fun w => lk_own w.symm
  have ntup : ∀ {d : Addr} {xs : List V}, H d = some (.tup xs) → d ≠ c := fun {d xs} z => ne_of z hl fun w => lk_tup w.symm
  have ne : ∀ {b : Addr}, H b = none → b ≠ c := fun {b} z w => by
    rw [w, hl] at z
    cases z
  have e0 := I.env0
  have e1 : Env0 X.prog X.w X.K X.mg X.base X.A X.stack s (del H c) := ⟨e0.frames, e0.mod, fun b o' e => ⟨(e0.bs b o' e).1, del_none (e0.bs b o' e).2⟩, e0.bsz, e0.funs, fun b hb' => del_none (e0.frf b hb'), fun b v e => by
      have hbc : b ≠ c := fun z => by
        rw [z, del_same] at e
        cases e
      rw [del_ne hbc] at e
      exact (e0.hok b v e).stay (fun _ _ _ z => z) (fun d z => by rw [del_ne (nown z)]; exact z) fun d xs z => by rw [del_ne (ntup z)]; exact z, e0.bare⟩
  have hf' : del H c f = some (LamO f W cl cc) := by
    rw [del_ne (ne_of hf hl fun w => by unfold LamO Lk at w; cases w)]
    exact hf
  have hc' : del H c cc = some (CodeO cc W.qual) := by
    rw [del_ne (ne_of hc hl fun w => by unfold CodeO Lk at w; cases w)]
    exact hc
  have C : CellsAt cl [y] [some x] s.heap (del H c) := by
    refine ⟨rfl, fun z d e => ?_, fun a b d e1 e2 => by rw [oc.only a d e1, oc.only b d e2], fun i z e => ?_⟩
    · have zy := oc.only z d e
      subst zy
      have dc : d = c := by
        have q := oc.at_
        rw [e] at q
        exact Option.some.inj q
      subst dc
      exact ⟨del_same, _, o, ho, hd⟩
    · cases i with
      | zero =>
        have e' : some y = some z := e
        cases e'
        exact ⟨c, oc.at_, fun v ev => by
          have ev' : some (some x) = some (some v) := ev
          cases ev'
          exact ⟨u, ru, o, ho, hd⟩⟩
      | succ n => simp at e
  refine wpAny_call (codeAny_mono (L.run f cl cc X.A X.stack s (del H c) us vs x _ _ hr e1 hf' hc' C r (h c o hl)) fun r s' hq => ?_)
  cases r with
  | error e => exact hx c o e s' hl ho nfs hq
  | ok fl =>
    cases fl with
    | next => exact False.elim hq
    | brk => exact False.elim hq
    | cont => exact False.elim hq
    | ret u' =>
      obtain ⟨v, H2, os, bare, un, hok, rv, q⟩ := hq
      have h2c : H2 c = none := un.free c o ho del_same (by simp)
      have ho2 : s'.heap.get? c = some o := un.keep c o ho del_same nfs (by simp)
      have un2 : Un (frs X.stack) [] H (upd H2 c (Lk o)) s.heap s'.heap := {
        keep := fun b o' e n hf hx => un.keep b o' e (del_none n) hf hx
        slot := fun b o' e n hf hx => un.slot b o' e (del_none n) hf hx
        free := fun b o' e n hx => by
          rw [upd_ne (ne n)]
          exact un.free b o' e (del_none n) hx
        there := un.there
        tups := fun b xs z => by
          rw [upd_ne (ntup z)]
          exact un.tups b xs (by rw [del_ne (ntup z)]; exact z)
        frzs := fun b o' u z => by
          by_cases hbc : b = c
          · subst hbc
            rw [upd_same, ← hl]
            exact z
          · rw [upd_ne hbc]
            exact un.frzs b o' u (by rw [del_ne hbc]; exact z)
        tbls := fun b ps z => by
          have hbc : b ≠ c := ne_of z hl fun w => lk_tbl _ w.symm
          rw [upd_ne hbc]
          exact un.tbls b ps (by rw [del_ne hbc]; exact z) }
      have hok2 : HOk X.prog X.w (upd H2 c (Lk o)) s'.heap := fun b u e => by
        by_cases hbc : b = c
        · subst hbc
          rw [upd_same] at e
          cases e
          exact lk_ok ho2
        · rw [upd_ne hbc] at e
          exact (hok b u e).stay (fun _ _ _ z => z) (fun d z => by rw [upd_ne (ne_of_none z h2c)]; exact z) fun d xs z => by rw [upd_ne (ne_of_none z h2c)]; exact z
      exact I.after ⟨v, upd H2 c (Lk o), os, bare, un2, hok2, rv, q h2c⟩
theorem fnAt_lam {f : Addr} {W : LW} {y : Str} {x : V} (I : Inv X pins σ H s) (l : LamAt H f W y x) : PySem.W.FnAt f s.heap := by
  obtain ⟨cl, cc, c, o, u, hf, _⟩ := l
  obtain ⟨pm, ctv, ho⟩ := lamO_at I.hok hf
  exact ⟨_, _, _, _, ho⟩
theorem pe_callCb {i : Nat} {x : Str} {p pos : Pos} {e : Expr} {es : List Expr} {t : TA} (hr : Room k X.A) (hN : X.N[i]? = some x) (hv : Vis X.env.scope x) (ha : PA X (e :: es) t)
    (hdb : (x == ("__debug__" : Str)) = false := by decide) (hcd : (x == ("__classdict__" : Str)) = false := by decide)
    (he : starEach (e :: es) X.env = (false, eval e X.env) :: starEach es X.env := by rfl) (hpl : (backTo pos (starEach es X.env)).any (·.1) = false := by rfl) :
    PE X (.Call (.Name x p) (e :: es) [] pos) (tCallCb X k i t) := by
  refine ⟨fun pins s σ H Q I h => ?_⟩
  obtain ⟨f, sp, hs, cb, ht⟩ := h
  refine wpAny_Call_Name_kw (thn ((pe_var (pos := p) hN hv hdb hcd).run pins s σ H (fun v H1 => v = .ref f ∧ H1 = H) I ⟨.ref f, hs, rfl, rfl⟩) fun u s1 ⟨v, H1, I1, r1, q1⟩ => ?_)
  obtain ⟨ev, eH⟩ := q1
  subst ev
  rw [eH] at I1
  obtain rfl : u = Value.ref f := r1
  rcases cb with ⟨fd, ps, F, hk, hb⟩ | ⟨W, y, x0, ps, spx, l, L, hsp⟩
  · refine PySem.W.callWith_K (h₀ := X.base) I.ok.mod.kin hk (thn (ha.run pos pins s1 σ _ _ I1 ht) fun us s2 ⟨vs, H2, I2, r, _, q⟩ => ⟨I2.kIn, ?_⟩) he hpl
    show wpAny _ _ (call (.ref f) us) _ _ _
    exact run_fn (dvs := []) (ds := []) F hr hb .nil (pass0 (X := X)) I2 r (by rw [List.append_nil]; exact q)
  · refine PySem.W.callWith_F (first := []) (fnAt_lam I1 l) (thn (ha.run pos pins s1 σ H _ I1 ht) fun us s2 ⟨vs, H2, I2, r, ex, q⟩ => ⟨fnAt_lam I2 (l.ext ex), ?_⟩) he hpl
    show wpAny _ _ (call (.ref f) us) _ _ _
    exact run_lam (E := E0) L hr I2 r (l.ext ex) (fun c o hl => hsp vs H2 Q c o hl q) fun _ _ _ _ _ _ _ z => False.elim z
end
/-! ### a lambda without parameters that may raise, called by the name that holds it -/
section
variable {X : Cx} {pins : List (Addr × Obj)} {σ : St} {H : Hp} {s : Shared}
/-- what a lambda let out, its cell locked again -/
theorem cx_lock {P : Program} {w : World} {outer : List Env} {E : XK} {c : Addr} {o : Obj} {e : Value} {s' : Shared} (hl : H c = some (Lk o)) (ho : s.heap.get? c = some o) (nfs : c ∉ frs outer)
    (x : L2.CX P w outer (del H c) s (fun cls d H2 => H2 c = none → E cls d (upd H2 c (Lk o))) e s') : L2.CX P w outer H s E e s' := by
  obtain ⟨a, B, H', cls, d, rfl, fl, hok, ub, na, os, ag, q⟩ := x
  have bo : B.get? c = some o := ub.keep c o ho del_same nfs
  have hc' : H' c = none := ub.free c o ho del_same
  have nac : a ≠ c := fun z => by
    have y := fl.2.1
    rw [z, bo] at y
    cases y
  have ne : ∀ {b : Addr}, H b = none → b ≠ c := fun {b} z w => by
    rw [w, hl] at z
    cases z
  refine ⟨a, B, upd H' c (Lk o), cls, d, rfl, fl, fun b u z => ?_, ⟨fun b o' z n hb => ub.keep b o' z (del_none n) hb, ub.slot, fun b o' z n => ?_, ub.there, fun b xs z => ?_, fun b o' u z => ?_, fun b ps z => ?_⟩, ?_, os, ag, q hc'⟩
  · by_cases hb : b = c
    · subst hb
      rw [upd_same] at z
      cases z
      exact lk_ok bo
    · rw [upd_ne hb] at z
      exact (hok b u z).stay (fun _ _ _ y => y) (fun d y => by rw [upd_ne (ne_of_none y hc')]; exact y) fun d xs y => by rw [upd_ne (ne_of_none y hc')]; exact y
  · rw [upd_ne (ne n)]
    exact ub.free b o' z (del_none n)
  · have hb : b ≠ c := ne_of z hl fun w => lk_tup w.symm
    rw [upd_ne hb]
    exact ub.tups b xs (by rw [del_ne hb]; exact z)
  · by_cases hb : b = c
    · subst hb
      rw [upd_same, ← hl]
      exact z
    · rw [upd_ne hb]
      exact ub.frzs b o' u (by rw [del_ne hb]; exact z)
  · have hb : b ≠ c := ne_of z hl fun w => lk_tbl _ w.symm
    rw [upd_ne hb]
    exact ub.tbls b ps (by rw [del_ne hb]; exact z)
  · rw [upd_ne nac]
    exact na
/-- f may be called without arguments, with the promise sp -/
def Cb0 (P : Program) (w : World) (K : PySem.W.Frag) (mg : Str → Option Value) (base : Heap) (k : Nat) (H : Hp) (f : Addr) (sp : Sp) : Prop :=
  ∃ (W : LW) (y : Str) (x : V) (spx : V → Sp), LamAt H f W y x ∧ LOk (L2.CX P w) P w K mg base k W y [] spx ∧
    ∀ (H1 : Hp) (Q : VK) (E : XK) (c : Addr) (o : Obj), H1 c = some (Lk o) → sp [] H1 Q E → spx x [] (del H1 c) (fun v H2 => H2 c = none → Q v (upd H2 c (Lk o))) (fun cls d H2 => H2 c = none → E cls d (upd H2 c (Lk o)))
def tCall0 (X : Cx) (k i : Nat) (E : St → XK) : TE := fun σ H Q => ∃ (f : Addr) (sp : Sp), σ[i]? = some (some (.ref f)) ∧ Cb0 X.prog X.w X.K X.mg X.base k H f sp ∧ sp [] H Q (E σ)
theorem pe_call0L {k i : Nat} {E : St → XK} {x : Str} {p pos : Pos} (hr : Room k X.A) (hN : X.N[i]? = some x) (hv : Vis X.env.scope x) (hx : ∀ σ, PassesAt (L2.CX X.prog X.w) X σ (E σ))
    (hdb : (x == ("__debug__" : Str)) = false := by decide) (hcd : (x == ("__classdict__" : Str)) = false := by decide) : PE X (.Call (.Name x p) [] [] pos) (tCall0 X k i E) := by
  refine ⟨fun pins s σ H Q I h => ?_⟩
  obtain ⟨f, sp, hs, ⟨W, y, x0, spx, l, L, hsp⟩, q⟩ := h
  refine wpAny_Call_Name_kw (thn ((pe_var (pos := p) hN hv hdb hcd).run pins s σ H (fun v H1 => v = .ref f ∧ H1 = H) I ⟨.ref f, hs, rfl, rfl⟩) fun u s1 ⟨v, H1, I1, r1, q1⟩ => ?_)
  obtain ⟨ev, eH⟩ := q1
  subst ev
  rw [eH] at I1
  obtain rfl : u = Value.ref f := r1
  refine PySem.W.callWith_F0 (first := []) (fnAt_lam I1 l) ?_
  show wpAny _ _ (call (.ref f) []) _ _ _
  exact run_lam (E := E σ) L hr I1 .nil l (fun c o hl => hsp H Q (E σ) c o hl q) fun c o e s' hl ho nfs z => hx σ _ _ _ e s' I1 (cx_lock hl ho nfs z)
end
end KL
end L2
set_option Elab.async false
set_option linter.all false
set_option maxRecDepth 100000
set_option maxHeartbeats 4000000
/-! k92: defs that ask that nothing is being shown around them (repr of nested data), and the end of a law row over such a law -/
namespace L2
namespace KR
open PySem PySem.Spec PyProof.Rows LamX
/-- repr of data at any depth -/
def rRepr (K : PySem.W.Frag) : List V → Hp → VK → Prop := fun xs H Q => ∃ (a : Addr) (d : PyData), xs = [.ref a] ∧ Dp K H (.ref a) d ∧ d.showable = true ∧ d.hasDict = false ∧ d.depth ≤ 100 ∧ d.shown.length ≤ sizeLine ∧ Q (.str d.shown) H
theorem call_reprD {X : Cx} (hG : X.A.guards = some []) (hu : X.A.units + 200 < cLine) : CallR X (.builtin "repr") (rRepr X.K) := by
  intro pins s σ H xs us Q I r h
  obtain ⟨a, d, rfl, hd, h1, h2, h3, h4, q⟩ := h
  cases r with
  | cons rx rr =>
    cases rr
    cases rx
    obtain ⟨as, rd⟩ := Dp.reads I d (.ref a) (.ref a) hd rfl
    refine repr_of_reads' rd h1 (PyData.noDict_hsm h2) hG (by omega) (fun _ _ e => e) (fun h' u tk hk => ⟨.str d.shown, H, I.kept (t' := tk) hk, ⟨u, rfl⟩, q⟩) h4
/-- a def's promise where nothing is being shown around it -/
structure FnG (P : Program) (w : World) (K : PySem.W.Frag) (mg : Str → Option Value) (base : Heap) (k : Nat) (f : Addr) (fd : FuncData) (ps : List Str) (sp : Sp) : Prop where
  len : ∀ vs H Q E, sp vs H Q E → vs.length = ps.length
  run : ∀ (A : Around) (outer : List Env) (s : Shared) (H : Hp) (args : Args) (us : List Value) (vs : List V) (Q : VK) (E : XK), A.guards = some [] → Room k A → Env0 P w K mg base A outer s H → BindsTo s fd args (ps.zip us) → Vals vs us → sp vs H Q E →
    codeAny (model P w) A (.call (.ref f) args) (CR CX0 outer P w H s Q E) s
theorem fnG_of {P : Program} {w : World} {K : PySem.W.Frag} {mg : Str → Option Value} {base : Heap} {k : Nat} {f : Addr} {name qual : Str} {params : Arguments} {body : List Stmt} {scope : Scope} {dV kV doc pm cdv ct oc : Value} {an od : Option Addr}
    {osl : Array (Option Value)} {N ps : List Str} {sp : Sp} (lk : K.lookup f = some ⟨oc, od, .func (PySem.W.fnOf name qual params body scope dV kV doc pm an cdv ct), osl⟩) (hcd : PySem.W.codeIn K cdv qual = true) (S : FnScope N ps scope)
    (len : ∀ vs H Q E, sp vs H Q E → vs.length = ps.length)
    (hbody : ∀ (A : Around) (outer : List Env) (s : Shared) (H : Hp) (vs : List V) (Q : VK) (E : XK), A.guards = some [] → Room k (A.deeper (envOfC qual scope s.heap.objs.size f cdv)) → sp vs H Q E →
      ∃ t, PSs (cxOf CX0 P w K mg base N qual scope f cdv A outer s H E).nox body t ∧ t { nx := fun _ H' => Q .non H', rt := Q } (start N vs) H) :
    FnG P w K mg base (k + 1) f (PySem.W.fnOf name qual params body scope dV kV doc pm an cdv ct) ps sp := by
  refine ⟨len, fun A outer s H args us vs Q E hG hr e0 hb r hsp => ?_⟩
  have hl := len _ _ _ _ hsp
  have KI : K.In s.heap := e0.mod.kin.keeps fun b o e => (e0.bs b o e).1
  have lim : s.heap.NoLimit := e0.mod.nolimit.keeps fun b o e => (e0.bs b o e).1
  have hk : ∀ y ∈ ps.zip us, scope.names.lookup y.1 = some .local ∨ (scope.names.lookup y.1 = some .cell ∧ ((cellsFrom (s.heap.objs.size + 1) scope.names []).lookup y.1).isSome = true) := fun ⟨n, v⟩ hy =>
    (S.par n (List.of_mem_zip hy).1).elim .inl fun q => .inr ⟨q, PySem.W.cellsFrom_some _ _ _ (.inl q)⟩
  refine codeAny_call_function hr.depth (KI _ _ lk) rfl S.co S.gen rfl (PySem.W.codeRec_of KI hcd) (hb _ _ _ _ ?_)
  refine wpAny_newFunctionEnv_cells S.kind hk fun env he s1 x => ?_
  subst he
  refine ⟨lim.keeps x.toInCall.keep, codeAny_func ?_⟩
  obtain ⟨t, ht, hq⟩ := hbody A outer s H vs Q E hG (hr.deeper _) hsp
  have I := inv_start (CX := CX0) (E := E) (f := f) (cd := cdv) (qual := qual) (scope := scope) S hr.hd e0 hl r x
  refine wpAny_mono (ht.nox.run [] s1 (start N vs) H _ I hq) (fun fl s' hs => ?_) fun e s' hs => hs
  cases fl with
  | ret u =>
    obtain ⟨v, σ', H', J, rv, q⟩ := hs
    exact ⟨v, H', J.os, J.bare, J.base, J.hok, rv, q⟩
  | next =>
    obtain ⟨σ', H', J, q⟩ := hs
    exact ⟨V.non, H', J.os, J.bare, J.base, J.hok, rfl, q⟩
  | brk =>
    obtain ⟨_, _, _, q⟩ := hs
    exact False.elim q
  | cont =>
    obtain ⟨_, _, _, q⟩ := hs
    exact False.elim q
/-- f(..), f such a def -/
theorem pe_callG {X : Cx} {k : Nat} {f : Addr} {fd : FuncData} {ps : List Str} {sp : Sp} {x : Str} {p pos : Pos} {e : Expr} {es : List Expr} {t : TA} (F : FnG X.prog X.w X.K X.mg X.base k f fd ps sp) (hG : X.A.guards = some []) (hr : Room k X.A) (hg : Gl X x) (hm : X.mg x = some (.ref f))
    (hk : PySem.W.keepIn X.K (.ref f) = true) (hb : Binds X.K fd ps []) (ha : PA X (e :: es) t) (hdb : (x == ("__debug__" : Str)) = false := by decide)
    (he : starEach (e :: es) X.env = (false, eval e X.env) :: starEach es X.env := by rfl) (hpl : (backTo pos (starEach es X.env)).any (·.1) = false := by rfl) :
    PE X (.Call (.Name x p) (e :: es) [] pos) (tCall sp [] E0 t) := by
  refine ⟨fun pins s σ H Q I h => ?_⟩
  refine wpAny_Call_Name_kw (ld_glob I hg hm ?_ hdb)
  refine PySem.W.callWith_K (h₀ := X.base) I.ok.mod.kin hk (thn (ha.run pos pins s σ H _ I h) fun us s1 ⟨vs, H1, I1, r, q⟩ => ⟨I1.kIn, ?_⟩) he hpl
  have q' : sp vs H1 Q E0 := by
    have q2 : sp (vs ++ []) H1 Q E0 := q
    rw [List.append_nil] at q2
    exact q2
  have hl : us.length = ps.length := by
    rw [← Paired.length r]
    exact F.len _ _ _ _ q'
  have hbd := hb s1 us I1.kIn (by rw [List.append_nil]; exact hl)
  rw [List.append_nil] at hbd
  show wpAny _ _ (call (.ref f) us) _ _ _
  refine wpAny_call (codeAny_mono (F.run X.A X.stack s1 H1 ⟨us, []⟩ us vs Q E0 hG hr I1.env0 hbd r q') fun r s' hq => ?_)
  cases r with
  | error e => exact False.elim hq
  | ok fl =>
    cases fl with
    | ret u => exact I1.after hq
    | next => exact False.elim hq
    | brk => exact False.elim hq
    | cont => exact False.elim hq
/-! ### the end -/
/-- what is known of the law's promise at the head's heap h -/
def LawAtG (l : PySem.W.OpenLaw) (w : World) (K : PySem.W.Frag) (k n : Nat) (x : Str) (mg : Str → Option Value) (fa : Addr) (h : Heap) : Prop :=
  ∃ (fd : FuncData) (cs : List (Addr × Addr)) (sp : Sp), (∀ p ∈ cs, h.get? p.2 = some { cls := .none, data := .fields #[] }) ∧ (∀ p ∈ cs, K.lookup p.2 = none) ∧ (∀ p ∈ cs, PySem.W.CodeHd h p.1 p.2) ∧ (∀ (s : Shared) (u : Value), BindsTo s fd ⟨[u], []⟩ [(x, u)]) ∧
    (∀ (H : Hp) (a : Addr) (ns : List Int), ns.length ≤ n → (∀ z ∈ ns, Builtin.Int.intBits z ≤ 1048576) → (∀ p ∈ cs, H p.2 = some (.tbl #[])) → SqL K H a (ns.map V.int) → sp [.ref a] H (fun v _ => v = .bl true) fun _ _ _ => False) ∧
    ∀ base : Heap, K.In base → base.Ns mainGlobals mg → (∀ p ∈ cs, TabB base mg p.1 p.2) → FnG l.prog w K mg base k fa fd [x] sp
theorem law_callG {P : Program} {w : World} {K : PySem.W.Frag} {mg mb : Str → Option Value} {k : Nat} {fa a : Addr} {cs : List (Addr × Addr)} {fd : FuncData} {x : Str} {sp : Sp} {s₁ : Shared} {vs : List Value} {ns : List Int}
    (KX : K.In s₁.heap) (hns : s₁.heap.Ns mainGlobals mg) (hb : s₁.heap.Ns builtinsNs mb) (hbb : ∀ x : Str, x ≠ "__name__" → mb x = bootBuiltins x) (hlim : s₁.heap.NoLimit) (hg : s₁.gens = #[])
    (hT : ∀ p ∈ cs, s₁.heap.get? p.2 = some { cls := .none, data := .fields #[] }) (nT : ∀ p ∈ cs, K.lookup p.2 = none) (C : ∀ p ∈ cs, PySem.W.CodeHd s₁.heap p.1 p.2)
    (hbm : ∃ (bm : Addr) (ob : Obj), mg "__builtins__" = some (.ref bm) ∧ bm ≠ builtinsNs ∧ s₁.heap.get? bm = some ob ∧ ob.cls = .type "module" ∧ ob.dict = some builtinsNs ∧ ob.data = .plain)
    (ha : s₁.heap.get? a = some { cls := .type "list", data := .seq vs.toArray }) (hi : IntsAre vs ns) (hl : ns.length ≤ sizeLine) (hr : Room k callerA)
    (F : ∀ base : Heap, K.In base → base.Ns mainGlobals mg → (∀ p ∈ cs, TabB base mg p.1 p.2) → FnG P w K mg base k fa fd [x] sp) (hbind : ∀ (s : Shared) (u : Value), BindsTo s fd ⟨[u], []⟩ [(x, u)])
    (hsp : ∀ H : Hp, (∀ p ∈ cs, H p.2 = some (.tbl #[])) → SqL K H a (ns.map V.int) → sp [.ref a] H (fun v _ => v = .bl true) fun _ _ _ => False) :
    codeAny (model P w) callerA (.call (.ref fa) ⟨[.ref a], []⟩) (fun r s' => r = .ok (.ret (.bool true)) ∧ OldK s₁.heap s'.heap ∧ s'.os = s₁.os ∧ AllBare s'.gens) s₁ := by
  have rv := vals_ints hi
  have lenV := hi.length
  -- the abstract heap: the tables, and the script unless it is of the written part
  obtain ⟨H, eH⟩ : ∃ H : Hp, H = fun b => if b ∈ cs.map (·.2) then some (.tbl #[]) else if b = a ∧ K.lookup a = none then some (.frz { cls := .type "list", data := .seq vs.toArray } (.lst (ns.map V.int))) else none := ⟨_, rfl⟩
  have isT : ∀ b : Addr, b ∈ cs.map (·.2) → s₁.heap.get? b = some { cls := .none, data := .fields #[] } := fun b hb => by
    obtain ⟨p, hp, e⟩ := List.mem_map.mp hb
    rw [← e]
    exact hT p hp
  have aT : a ∉ cs.map (·.2) := fun z => by
    have q := isT a z
    rw [ha] at q
    have z' := congrArg Obj.data (Option.some.inj q)
    cases z'
  have H1 : ∀ b, b ∈ cs.map (·.2) → H b = some (.tbl #[]) := fun b hb => by rw [eH]; exact if_pos hb
  have H2 : ∀ b, b ∉ cs.map (·.2) → b = a → K.lookup a = none → H b = some (.frz { cls := .type "list", data := .seq vs.toArray } (.lst (ns.map V.int))) := fun b h1 h2 h3 => by rw [eH]; exact (if_neg h1).trans (if_pos ⟨h2, h3⟩)
  have H3 : ∀ b, b ∉ cs.map (·.2) → ¬ (b = a ∧ K.lookup a = none) → H b = none := fun b h1 h2 => by rw [eH]; exact (if_neg h1).trans (if_neg h2)
  have split : ∀ b, (b ∈ cs.map (·.2) ∧ H b = some (.tbl #[])) ∨ (b = a ∧ K.lookup a = none ∧ H b = some (.frz { cls := .type "list", data := .seq vs.toArray } (.lst (ns.map V.int)))) ∨ H b = none := fun b => by
    by_cases h1 : b ∈ cs.map (·.2)
    · exact .inl ⟨h1, H1 b h1⟩
    · by_cases h2 : b = a ∧ K.lookup a = none
      · exact .inr (.inl ⟨h2.1, h2.2, H2 b h1 h2.1 h2.2⟩)
      · exact .inr (.inr (H3 b h1 h2))
  have hok : HOk P w H s₁.heap := fun b u z => by
    rcases split b with ⟨h1, h2⟩ | ⟨h1, _, h2⟩ | h2
    · rw [h2] at z
      cases z
      exact isT b h1
    · rw [h2] at z
      cases z
      rw [h1]
      exact ⟨ha, by rw [List.length_map]; exact hl, vs, _, rv, ha⟩
    · rw [h2] at z
      cases z
  have sq : SqL K H a (ns.map V.int) := by
    cases hk : K.lookup a with
    | none => exact .inl (.inr ⟨_, H2 a aT rfl hk⟩)
    | some o =>
      have e := KX a o hk
      rw [ha] at e
      cases e
      exact .inr ⟨_, vs.toArray, _, hk, rfl, rfl, rfl, by rw [List.size_toArray, lenV]; exact hl, by simpa using rv⟩
  -- what is neither a table nor the script is not tracked
  have free : ∀ {b : Addr} {o : Obj}, s₁.heap.get? b = some o → (∀ vs n, o.data ≠ .seq vs n) → o.data ≠ .fields #[] → H b = none := fun {b o} e h1 h2 => by
    rcases split b with ⟨z, _⟩ | ⟨z, _, _⟩ | z
    · rw [isT b z] at e
      cases e
      exact (h2 rfl).elim
    · rw [z, ha] at e
      cases e
      exact (h1 _ _ rfl).elim
    · exact z
  have hid : ∀ {b : Addr} {o : Obj}, s₁.heap.get? b = some o → H b = none → (hidT s₁.heap H).get? b = some o := fun e n => hidT_get e n
  have nsK : ∀ {b : Addr} {m : Str → Option Value}, s₁.heap.Ns b m → (hidT s₁.heap H).Ns b m := fun {b m} ⟨o, es, ep, e, d, r⟩ =>
    ⟨o, es, ep, hid e (free e (fun vs n z => by rw [d] at z; cases z) fun z => by rw [d] at z; cases z), d, r⟩
  have KH : K.In (hidT s₁.heap H) := fun b o e => hid (KX b o e) (by
    rcases split b with ⟨z, _⟩ | ⟨z, z2, _⟩ | z
    · obtain ⟨p, hp, ep⟩ := List.mem_map.mp z
      rw [← ep, nT p hp] at e
      cases e
    · rw [z, z2] at e
      cases e
    · exact z)
  have TB : ∀ p ∈ cs, TabB (hidT s₁.heap H) mg p.1 p.2 := fun p hp => by
    have hTp := hT p hp
    refine ⟨?_, ?_, fun z => ?_⟩
    · obtain ⟨o, us, file, tf, flags, tg, inF, text, tt, e1, r1, r2, r3, rr⟩ := C p hp
      refine ⟨o, us, file, tf, flags, tg, inF, text, tt, hid e1 (free e1 (fun vs n z => ?_) fun z => ?_), r1, r2, r3, rr⟩
      · rw [r2] at z
        cases z
      · rw [r2] at z
        cases z
        simp at r3
    · obtain ⟨bm, ob, b1, b2, b3, b4, b5, b6⟩ := hbm
      have nG : bm ≠ mainGlobals := fun q => by
        obtain ⟨o, es, ep, e, hd, _⟩ := hns
        rw [q, e] at b3
        cases b3
        rw [hd] at b6
        cases b6
      have nP : bm ≠ p.2 := fun q => by
        rw [q, hTp] at b3
        cases b3
        cases b6
      exact ⟨bm, ob, b1, b2, nG, nP, hid b3 (free b3 (fun vs n z => by rw [b6] at z; cases z) fun z => by rw [b6] at z; cases z), b4, b5, b6⟩
    · obtain ⟨o, es, ep, e, hd, _⟩ := hns
      rw [z, hTp] at e
      cases e
      cases hd
  have md : L2.Mod K mg (hidT s₁.heap H) := ⟨KH, nsK hns, ⟨mb, nsK hb, hbb⟩, let ⟨mc, h1, h2⟩ := hlim; ⟨mc, nsK h1, h2⟩⟩
  have nil : ∀ b ∈ frs ([] : List Env), H b = none := fun b z => absurd (show b ∈ ([] : List Addr) from z) (by simp)
  have e0 : Env0 P w K mg (hidT s₁.heap H) callerA [] s₁ H := ⟨rfl, md, fun b o e => of_hidT e, Nat.le_of_eq (hidT_size _ _), trivial, nil, hok, .of_eq hg⟩
  have hH : ∀ p ∈ cs, H p.2 = some (.tbl #[]) := fun p hp => H1 _ (List.mem_map.mpr ⟨p, hp, rfl⟩)
  refine codeAny_mono ((F _ KH (nsK hns) TB).run callerA [] s₁ H ⟨[.ref a], []⟩ [.ref a] [.ref a] _ _ rfl hr e0 (hbind s₁ (.ref a)) (.cons rfl .nil) (hsp H hH sq)) fun r s' h => ?_
  cases r with
  | error e => exact False.elim h
  | ok fl =>
    cases fl with
    | next => exact False.elim h
    | brk => exact False.elim h
    | cont => exact False.elim h
    | ret u =>
      obtain ⟨v, H', os, bare, un, hok', r', q⟩ := h
      have q' : v = .bl true := q
      subst q'
      obtain rfl : u = Value.bool true := r'
      have old : ∀ b o, s₁.heap.get? b = some o → b ∉ cs.map (·.2) → s'.heap.get? b = some o := fun b o e nb => by
        rcases split b with ⟨z, _⟩ | ⟨z, _, h2⟩ | z
        · exact absurd z nb
        · have z2 := un.frzs b _ _ h2
          obtain ⟨e1, _⟩ := hok b _ h2
          obtain ⟨e2, _⟩ := hok' b _ z2
          rw [e] at e1
          cases e1
          exact e2
        · exact un.keep b o e z (fun y => absurd (show b ∈ ([] : List Addr) from y) (by simp)) (by simp)
      have grown : ∀ b, b ∈ cs.map (·.2) → ∃ more : Array Value, s'.heap.get? b = some { cls := .none, data := .fields more } := fun b hb => by
        obtain ⟨more, z⟩ := un.tbls b #[] (H1 b hb)
        exact ⟨_, hok' b _ z⟩
      refine ⟨rfl, ⟨fun b o e => ?_, fun b o e => ?_⟩, os, bare⟩
      · by_cases hb : b ∈ cs.map (·.2)
        · obtain ⟨more, hm⟩ := grown b hb
          obtain ⟨p, hp, ep⟩ := List.mem_map.mp hb
          rw [isT b hb] at e
          cases e
          rw [← ep] at hm ⊢
          exact .inr (.inl ⟨((C p hp).tab (hT p hp)).isCodeTable, rfl, #[], more, rfl, by rw [Array.empty_append]; exact hm⟩)
        · exact .inl (old b o e hb)
      · by_cases hb : b ∈ cs.map (·.2)
        · obtain ⟨more, hm⟩ := grown b hb
          exact ⟨_, hm⟩
        · exact ⟨o, old b o e hb⟩
theorem walk_ofG {l : PySem.W.OpenLaw} {n k : Nat} {q : Program} {loose : List Str} {XP : (Str → Option Value) → Heap → Prop} {YP : World → Heap → Prop} {d : DefRec} {x : Str}
    (hn : l.most = some n) (hn2 : n ≤ sizeLine) (hdf : d.params.defaults = []) (hr : Room k callerA)
    (F : ∀ (w : World) (mg : Str → Option Value) (fa : Addr) (h : Heap), YP w h → h.Ns mainGlobals mg → mg d.name = some (.ref fa) → ∃ K : PySem.W.Frag, K.In h ∧ LawAtG l w K k n x mg fa h) :
    PySem.W.WalkO q loose XP YP l.row.toRowW d [] (fun f vs => PySem.call f vs) := by
  refine Att.attach_callB hn hdf fun w s₀ s₁ mg mb fa o pm cd doc a vs ns G Y ho hd hcd hmg hobj hints hlen hbits hg => ?_
  obtain ⟨K, KX, fd, cs, sp, hT, nT, C, hb, hsp, hF⟩ := F w mg fa _ Y G.T.g hmg
  exact law_callG KX G.T.g G.T.b G.T.builtins G.T.nolimit hg hT nT C G.T.bmain hobj hints (Nat.le_trans hlen hn2) hr hF hb fun H hH hS => hsp H a ns hlen hbits hH hS
end KR
end L2
set_option Elab.async false
set_option linter.all false
set_option maxRecDepth 100000
set_option maxHeartbeats 8000000
/-! k92: rules that the layer lacks: {(k, ..): v}; < and <= of tuples of texts; x in (a, b) of data; set(list of ints) -/
namespace L2
namespace KM
open PySem PySem.Spec PyProof.Rows
/-! ### {key: value}, the key a tuple -/
def tDisp1T (tk tv : TE) : TE := fun σ H Q => ∀ p, H p = none → tk σ (upd H p (.dT [])) fun x H1 => tv σ H1 fun y H2 => ∃ (b : Addr) (ks : List Key), x = .ref b ∧ H2 b = some (.tup (ks.map kV)) ∧ H2 p = some (.dT []) ∧ Q (.ref p) (upd H2 p (.dT [(ks, y)]))
theorem pe_disp1T {X : Cx} {pos : Pos} {k v : Expr} {tk tv : TE} (hu : X.A.units + 1 < cLine) (hk : PE X k tk) (hv : PE X v tv) : PE X (.Dict [some k] [v] pos) (tDisp1T tk tv) := by
  refine ⟨fun pins s σ H Q I q => ?_⟩
  have hn := I.hok.fresh (Nat.le_refl s.heap.objs.size)
  have I1 := I.laid (a := s.heap.objs.size) (o := .dT []) (h' := s.heap.push { cls := .type "dict", data := .dict #[] }) (t' := s.toks) (fun _ _ q => Heap.get?_push_of_some _ q) (Nat.le_refl _) (dt_empty s.heap I.big)
  have hall : ([some k] : List (Option Expr)).all (·.isSome) = true := rfl
  have run := (pps_cons (pos := pos) hk hv (pps_nil (X := X) (pos := pos))).run pins _ σ _ (fun ps H2 => ∃ (x y : V) (b : Addr) (ks : List Key), ps = [(x, y)] ∧ x = .ref b ∧ H2 b = some (.tup (ks.map kV)) ∧ H2 s.heap.objs.size = some (.dT []) ∧ Q (.ref s.heap.objs.size) (upd H2 s.heap.objs.size (.dT [(ks, y)]))) I1 (by
    have z := q _ hn
    have key : tPairs [(tk, tv)] σ (upd H s.heap.objs.size (.dT [])) (fun ps H2 => ∃ (x y : V) (b : Addr) (ks : List Key), ps = [(x, y)] ∧ x = .ref b ∧ H2 b = some (.tup (ks.map kV)) ∧ H2 s.heap.objs.size = some (.dT []) ∧ Q (.ref s.heap.objs.size) (upd H2 s.heap.objs.size (.dT [(ks, y)])))
        = tk σ (upd H s.heap.objs.size (.dT [])) (fun x H1 => tv σ H1 fun y H2 => ∃ (x' y' : V) (b : Addr) (ks : List Key), [(x, y)] = [(x', y')] ∧ x' = .ref b ∧ H2 b = some (.tup (ks.map kV)) ∧ H2 s.heap.objs.size = some (.dT []) ∧ Q (.ref s.heap.objs.size) (upd H2 s.heap.objs.size (.dT [(ks, y')]))) := rfl
    rw [key]
    have e : (fun (x : V) (H1 : Hp) => tv σ H1 fun y H2 => ∃ (b : Addr) (ks : List Key), x = .ref b ∧ H2 b = some (.tup (ks.map kV)) ∧ H2 s.heap.objs.size = some (.dT []) ∧ Q (.ref s.heap.objs.size) (upd H2 s.heap.objs.size (.dT [(ks, y)])))
        = (fun x H1 => tv σ H1 fun y H2 => ∃ (x' y' : V) (b : Addr) (ks : List Key), [(x, y)] = [(x', y')] ∧ x' = .ref b ∧ H2 b = some (.tup (ks.map kV)) ∧ H2 s.heap.objs.size = some (.dT []) ∧ Q (.ref s.heap.objs.size) (upd H2 s.heap.objs.size (.dT [(ks, y')]))) := by
      funext x H1
      congr 1
      funext y H2
      refine propext ⟨fun ⟨b, ks, h1, h2⟩ => ⟨x, y, b, ks, rfl, h1, h2⟩, fun ⟨x', y', b, ks, h0, h1, h2⟩ => ?_⟩
      cases h0
      exact ⟨b, ks, h1, h2⟩
    rw [← e]
    exact z)
  have hz : (evalEachOpt [some k] X.env).zip ((evalEach [v] X.env).map fun v => do let x ← v; standAt pos; pure x) = (pairTrees [some k] [v] X.env pos).map fun p => (some p.1, p.2) := zip_pairTrees [some k] [v] X.env pos rfl rfl
  have hlen : (pairTrees [some k] [v] X.env pos).length = 1 := pairTrees_length [some k] [v] X.env pos rfl rfl
  have h0 : pairTrees [some k] [v] X.env pos ≠ [] := fun z => by
    rw [z] at hlen
    cases hlen
  rw [arm_eval_Dict, hz, dictDisplay_pairs _ h0 (by rw [hlen]; decide)]
  refine wpAny_bind (wpAny_standAt (wpAny_bind (wpAny_subDictH (knd := tupleKind (mixKind X.prog X.w)) (Q := fun d s' => wpAny (model X.prog X.w) X.A (pure (Value.ref d)) (EP X pins σ Q) X.xe s') (Nat.lt_of_succ_lt hu) (by rw [hlen]; decide) (thn run fun ws s2 ⟨ps, H2, I2, rel, x, y, b, ks, ep, ex, eb, ed, q2⟩ => ?_))))
  subst ep ex
  cases rel with
  | @cons p0 w0 ps0 ws0 rp r1 =>
    cases r1
    obtain ⟨wk, wv⟩ := w0
    obtain ⟨rk, rv⟩ := rp
    have rk' : wk = Value.ref b := rk
    subst rk'
    have hkey := key_of I2.hok eb
    obtain ⟨z, hd, xs0, r0, dd⟩ := dt_of I2.hok ed
    cases r0
    refine ⟨[(ks, b, wv)], ⟨rfl, rfl, hkey, True.intro⟩, dd, fun h' tk' dd' hs => wpAny_pure ⟨.ref s.heap.objs.size, _, ?_, rfl, q2⟩⟩
    obtain ⟨o, es, ep, ho, h2, h3, h4, _, h5⟩ := dd'
    refine d_write (t' := tk') I2 (by rw [ed]; exact True.intro) hs ⟨o, ho⟩ ⟨by show 1 ≤ sizeLine; decide, hd, [(ks, b, wv)], .cons ⟨rfl, ?_, rv⟩ .nil, o, es, ep, ho, h2, h3, h4, h5⟩
    show upd H2 s.heap.objs.size (.dT [(ks, y)]) b = some (.tup (ks.map kV))
    rw [upd_ne (ne_of eb ed fun z => by cases z)]
    exact eb
/-! ### < and <= of tuples of texts -/
def ltS (x y : Str) : Bool := decide (x.cps.toList < y.cps.toList)
def ltP : List Str → List Str → Bool
  | [], [] => false
  | [], _ :: _ => true
  | _ :: _, [] => false
  | x :: xs, y :: ys => if x = y then ltP xs ys else ltS x y
def leP : List Str → List Str → Bool
  | [], _ => true
  | _ :: _, [] => false
  | x :: xs, y :: ys => if x = y then leP xs ys else !ltS y x
theorem firstLt_ltP : ∀ xs ys : List Str, PySem.SeqAt.firstLt (fun j => decide (xs.getD j Str.empty = ys.getD j Str.empty)) (fun j => ltS (xs.getD j Str.empty) (ys.getD j Str.empty)) (decide (xs.length < ys.length)) (List.range (min xs.length ys.length)) = ltP xs ys
  | [], [] => rfl
  | [], y :: ys => by
    show PySem.SeqAt.firstLt _ _ _ (List.range (min 0 (ys.length + 1))) = true
    rw [Nat.zero_min]
    show decide (0 < ys.length + 1) = true
    exact decide_eq_true (Nat.succ_pos _)
  | x :: xs, [] => by
    show PySem.SeqAt.firstLt _ _ _ (List.range (min (xs.length + 1) 0)) = false
    rw [Nat.min_zero]
    show decide (xs.length + 1 < 0) = false
    exact decide_eq_false (Nat.not_lt_zero _)
  | x :: xs, y :: ys => by
    have ih := firstLt_ltP xs ys
    have e : min (x :: xs).length (y :: ys).length = min xs.length ys.length + 1 := by
      show min (xs.length + 1) (ys.length + 1) = _
      omega
    rw [e, List.range_succ_eq_map]
    by_cases h : x = y
    · rw [PySem.SeqAt.firstLt_yes (by show decide (x = y) = true; exact decide_eq_true h), PySem.W.firstLt_map]
      have l : decide ((x :: xs).length < (y :: ys).length) = decide (xs.length < ys.length) := by
        show decide (xs.length + 1 < ys.length + 1) = _
        exact decide_eq_decide.mpr (by omega)
      rw [l]
      show _ = (if x = y then ltP xs ys else ltS x y)
      rw [if_pos h, ← ih]
      rfl
    · rw [PySem.SeqAt.firstLt_no (by show decide (x = y) = false; exact decide_eq_false h)]
      show ltS x y = (if x = y then ltP xs ys else ltS x y)
      rw [if_neg h]
theorem lexAt_shift (e r : Nat → Bool) (z : Bool) : ∀ (k i : Nat), Ob.lexAt e r z (i + 1) k = Ob.lexAt (fun j => e (j + 1)) (fun j => r (j + 1)) z i k
  | 0, i => rfl
  | k + 1, i => by
    rw [Ob.lexAt_succ, Ob.lexAt_succ, lexAt_shift e r z k (i + 1)]
theorem lexAt_leP : ∀ xs ys : List Str, Ob.lexAt (fun j => decide (xs.getD j Str.empty = ys.getD j Str.empty)) (fun j => !ltS (ys.getD j Str.empty) (xs.getD j Str.empty)) (decide (xs.length ≤ ys.length)) 0 (min xs.length ys.length) = leP xs ys
  | [], ys => by
    show Ob.lexAt _ _ _ 0 (min 0 ys.length) = true
    rw [Nat.zero_min]
    show decide (0 ≤ ys.length) = true
    exact decide_eq_true (Nat.zero_le _)
  | x :: xs, [] => by
    show Ob.lexAt _ _ _ 0 (min (xs.length + 1) 0) = false
    rw [Nat.min_zero]
    show decide (xs.length + 1 ≤ 0) = false
    exact decide_eq_false (by omega)
  | x :: xs, y :: ys => by
    have ih := lexAt_leP xs ys
    have e : min (x :: xs).length (y :: ys).length = min xs.length ys.length + 1 := by
      show min (xs.length + 1) (ys.length + 1) = _
      omega
    rw [e, Ob.lexAt_succ]
    show (if decide (x = y) = true then _ else !ltS y x) = (if x = y then leP xs ys else !ltS y x)
    by_cases h : x = y
    · rw [if_pos (decide_eq_true h), if_pos h, ← ih, lexAt_shift]
      have l : decide ((x :: xs).length ≤ (y :: ys).length) = decide (xs.length ≤ ys.length) := by
        show decide (xs.length + 1 ≤ ys.length + 1) = _
        exact decide_eq_decide.mpr (by omega)
      rw [l]
      rfl
    · rw [if_neg (by rw [decide_eq_false h]; exact Bool.false_ne_true), if_neg h]
def rLtS (K : PySem.W.Frag) : R2 := fun x y H Q => ∃ (a b : Addr) (ns ms : List Str), x = .ref a ∧ y = .ref b ∧ SqT K H a (ns.map V.str) ∧ SqT K H b (ms.map V.str) ∧ Q (.bl (ltP ns ms)) H
def rLeS (K : PySem.W.Frag) : R2 := fun x y H Q => ∃ (a b : Addr) (ns ms : List Str), x = .ref a ∧ y = .ref b ∧ SqT K H a (ns.map V.str) ∧ SqT K H b (ms.map V.str) ∧ Q (.bl (leP ns ms)) H
theorem strs_at : ∀ {ns : List Str} {us : List Value}, Vals (ns.map V.str) us → us.length = ns.length ∧ ∀ j (h : j < us.length), ∃ t, us[j] = .str (ns.getD j Str.empty) t
  | [], _, r => by
    cases r
    exact ⟨rfl, fun j h => absurd h (Nat.not_lt_zero j)⟩
  | x :: xs, _, r => by
    cases r with
    | cons r0 r1 =>
      obtain ⟨h1, h2⟩ := strs_at r1
      obtain ⟨t, e⟩ := r0
      refine ⟨by simp [h1], fun j h => ?_⟩
      cases j with
      | zero => exact ⟨t, e⟩
      | succ j =>
        obtain ⟨t', e'⟩ := h2 j (by simpa using h)
        exact ⟨t', by simpa using e'⟩
theorem eq_str_at {A : Around} {s : Shared} (x y : Str) (t u : Tok) : PySem.SeqAt.EqAt A s (.str x t) (.str y u) (decide (x = y)) := by
  have z : (x == y) = decide (x = y) := by
    by_cases q : x = y
    · rw [decide_eq_true q]; exact beq_iff_eq.mpr q
    · rw [decide_eq_false q]; exact beq_eq_false_iff_ne.mpr q
  rw [← z]
  exact PySem.SeqAt.EqAt.str_str x t y u
section
variable {X : Cx}
theorem op_ltS (hu : X.A.units < cLine) : OpR X (compareOp .Lt) (rLtS X.K) := by
  intro pins s σ H x y v u Q I rx ry h
  obtain ⟨a, b, ns, ms, rfl, rfl, ha, hb, q⟩ := h
  cases rx
  cases ry
  obtain ⟨its, r1, p1, _⟩ := I.tuple ha
  obtain ⟨its2, r2, p2, _⟩ := I.tuple hb
  obtain ⟨l1, at1⟩ := strs_at r1
  obtain ⟨l2, at2⟩ := strs_at r2
  have R := PySem.SeqAt.RcLt.tuples (A := X.A) (s := s) (e := fun j => decide (ns.getD j Str.empty = ms.getD j Str.empty)) (r := fun j => ltS (ns.getD j Str.empty) (ms.getD j Str.empty)) p1 p2 hu (fun j h1 h2 => by
    obtain ⟨t, et⟩ := at1 j (by simpa using h1)
    obtain ⟨t', et'⟩ := at2 j (by simpa using h2)
    have e1 : its.toArray[j] = its[j]'(by simpa using h1) := by simp
    have e2 : its2.toArray[j] = its2[j]'(by simpa using h2) := by simp
    rw [e1, e2, et, et']
    exact eq_str_at _ _ _ _) (fun j h1 h2 _ => by
    obtain ⟨t, et⟩ := at1 j (by simpa using h1)
    obtain ⟨t', et'⟩ := at2 j (by simpa using h2)
    have e1 : its.toArray[j] = its[j]'(by simpa using h1) := by simp
    have e2 : its2.toArray[j] = its2[j]'(by simpa using h2) := by simp
    rw [e1, e2, et, et']
    exact fun prog w E Q q => PyProof.Rows.lt_str q)
  rw [List.size_toArray, List.size_toArray, l1, l2, firstLt_ltP] at R
  have z : wpAny (model X.prog X.w) X.A (compareOp .Lt (.ref a) (.ref b)) (EP X pins σ Q) X.xe s := R X.prog X.w X.xe (EP X pins σ Q) ⟨.bl _, H, I, rfl, q⟩
  exact z
theorem op_leS (hu : X.A.units < cLine) : OpR X (compareOp .LtE) (rLeS X.K) := by
  intro pins s σ H x y v u Q I rx ry h
  obtain ⟨a, b, ns, ms, rfl, rfl, ha, hb, q⟩ := h
  cases rx
  cases ry
  obtain ⟨its, r1, p1, _⟩ := I.tuple ha
  obtain ⟨its2, r2, p2, _⟩ := I.tuple hb
  obtain ⟨l1, at1⟩ := strs_at r1
  obtain ⟨l2, at2⟩ := strs_at r2
  have R := Ob.RcOp.tuples_le (A := X.A) (s := s) (e := fun j => decide (ns.getD j Str.empty = ms.getD j Str.empty)) (r := fun j => !ltS (ms.getD j Str.empty) (ns.getD j Str.empty)) p1 p2 hu (fun j h1 h2 => by
    obtain ⟨t, et⟩ := at1 j (by simpa using h1)
    obtain ⟨t', et'⟩ := at2 j (by simpa using h2)
    have e1 : its.toArray[j] = its[j]'(by simpa using h1) := by simp
    have e2 : its2.toArray[j] = its2[j]'(by simpa using h2) := by simp
    rw [e1, e2, et, et']
    exact eq_str_at _ _ _ _) (fun j h1 h2 _ => by
    obtain ⟨t, et⟩ := at1 j (by simpa using h1)
    obtain ⟨t', et'⟩ := at2 j (by simpa using h2)
    have e1 : its.toArray[j] = its[j]'(by simpa using h1) := by simp
    have e2 : its2.toArray[j] = its2[j]'(by simpa using h2) := by simp
    rw [e1, e2, et, et']
    intro prog w E Q q
    exact PySem.P.le_str q)
  rw [List.size_toArray, List.size_toArray, l1, l2, lexAt_leP] at R
  have z : wpAny (model X.prog X.w) X.A (compareOp .LtE (.ref a) (.ref b)) (EP X pins σ Q) X.xe s := R X.prog X.w X.xe (EP X pins σ Q) ⟨.bl _, H, I, rfl, q⟩
  exact z
/-! ### x in (a, b, ..), data at any depth -/
def rInTD (K : PySem.W.Frag) : R2 := fun x y H Q => ∃ (d : PyData) (ds : List PyData), Dp K H x d ∧ Dp K H y (.tuple ds) ∧ SeqAt.shaped d = true ∧ SeqAt.shaped (.tuple ds) = true ∧ Q (.bl (ds.any fun z => PyData.eqv z d)) H
theorem op_inTD (hu : X.A.units + 65 < cLine) : OpR X (compareOp .In) (rInTD X.K) := by
  intro pins s σ H x y v u Q I rx ry h
  obtain ⟨d, ds, hd, he, sd, se, q⟩ := h
  obtain ⟨as, r1⟩ := Dp.reads I d x v hd rx
  obtain ⟨bs, r2⟩ := Dp.reads I (.tuple ds) y u he ry
  exact SeqAt.in_tuple_reads r2 r1 (SeqAt.canLay_of_shaped se) (SeqAt.canLay_of_shaped sd) (room_in_shaped sd hu) ⟨.bl _, H, I, rfl, q⟩
end
/-! ### set(list of ints), so that sorted of it can be told -/
section
variable {P : Program} {w : World} {A : Around} {E : Value → Shared → Prop} {s : Shared}
/-- the empty set that is being filled -/
abbrev newSet (w : World) : Obj := { cls := .type "set", dict := none, data := .set #[] 0 (.fresh 0 0 (!w.params.followText "set-order")) }
set_option maxRecDepth 100000 in
theorem call_set_listI {l : Addr} {items : Array Value} (ns : List Int) {Q : Value → Shared → Prop} (hh : A.handled = none) (hl : s.heap.IsList l items) (hit : IntsAre items.toList ns) (hb : ns.length + 1 < scanBound)
    (h : ∀ (h' : Heap) (tk c : Nat), SetR w h' s.heap.objs.size (fun j => decide (j ∈ ns)) c → c ≤ ns.length → (∀ b o, s.heap.get? b = some o → h'.get? b = some o) → Q (.ref s.heap.objs.size) { s with heap := h', toks := tk }) :
    wpAny (model P w) A (call (.type "set") [.ref l]) Q E s := by
  have hisz : items.size = ns.length := by
    rw [← IntsAre.length hit, Array.length_toList]
  obtain ⟨c, tl, hmro⟩ := F.called_set.mro
  have f1 := F.called_set.made
  have f2 := F.called_set.sub
  have f3 := F.called_set.notType
  have f4 := F.called_set.canCreate
  have f5 := F.typeCall_set_1 (.ref l)
  refine wpAny_call (codeAny_of_tree ?_)
  show wpAny _ _ (callAny (.type "set") _) _ _ _
  refine wpAny_pure ⟨Code.quiet_builtin _ (by decide +kernel), codeAny_builtin F.entry_type_call ?_⟩
  rw [Around.under_plain (weight_type_call_type "set" [.ref l] []) rfl]
  repeat (any_goals (first | assumption | wp_step))
  refine codeAny_mono (code_set_led1 (.ref l) (E := E) (Q₁ := fun obj s₁ => obj = .ref s.heap.objs.size ∧ s₁ = { s with heap := s.heap.push (newSet w) }) ⟨rfl, rfl⟩) fun r s₁ hr => ?_
  cases r with
  | error e => exact hr
  | ok fl =>
    cases fl with
    | next => exact hr.elim
    | brk => exact hr.elim
    | cont => exact hr.elim
    | ret obj =>
      obtain ⟨rfl, rfl⟩ := hr
      have hS : (s.heap.push (newSet w)).get? s.heap.objs.size = some (newSet w) := Heap.get?_push_size _ rfl
      have hT : Shared.TypeIs { s with heap := s.heap.push (newSet w) } (.ref s.heap.objs.size) "set" := ⟨_, hS, rfl⟩
      have hli := F.called_set.init.lookup
      have hbi := F.called_set.init.bind (.ref s.heap.objs.size)
      repeat (any_goals (first | assumption | wp_step))
      refine codeAny_mono (codeAny_call_builtin (R := wants (fun r s₂ => r = .none ∧ ∃ h' tk c, s₂ = { s with heap := h', toks := tk } ∧ SetR w h' s.heap.objs.size (fun j => decide (j ∈ ns)) c ∧ c ≤ ns.length ∧
          (∀ b o, s.heap.get? b = some o → h'.get? b = some o)) E) F.called_set.init.plain F.entry_set_init (check_set_init_1 hT ?_)) fun r₂ s₂ hr₂ => ?_
      · obtain ⟨⟨ocls, odict, odata, oslots⟩, hol, hcl, nl, hdl⟩ := hl
        simp only at hcl hdl
        subst hcl; subst hdl
        have hl1 : (s.heap.push (newSet w)).IsList l items := ⟨_, Heap.get?_push_of_some _ hol, rfl, nl, rfl⟩
        have hol' : (s.heap.push (newSet w)).get? l = some { cls := .type "list", dict := odict, data := .seq items nl, slots := oslots } := Heap.get?_push_of_some _ hol
        have g1 : isSubtype (.type "list") (.type "set") = pure false := PySem.F.sub_list_set
        have g2 : isSubtype (.type "list") (.type "frozenset") = pure false := PySem.F.sub_list_frozenset
        have g3 : (Value.type "list" == Value.type "dict") = false := by decide
        unfold Builtin.«set.__init__» noKeywords Builtin.Frozenset.updateFrom
        generalize hPI : pyIter = PI
        wp_walk
        subst hPI
        refine wpAny_pyIter_list hl1 (wpAny_bind (wpAny_runValue ?_))
        have hlS : l < s.heap.objs.size := Heap.lt_size hol
        have h3 : A.in1.in1.in1.handled = none := by simp [hh]
        have hz1 : (s.heap.push (newSet w)).objs.size = s.heap.objs.size + 1 := Heap.size_push ..
        have hneI : l ≠ (s.heap.push (newSet w)).objs.size := by
          rw [hz1]
          exact Nat.ne_of_lt (Nat.lt_succ_of_lt hlS)
        have hSf : s.heap.objs.size ∉ [(s.heap.push (newSet w)).objs.size, l] := by
          rw [hz1]
          simp only [List.mem_cons, List.not_mem_nil, or_false, not_or]
          exact ⟨Nat.ne_of_lt (Nat.lt_succ_self _), Nat.ne_of_gt hlS⟩
        have hval : ∀ (i : Nat) (v : Value), items[i]? = some v → ∃ k t, ns[i]? = some k ∧ v = .int k t := fun i v hv => by
          have hi : i < ns.length := by rw [← hisz]; exact (Array.getElem?_eq_some_iff.mp hv).1
          obtain ⟨t, e⟩ := PyProof.Rows.IntsAre.int_at hit i v (by rw [Array.getElem?_toList]; exact hv)
          refine ⟨ns[i], t, List.getElem?_eq_getElem hi, ?_⟩
          rw [e, List.getD_eq_getElem?_getD, List.getElem?_eq_getElem hi] <;> rfl
        refine set_update_ints ((Walks.list h3 _ l hneI items).toS) s.heap.objs.size hSf ns hisz hb hval (items.size - 0) 0 _ (by omega) (Nat.zero_le _)
          ⟨⟨_, Heap.get?_push_size _ rfl, rfl, rfl⟩, (hl1.push _)⟩ ⟨0, Nat.le_refl 0, setR_new_at (Heap.get?_push_of_some _ hS)⟩ ?_
        intro s' c' hm hc' hS'
        obtain ⟨h', gg, dd, tk', oo⟩ := s'
        have eg : gg = s.gens := hm.gens
        have ed : dd = s.drawn := hm.drawn
        have eo : oo = s.os := hm.os
        subst eg; subst ed; subst eo
        rw [hisz] at hc'
        show wpAny _ _ _ _ _ _
        refine wpAny_pure ?_
        show wpAny _ _ (ret Value.none) _ _ _
        refine wpAny_pure ⟨rfl, h', tk', c', rfl, hS', hc', fun b o e => ?_⟩
        have hb0 : b < s.heap.objs.size := Heap.lt_size e
        refine hm.heap b o ?_ (Heap.get?_push_of_some _ (Heap.get?_push_of_some _ e))
        simp only [List.mem_cons, List.not_mem_nil, or_false, not_or]
        exact ⟨Nat.ne_of_lt hb0, by rw [hz1]; exact Nat.ne_of_lt (Nat.lt_succ_of_lt hb0)⟩
      · cases r₂ with
        | error e => exact hr₂
        | ok fl₂ =>
          cases fl₂ with
          | next => exact hr₂.elim
          | brk => exact hr₂.elim
          | cont => exact hr₂.elim
          | ret r =>
            obtain ⟨rfl, h', tk, c', rfl, hS', hc', hk'⟩ := hr₂
            repeat (any_goals (first | assumption | wp_step))
            exact h _ _ _ hS' hc' hk'
end
def rSetL (K : PySem.W.Frag) (w : World) : List V → Hp → VK → Prop := fun xs H Q => ∃ (l : Addr) (ns : List Int), xs = [.ref l] ∧ SqL K H l (ns.map V.int) ∧ ns.length < 1000 ∧ ∀ (p : Addr) (c : Nat), H p = none → c ≤ ns.length → Q (.ref p) (upd H p (SetO w p (fun j => decide (j ∈ ns)) c))
theorem cr_setL {X : Cx} (hc : X.calm = true) : CallR X (.type "set") (rSetL X.K X.w) := by
  intro pins s σ H xs us Q I r h
  obtain ⟨l, ns, rfl, hl, h1000, q⟩ := h
  cases r with
  | cons r0 r1 =>
    cases r1
    cases r0
    obtain ⟨its, rv, il, _⟩ := I.list hl
    have hit : IntsAre its.toArray.toList ns := intsAre_of rv
    refine call_set_listI ns (I.ok.hd hc) il.isList hit (by unfold scanBound; omega) fun h' tk c R hcl hk => ?_
    have hn : H s.heap.objs.size = none := I.hok.fresh (Nat.le_refl _)
    exact ⟨.ref s.heap.objs.size, _, I.laid (t' := tk) hk (Nat.le_refl _) (setO_new R), rfl, q _ c hn hcl⟩
end KM
end L2
set_option Elab.async false
set_option linter.all false
set_option maxRecDepth 100000
set_option maxHeartbeats 4000000
/-! k92: what all the defs ask of the top; calls of defs by their name; data made of tuples; what is kept -/
namespace L2
namespace KB
open PySem PySem.Spec PyProof.Rows LamX
abbrev top (i : Nat) : Stmt := _root_.KT.top i
def bltNames : List Str := ["all", "bool", "dict", "enumerate", "int", "isinstance", "len", "list", "min", "range", "repr", "set", "sorted", "str", "sum", "tuple", "zip"]
def intNames : List (Str × Int) := [("MOST_NODES", 60), ("MOST_DEEP", 6), ("MOST_NUMBER", 99), ("MOST_LETTERS", 8), ("MOST_FIGURES", 4)]
def strNames : List (Str × Str) := [("LETTERS", "abcdefghijklmnopqrstuvwxyz"), ("FILE", "file"), ("FOLDER", "folder"), ("JOINS", "joins"), ("ROOT", "-"), ("SLASH", "/"), ("WORD", "word"), ("INDEX", "index"), ("FIGURES", "0123456789")]
structure Tx (mg : Str → Option Value) : Prop where
  bl : ∀ x ∈ bltNames, mg x = none
  ci : ∀ p ∈ intNames, ∃ t, mg p.1 = some (.int p.2 t)
  cs : ∀ p ∈ strNames, ∃ t, mg p.1 = some (.str p.2 t)
section
variable {mg : Str → Option Value}
theorem Tx.b (T : Tx mg) (x : Str) (h : bltNames.contains x = true := by decide +kernel) : mg x = none := T.bl x (by simpa using h)
end
section
variable {X : Cx}
theorem pe_gi {x : Str} {n : Int} {pos : Pos} (T : Tx X.mg) (hg : Gl X x) (h : intNames.contains (x, n) = true) (hd : (x == ("__debug__" : Str)) = false := by decide) : PE X (.Name x pos) (tC (.int n)) := by
  obtain ⟨t, e⟩ := T.ci (x, n) (by simpa using h)
  exact pe_glob hg e ⟨t, rfl⟩ hd
theorem pe_gs {x z : Str} {pos : Pos} (T : Tx X.mg) (hg : Gl X x) (h : strNames.contains (x, z) = true) (hd : (x == ("__debug__" : Str)) = false := by decide) : PE X (.Name x pos) (tC (.str z)) := by
  obtain ⟨t, e⟩ := T.cs (x, z) (by simpa using h)
  exact pe_glob hg e ⟨t, rfl⟩ hd
end
/-! ### a def of the top, by its name -/
def Ca (CX : CXT) (P : Program) (w : World) (K : PySem.W.Frag) (mg : Str → Option Value) (base : Heap) (k : Nat) (x : Str) (ps : List Str) (sp : Sp) : Prop :=
  ∃ (f : Addr) (fd : FuncData), FnOk P w K mg base CX k f fd ps sp ∧ mg x = some (.ref f) ∧ PySem.W.keepIn K (.ref f) = true ∧ Binds K fd ps []
theorem Ca.mono {CX : CXT} {P : Program} {w : World} {K : PySem.W.Frag} {mg : Str → Option Value} {base : Heap} {k j : Nat} {x : Str} {ps : List Str} {sp : Sp} (c : Ca CX P w K mg base k x ps sp) (h : k ≤ j) : Ca CX P w K mg base j x ps sp := by
  obtain ⟨f, fd, F, r⟩ := c
  exact ⟨f, fd, F.mono h, r⟩
/-- where a def of the top stands -/
structure At (K : PySem.W.Frag) (mg : Str → Option Value) (x : Str) (st : Stmt) (f : Addr) (fd : FuncData) : Prop where
  fn : Fun K x x st f fd
  gl : mg x = some (.ref f)
theorem At.ca {CX : CXT} {P : Program} {w : World} {K : PySem.W.Frag} {mg : Str → Option Value} {base : Heap} {k : Nat} {x : Str} {st : Stmt} {f : Addr} {fd : FuncData} {ps : List Str} {sp : Sp} (a : At K mg x st f fd) (F : FnOk P w K mg base CX k f fd ps sp) (b : Binds K fd ps []) : Ca CX P w K mg base k x ps sp :=
  ⟨f, fd, F, a.gl, a.fn.kp, b⟩
section
variable {X : Cx} {k j : Nat} {ps : List Str} {sp : Sp} {x : Str} {p pos : Pos} {e : Expr} {es : List Expr} {t : TA}
theorem pe_ca (c : Ca CX0 X.prog X.w X.K X.mg X.base k x ps sp) (hr : Room k X.A) (hg : Gl X x) (ha : PA X (e :: es) t) (hdb : (x == ("__debug__" : Str)) = false := by decide)
    (he : starEach (e :: es) X.env = (false, eval e X.env) :: starEach es X.env := by rfl) (hpl : (backTo pos (starEach es X.env)).any (·.1) = false := by rfl) : PE X (.Call (.Name x p) (e :: es) [] pos) (tCall sp [] E0 t) := by
  obtain ⟨f, fd, F, m, kp, b⟩ := c
  exact pe_call F hr hg m kp b .nil pass0 ha hdb he hpl
theorem pe_caX {E : St → XK} (c : Ca (L2.CX X.prog X.w) X.prog X.w X.K X.mg X.base k x ps sp) (hr : Room k X.A) (hg : Gl X x) (hx : ∀ σ, PassesAt (L2.CX X.prog X.w) X σ (E σ)) (ha : PA X (e :: es) t) (hdb : (x == ("__debug__" : Str)) = false := by decide)
    (he : starEach (e :: es) X.env = (false, eval e X.env) :: starEach es X.env := by rfl) (hpl : (backTo pos (starEach es X.env)).any (·.1) = false := by rfl) : PE X (.Call (.Name x p) (e :: es) [] pos) (tCallS sp E t) := by
  obtain ⟨f, fd, F, m, kp, b⟩ := c
  exact pe_callS F hr hg m kp b hx ha hdb he hpl
end
/-! ### what is kept -/
theorem ext_same {H H' : Hp} (s : Same H H') : ExtN H H' := fun b o e _ => s b o e
theorem same_upd {H : Hp} {p : Addr} {o : HO} (h : H p = none) : Same H (upd H p o) := fun b u e => by
  rw [upd_ne (ne_of_none e h)]
  exact e
theorem _root_.L2.Same.upd {H H' : Hp} {p : Addr} {o : HO} (s : Same H H') (h : H' p = none) : Same H (L2.upd H' p o) := s.trans (same_upd h)
theorem _root_.L2.Same.tup {K : PySem.W.Frag} {H H' : Hp} {a : Addr} {xs : List V} (e : Same H H') (h : SqT K H a xs) : SqT K H' a xs := by
  rcases h with (h | ⟨o, h⟩) | h
  · exact .inl (.inl (e _ _ h))
  · exact .inl (.inr ⟨o, e _ _ h⟩)
  · exact .inr h
/-- what is a tuple stays one -/
def TupK (H H' : Hp) : Prop := ∀ b xs, H b = some (.tup xs) → H' b = some (.tup xs)
theorem TupK.refl (H : Hp) : TupK H H := fun _ _ h => h
theorem TupK.trans {H H1 H2 : Hp} (a : TupK H H1) (b : TupK H1 H2) : TupK H H2 := fun c o h => b c o (a c o h)
theorem tupK_ext {H H' : Hp} (e : ExtN H H') : TupK H H' := fun b xs h => e b _ h (fun ps z => by cases z)
theorem tupK_same {H H' : Hp} (e : Same H H') : TupK H H' := fun b xs h => e b _ h
theorem extN_refl (H : Hp) : ExtN H H := fun _ _ e _ => e
end KB
end L2
set_option Elab.async false
set_option linter.all false
set_option maxRecDepth 100000
set_option maxHeartbeats 4000000
/-! k92: trees: the plain functions over them, where they stand in the heap -/
namespace L2
namespace KN
open PySem PySem.Spec PyProof.Rows LamX KB
mutual
inductive Node where
  | file (n : Int)
  | folder (es : Ents)
inductive Ents where
  | nil
  | cons (x : Str) (n : Node) (r : Ents)
end
def Ents.toList : Ents → List (Str × Node)
  | .nil => []
  | .cons x n r => (x, n) :: r.toList
def Ents.ofList : List (Str × Node) → Ents
  | [] => .nil
  | (x, n) :: r => .cons x n (Ents.ofList r)
theorem toList_ofList : ∀ l : List (Str × Node), (Ents.ofList l).toList = l
  | [] => rfl
  | (x, n) :: r => by
    show (x, n) :: (Ents.ofList r).toList = _
    rw [toList_ofList r]
mutual
def Node.depth : Node → Nat
  | .file _ => 0
  | .folder es => es.depth + 1
def Ents.depth : Ents → Nat
  | .nil => 0
  | .cons _ n r => max n.depth r.depth
end
theorem depth_mem : ∀ {es : Ents} {e : Str × Node}, e ∈ es.toList → e.2.depth ≤ es.depth
  | .nil, e, h => by cases h
  | .cons x n r, e, h => by
    show e.2.depth ≤ max n.depth r.depth
    rcases List.mem_cons.mp h with rfl | h
    · exact Nat.le_max_left _ _
    · exact Nat.le_trans (depth_mem h) (Nat.le_max_right _ _)
abbrev sFile : Str := "file"
abbrev sFolder : Str := "folder"
mutual
def Node.data : Node → PyData
  | .file n => .tuple [.str sFile, .int n]
  | .folder es => .tuple [.str sFolder, .tuple es.data]
def Ents.data : Ents → List PyData
  | .nil => []
  | .cons x n r => .tuple [.str x, n.data] :: r.data
end
mutual
def Node.numbers : Node → List Int
  | .file n => [n]
  | .folder es => es.numbers
def Ents.numbers : Ents → List Int
  | .nil => []
  | .cons _ n r => n.numbers ++ r.numbers
end
mutual
def Node.count : Node → Nat
  | .file _ => 0
  | .folder es => es.count
def Ents.count : Ents → Nat
  | .nil => 0
  | .cons _ n r => (1 + n.count) + r.count
end
/-! ### the plain functions of the checks -/
abbrev letters : Str := "abcdefghijklmnopqrstuvwxyz"
def isWordB (z : Str) : Bool := decide (1 ≤ z.length) && decide (z.length ≤ 8) && z.cps.toList.all fun c => decide (c ∈ letters.cps.toList)
def isNumberB (n : Int) : Bool := decide (0 ≤ n) && decide (n ≤ 99)
def risingB {α : Type} (lt : α → α → Bool) : List α → Bool
  | a :: b :: r => lt a b && risingB lt (b :: r)
  | _ => true
def ltStr (a b : Str) : Bool := decide (a.cps.toList < b.cps.toList)
def ltInt (a b : Int) : Bool := decide (a < b)
def isNodeB : Nat → Node → Bool
  | _, .file n => isNumberB n
  | 0, .folder es => (es.toList.all fun e => isWordB e.1 && false) && risingB ltStr (es.toList.map (·.1))
  | d + 1, .folder es => (es.toList.all fun e => isWordB e.1 && isNodeB d e.2) && risingB ltStr (es.toList.map (·.1))
def isFolder : Node → Bool
  | .file _ => false
  | .folder _ => true
abbrev Pairs := List (Int × Str)
/-- sorted(set(..)), the plain way -/
def insI (n : Int) : List Int → List Int
  | [] => [n]
  | m :: r => if n < m then n :: m :: r else if n = m then m :: r else m :: insI n r
def sortSet : List Int → List Int
  | [] => []
  | n :: r => insI n (sortSet r)
def isTreeB (root : Node) (ps : Pairs) : Bool :=
  isNodeB 6 root && isFolder root && decide (root.count ≤ 60) && ((ps.all fun p => isNumberB p.1 && isWordB p.2) && risingB ltInt (ps.map (·.1))) && decide (ps.map (·.1) = sortSet root.numbers)
/-! ### where they stand -/
mutual
inductive NodeAt (H : Hp) : V → Node → Prop where
  | file {a : Addr} {n : Int} : H a = some (.tup [.str sFile, .int n]) → NodeAt H (.ref a) (.file n)
  | folder {a b : Addr} {items : List V} {es : Ents} : H a = some (.tup [.str sFolder, .ref b]) → H b = some (.tup items) → EntsAt H items es → NodeAt H (.ref a) (.folder es)
inductive EntsAt (H : Hp) : List V → Ents → Prop where
  | nil : EntsAt H [] .nil
  | cons {t : Addr} {x : Str} {v : V} {n : Node} {items : List V} {es : Ents} : H t = some (.tup [.str x, v]) → NodeAt H v n → EntsAt H items es → EntsAt H (.ref t :: items) (.cons x n es)
end
mutual
theorem NodeAt.keep {H H' : Hp} (k : TupK H H') : ∀ (n : Node) (v : V), NodeAt H v n → NodeAt H' v n
  | .file n, v, h => by
    cases h with
    | file e => exact .file (k _ _ e)
  | .folder es, v, h => by
    cases h with
    | folder e1 e2 a => exact .folder (k _ _ e1) (k _ _ e2) (EntsAt.keep k es _ a)
theorem EntsAt.keep {H H' : Hp} (k : TupK H H') : ∀ (es : Ents) (vs : List V), EntsAt H vs es → EntsAt H' vs es
  | .nil, vs, h => by
    cases h
    exact .nil
  | .cons x n r, vs, h => by
    cases h with
    | cons e a b => exact .cons (k _ _ e) (NodeAt.keep k n _ a) (EntsAt.keep k r _ b)
end
theorem EntsAt.len {H : Hp} : ∀ {vs : List V} {es : Ents}, EntsAt H vs es → vs.length = es.toList.length
  | _, _, .nil => rfl
  | _, _, .cons _ _ r => by
    show _ + 1 = _ + 1
    rw [EntsAt.len r]
theorem EntsAt.at_ {H : Hp} : ∀ {vs : List V} {es : Ents}, EntsAt H vs es → ∀ {i : Nat} {v : V}, vs[i]? = some v → ∃ (t : Addr) (x : Str) (u : V) (n : Node), v = .ref t ∧ es.toList[i]? = some (x, n) ∧ H t = some (.tup [.str x, u]) ∧ NodeAt H u n
  | _, _, .nil, i, v, h => by simp at h
  | _, _, @EntsAt.cons _ t x u n _ _ e a r, 0, v, h => by
    cases h
    exact ⟨t, x, u, n, rfl, rfl, e, a⟩
  | _, _, .cons e a r, i + 1, v, h => r.at_ (i := i) h
theorem EntsAt.snoc {H : Hp} {t : Addr} {x : Str} {u : V} {n : Node} (e : H t = some (.tup [.str x, u])) (a : NodeAt H u n) : ∀ {vs : List V} {l : List (Str × Node)}, EntsAt H vs (Ents.ofList l) → EntsAt H (vs ++ [.ref t]) (Ents.ofList (l ++ [(x, n)]))
  | vs, [], h => by
    cases h
    exact .cons e a .nil
  | vs, (y, m) :: l, h => by
    cases h with
    | cons e1 a1 r => exact .cons e1 a1 (EntsAt.snoc e a r)
mutual
theorem NodeAt.dp {K : PySem.W.Frag} {H : Hp} : ∀ (n : Node) (v : V), NodeAt H v n → Dp K H v n.data
  | .file n, v, h => by
    cases h with
    | file e => exact .tup (SqT.of e) (.cons (.str _) (.cons (.int _) .nil))
  | .folder es, v, h => by
    cases h with
    | folder e1 e2 a => exact .tup (SqT.of e1) (.cons (.str _) (.cons (.tup (SqT.of e2) (EntsAt.dp es _ a)) .nil))
theorem EntsAt.dp {K : PySem.W.Frag} {H : Hp} : ∀ (es : Ents) (vs : List V), EntsAt H vs es → DpAll K H vs es.data
  | .nil, vs, h => by
    cases h
    exact .nil
  | .cons x n r, vs, h => by
    cases h with
    | cons e a b => exact .cons (.tup (SqT.of e) (.cons (.str _) (.cons (NodeAt.dp n _ a) .nil))) (EntsAt.dp r _ b)
end
/-- the pairs (number, word) of a tree, the items of a tuple -/
inductive PairsAt (H : Hp) : List V → Pairs → Prop where
  | nil : PairsAt H [] []
  | cons {t : Addr} {n : Int} {z : Str} {items : List V} {ps : Pairs} : H t = some (.tup [.int n, .str z]) → PairsAt H items ps → PairsAt H (.ref t :: items) ((n, z) :: ps)
theorem PairsAt.keep {H H' : Hp} (k : TupK H H') : ∀ {vs : List V} {ps : Pairs}, PairsAt H vs ps → PairsAt H' vs ps
  | _, _, .nil => .nil
  | _, _, .cons e r => .cons (k _ _ e) (r.keep k)
theorem PairsAt.len {H : Hp} : ∀ {vs : List V} {ps : Pairs}, PairsAt H vs ps → vs.length = ps.length
  | _, _, .nil => rfl
  | _, _, .cons _ r => by
    show _ + 1 = _ + 1
    rw [PairsAt.len r]
theorem PairsAt.at_ {H : Hp} : ∀ {vs : List V} {ps : Pairs}, PairsAt H vs ps → ∀ {i : Nat} {v : V}, vs[i]? = some v → ∃ (t : Addr) (n : Int) (z : Str), v = .ref t ∧ ps[i]? = some (n, z) ∧ H t = some (.tup [.int n, .str z])
  | _, _, .nil, i, v, h => by simp at h
  | _, _, @PairsAt.cons _ t n z _ _ e r, 0, v, h => by
    cases h
    exact ⟨t, n, z, rfl, rfl, e⟩
  | _, _, .cons e r, i + 1, v, h => r.at_ (i := i) h
theorem PairsAt.snoc {H : Hp} {t : Addr} {n : Int} {z : Str} (e : H t = some (.tup [.int n, .str z])) : ∀ {vs : List V} {l : Pairs}, PairsAt H vs l → PairsAt H (vs ++ [.ref t]) (l ++ [(n, z)])
  | _, _, .nil => .cons e .nil
  | _, _, .cons e1 r => .cons e1 (r.snoc e)
theorem PairsAt.last {H : Hp} : ∀ {vs : List V} {ps : Pairs}, PairsAt H vs ps → ∀ {p : Int × Str}, ps.getLast? = some p → ∃ t : Addr, vs.getLast? = some (.ref t) ∧ H t = some (.tup [.int p.1, .str p.2])
  | _, _, .nil, p, h => by cases h
  | _, _, @PairsAt.cons _ t n z _ _ e .nil, p, h => by
    cases h
    exact ⟨t, rfl, e⟩
  | _, _, @PairsAt.cons _ t n z _ _ e (.cons (t := t2) (items := i2) (ps := p2) e2 r2), p, h => by
    obtain ⟨t', h1, h2⟩ := PairsAt.last (.cons e2 r2) (p := p) (by simpa using h)
    exact ⟨t', by simpa using h1, h2⟩
def pairData (p : Int × Str) : PyData := .tuple [.int p.1, .str p.2]
theorem PairsAt.dp {K : PySem.W.Frag} {H : Hp} : ∀ {vs : List V} {ps : Pairs}, PairsAt H vs ps → DpAll K H vs (ps.map pairData)
  | _, _, .nil => .nil
  | _, _, .cons e r => .cons (.tup (SqT.of e) (.cons (.int _) (.cons (.str _) .nil))) r.dp
def treeData (root : Node) (ps : Pairs) : PyData := .tuple [root.data, .tuple (ps.map pairData)]
/-- a tree at a -/
def TreeAt (H : Hp) (v : V) (root : Node) (ps : Pairs) : Prop := ∃ (a b : Addr) (r : V) (items : List V), v = .ref a ∧ H a = some (.tup [r, .ref b]) ∧ NodeAt H r root ∧ H b = some (.tup items) ∧ PairsAt H items ps
theorem TreeAt.keep {H H' : Hp} (k : TupK H H') {v : V} {root : Node} {ps : Pairs} (t : TreeAt H v root ps) : TreeAt H' v root ps := by
  obtain ⟨a, b, r, items, rfl, h1, h2, h3, h4⟩ := t
  exact ⟨a, b, r, items, rfl, k _ _ h1, h2.keep k, k _ _ h3, h4.keep k⟩
theorem TreeAt.dp {K : PySem.W.Frag} {H : Hp} {v : V} {root : Node} {ps : Pairs} (t : TreeAt H v root ps) : Dp K H v (treeData root ps) := by
  obtain ⟨a, b, r, items, rfl, h1, h2, h3, h4⟩ := t
  exact .tup (SqT.of h1) (.cons (h2.dp) (.cons (.tup (SqT.of h3) h4.dp) .nil))
end KN
end L2
set_option Elab.async false
set_option linter.all false
set_option maxRecDepth 100000
set_option maxHeartbeats 4000000
/-! k92: helpers for comprehensions and loops -/
namespace L2
namespace KH
open PySem PySem.Spec PyProof.Rows LamX KB KN
theorem take_more {α : Type} : ∀ {l : List α} {i : Nat} {x : α}, l[i]? = some x → l.take (i + 1) = l.take i ++ [x]
  | [], i, x, h => by simp at h
  | a :: l, 0, x, h => by
    have e : a = x := Option.some.inj h
    subst e
    rfl
  | a :: l, i + 1, x, h => by
    have ih := take_more (l := l) (i := i) (x := x) h
    show a :: l.take (i + 1) = a :: l.take i ++ [x]
    rw [ih]
    rfl
theorem map_at {α β : Type} {f : α → β} {l : List α} {i : Nat} {y : β} (h : (l.map f)[i]? = some y) : ∃ x, l[i]? = some x ∧ y = f x := by
  rw [List.getElem?_map] at h
  cases e : l[i]? with
  | none =>
    rw [e] at h
    cases h
  | some x =>
    rw [e] at h
    exact ⟨x, rfl, (Option.some.inj h).symm⟩
theorem same_putD {H H1 : Hp} {D : Addr} {o : HO} (h : H1 D = none) (s : Same H1 H) : Same H1 (upd H D o) := fun b u e => by
  rw [upd_ne (ne_of_none e h)]
  exact s b u e
theorem ext_putD {H H1 : Hp} {D : Addr} {o : HO} (h : H1 D = none) (s : ExtN H1 H) : ExtN H1 (upd H D o) := fun b u e n => by
  rw [upd_ne (ne_of_none e h)]
  exact s b u e n
/-- one item more in the list at D -/
theorem lc_put {R : Hp → Prop} {acc : Nat → List V} {i : Nat} {D : Addr} {y : V} {H : Hp} (hRD : ∀ H zs, R H → R (upd H D (.lst zs))) (r : R H) (e : H D = some (.lst (acc i))) (l : (acc i).length < sizeLine) (n : acc (i + 1) = acc i ++ [y]) :
    ∃ a, H D = some (.lst a) ∧ a.length < sizeLine ∧ (R (upd H D (.lst (a ++ [y]))) ∧ upd H D (.lst (a ++ [y])) D = some (.lst (acc (i + 1)))) :=
  ⟨acc i, e, l, hRD _ _ r, by rw [upd_same, n]⟩
/-- the bools of the first i -/
abbrev bls {α : Type} (p : α → Bool) (l : List α) (i : Nat) : List V := ((l.take i).map p).map V.bl
theorem bls_more {α : Type} {p : α → Bool} {l : List α} {i : Nat} {x : α} (h : l[i]? = some x) : bls p l (i + 1) = bls p l i ++ [V.bl (p x)] := by
  unfold bls
  rw [take_more h, List.map_append, List.map_append]
  rfl
theorem bls_len {α : Type} {p : α → Bool} {l : List α} {i : Nat} : (bls p l i).length ≤ l.length := by
  unfold bls
  rw [List.length_map, List.length_map, List.length_take]
  exact Nat.min_le_right _ _
theorem bls_all {α : Type} {p : α → Bool} {l : List α} {n : Nat} (h : n = l.length) : bls p l n = (l.map p).map V.bl := by
  unfold bls
  rw [h, List.take_length]
theorem all_id {α : Type} {p : α → Bool} {l : List α} : (l.map p).all id = l.all p := by
  rw [List.all_map]
  rfl
theorem ited {c : Prop} [Decidable c] {A B : Prop} (h1 : c → A) (h2 : ¬ c → B) : if decide c = true then A else B := by
  by_cases h : c
  · rw [decide_eq_true h, if_pos rfl]
    exact h1 h
  · rw [decide_eq_false h, if_neg Bool.false_ne_true]
    exact h2 h
theorem itek {b : Bool} {A B : Prop} (h1 : b = true → A) (h2 : b = false → B) : if b = true then A else B := by
  cases b with
  | true => exact iteT (h1 rfl)
  | false => exact iteF (h2 rfl)
theorem iteN {b : Bool} {A B : Prop} (h1 : b = false → A) (h2 : b = true → B) : if (!b) = true then A else B := by
  cases b with
  | true => exact iteF (h2 rfl)
  | false => exact iteT (h1 rfl)
theorem slen (z : Str) : z.length = z.cps.toList.length := by simp [Str.length]
theorem big8 {n : Nat} (h : n ≤ 1000) : n < sizeLine := Nat.lt_of_le_of_lt h (by decide)
theorem at0 {α : Type} {x : α} {r : List α} : atI (x :: r) 0 = some x := atI_nat (j := 0) rfl
theorem at1 {α : Type} {x y : α} {r : List α} : atI (x :: y :: r) 1 = some y := atI_nat (j := 1) rfl
theorem at2 {α : Type} {x y z : α} {r : List α} : atI (x :: y :: z :: r) 2 = some z := atI_nat (j := 2) rfl
/-! ### < of two ints or two texts; rising lists -/
def ltV : V → V → Option Bool
  | .int i, .int j => some (decide (i < j))
  | .str a, .str b => some (ltStr a b)
  | _, _ => none
def ltB (x y : V) : Bool := (ltV x y).getD false
def rLtU : R2 := fun x y H Q => ∃ b, ltV x y = some b ∧ Q (.bl b) H
theorem op_ltU {X : Cx} : OpR X (compareOp .Lt) rLtU := by
  intro pins s σ H x y v u Q I rx ry h
  obtain ⟨b, e, q⟩ := h
  unfold ltV at e
  split at e
  · cases e
    exact op_lt pins s σ H _ _ v u Q I rx ry ⟨_, _, rfl, rfl, q⟩
  · cases e
    exact op_lt_str pins s σ H _ _ v u Q I rx ry ⟨_, _, rfl, rfl, q⟩
  · cases e
/-- all of one kind -/
def Alike (xs : List V) : Prop := ∀ x ∈ xs, ∀ y ∈ xs, (ltV x y).isSome = true
theorem alike_int (ns : List Int) : Alike (ns.map V.int) := fun x hx y hy => by
  obtain ⟨i, _, rfl⟩ := List.mem_map.mp hx
  obtain ⟨j, _, rfl⟩ := List.mem_map.mp hy
  rfl
theorem alike_str (ns : List Str) : Alike (ns.map V.str) := fun x hx y hy => by
  obtain ⟨i, _, rfl⟩ := List.mem_map.mp hx
  obtain ⟨j, _, rfl⟩ := List.mem_map.mp hy
  rfl
theorem rising_map {α β : Type} {lt : β → β → Bool} {lt' : α → α → Bool} {f : α → β} (h : ∀ a b, lt (f a) (f b) = lt' a b) : ∀ l : List α, risingB lt (l.map f) = risingB lt' l
  | [] => rfl
  | [a] => rfl
  | a :: b :: r => by
    have ih := rising_map h (b :: r)
    show (lt (f a) (f b) && risingB lt ((b :: r).map f)) = (lt' a b && risingB lt' (b :: r))
    rw [ih, h]
theorem rising_int (ns : List Int) : risingB ltB (ns.map V.int) = risingB ltInt ns := rising_map (fun _ _ => rfl) ns
theorem rising_str (ns : List Str) : risingB ltB (ns.map V.str) = risingB ltStr ns := rising_map (fun _ _ => rfl) ns
theorem rising_zip {α : Type} (lt : α → α → Bool) : ∀ l : List α, (List.zipWith lt l (l.drop 1)).all id = risingB lt l
  | [] => rfl
  | [a] => rfl
  | a :: b :: r => by
    have ih := rising_zip lt (b :: r)
    show (lt a b && (List.zipWith lt (b :: r) ((b :: r).drop 1)).all id) = (lt a b && risingB lt (b :: r))
    rw [ih]
theorem cut_from1 (xs : List V) : cutV xs (some 1) none = xs.drop 1 := by
  unfold cutV
  rw [HT.sIx_none, show HT.sIx xs.length 0 (some 1) = min 1 xs.length from HT.sIx_nat _ _ 1]
  cases xs with
  | nil => rfl
  | cons a r =>
    have e : min 1 (a :: r).length = 1 := by
      show min 1 (r.length + 1) = 1
      omega
    rw [e, List.take_of_length_le]
    rw [List.length_drop]
    exact Nat.le_refl _
/-! ### two fors -/
section
variable {J : It} {n : Nat} {G : Hp → Prop} {Y : Nat → Hp → V → Hp → Prop}
theorem lc2_it (w : Walk J n G Y) {g : TG} {tt : TT} {wi1 : TI} {g1 : TG} {tt1 : TT} {te : TE} {vs vs1 : List Nat} {σ : L2.St} {H1 : Hp} {D : Addr} {Qd : Hp → Prop} (Pv : Nat → Hp → Prop) (h0 : Pv 0 (upd H1 D (.lst []))) (hG : ∀ i H, i ≤ n → Pv i H → G H)
    (hs : ∀ i x H H', i < n → Pv i H → Y i H x H' → g x (wipe σ vs) H' fun σ2 H2 => wipe σ2 vs = wipe σ vs ∧ tt σ2 H2 fun b H3 =>
      if b = true then wi1 σ2 H3 fun J1 H4 => ∃ W1 : Nat → Nat → Hp → Prop, (∃ m, W1 0 m H4) ∧ ∀ j k H, W1 j k H →
        (J1.stop j H ∧ Pv (i + 1) H) ∨ (J1.go j H ∧ ∃ Nx1 : Hp → Prop, (∀ H', Nx1 H' → ∃ k', k' < k ∧ W1 (j + 1) k' H') ∧ ∀ x H', J1.yld j H x H' → g1 x (wipe σ2 vs1) H' fun σ3 H5 => wipe σ3 vs1 = wipe σ2 vs1 ∧ tt1 σ3 H5 fun b H6 =>
          if b = true then te σ3 H6 fun y H7 => ∃ acc, H7 D = some (.lst acc) ∧ acc.length < sizeLine ∧ Nx1 (upd H7 D (.lst (acc ++ [y]))) else Nx1 H6)
      else Pv (i + 1) H3) (hd : ∀ H, Pv n H → Qd H) :
    ∃ W : Nat → Nat → Hp → Prop, (∃ m, W 0 m (upd H1 D (.lst []))) ∧ ∀ i m H, W i m H →
      (J.stop i H ∧ Qd H) ∨ (J.go i H ∧ ∃ Nx : Hp → Prop, (∀ H', Nx H' → ∃ m', m' < m ∧ W (i + 1) m' H') ∧ ∀ x H', J.yld i H x H' → g x (wipe σ vs) H' fun σ2 H2 => wipe σ2 vs = wipe σ vs ∧ tt σ2 H2 fun b H3 =>
        if b = true then wi1 σ2 H3 fun J1 H4 => ∃ W1 : Nat → Nat → Hp → Prop, (∃ m, W1 0 m H4) ∧ ∀ j k H, W1 j k H →
          (J1.stop j H ∧ Nx H) ∨ (J1.go j H ∧ ∃ Nx1 : Hp → Prop, (∀ H', Nx1 H' → ∃ k', k' < k ∧ W1 (j + 1) k' H') ∧ ∀ x H', J1.yld j H x H' → g1 x (wipe σ2 vs1) H' fun σ3 H5 => wipe σ3 vs1 = wipe σ2 vs1 ∧ tt1 σ3 H5 fun b H6 =>
            if b = true then te σ3 H6 fun y H7 => ∃ acc, H7 D = some (.lst acc) ∧ acc.length < sizeLine ∧ Nx1 (upd H7 D (.lst (acc ++ [y]))) else Nx1 H6)
        else Nx H3) := by
  refine ⟨fun i m H => m = n - i ∧ i ≤ n ∧ Pv i H, ⟨n, by simp, Nat.zero_le _, h0⟩, ?_⟩
  rintro i m H ⟨rfl, hi, p⟩
  have q := hG i H hi p
  by_cases hlt : i < n
  · exact .inr ⟨w.goes i H hlt q, Pv (i + 1), fun H' p' => ⟨n - (i + 1), by omega, rfl, hlt, p'⟩, fun x H' y => hs i x H H' hlt p (w.yields i H x H' hlt q y)⟩
  · have e : i = n := by omega
    subst e
    exact .inl ⟨w.stops H q, hd H p⟩
theorem in_it (w : Walk J n G Y) {g1 : TG} {tt1 : TT} {te : TE} {vs1 : List Nat} {σ2 : L2.St} {H4 : Hp} {D : Addr} {Nx : Hp → Prop} (Pv : Nat → Hp → Prop) (h0 : Pv 0 H4) (hG : ∀ i H, i ≤ n → Pv i H → G H)
    (hs : ∀ j x H H', j < n → Pv j H → Y j H x H' → g1 x (wipe σ2 vs1) H' fun σ3 H5 => wipe σ3 vs1 = wipe σ2 vs1 ∧ tt1 σ3 H5 fun b H6 =>
      if b = true then te σ3 H6 fun y H7 => ∃ acc, H7 D = some (.lst acc) ∧ acc.length < sizeLine ∧ Pv (j + 1) (upd H7 D (.lst (acc ++ [y]))) else Pv (j + 1) H6) (hd : ∀ H, Pv n H → Nx H) :
    ∃ W1 : Nat → Nat → Hp → Prop, (∃ m, W1 0 m H4) ∧ ∀ j k H, W1 j k H →
      (J.stop j H ∧ Nx H) ∨ (J.go j H ∧ ∃ Nx1 : Hp → Prop, (∀ H', Nx1 H' → ∃ k', k' < k ∧ W1 (j + 1) k' H') ∧ ∀ x H', J.yld j H x H' → g1 x (wipe σ2 vs1) H' fun σ3 H5 => wipe σ3 vs1 = wipe σ2 vs1 ∧ tt1 σ3 H5 fun b H6 =>
        if b = true then te σ3 H6 fun y H7 => ∃ acc, H7 D = some (.lst acc) ∧ acc.length < sizeLine ∧ Nx1 (upd H7 D (.lst (acc ++ [y]))) else Nx1 H6) := by
  refine ⟨fun i m H => m = n - i ∧ i ≤ n ∧ Pv i H, ⟨n, by simp, Nat.zero_le _, h0⟩, ?_⟩
  rintro i m H ⟨rfl, hi, p⟩
  have q := hG i H hi p
  by_cases hlt : i < n
  · exact .inr ⟨w.goes i H hlt q, Pv (i + 1), fun H' p' => ⟨n - (i + 1), by omega, rfl, hlt, p'⟩, fun x H' y => hs i x H H' hlt p (w.yields i H x H' hlt q y)⟩
  · have e : i = n := by omega
    subst e
    exact .inl ⟨w.stops H q, hd H p⟩
end
end KH
end L2
set_option Elab.async false
set_option linter.all false
set_option maxRecDepth 100000
set_option maxHeartbeats 4000000
/-! k92: is_word, is_number, is_tuple, are_rising -/
namespace L2
namespace KD1
open PySem PySem.Spec PyProof.Rows LamX KB KN KH
abbrev s_is_word : Stmt := top 19
abbrev s_is_number : Stmt := top 20
abbrev s_is_tuple : Stmt := top 21
abbrev s_are_rising : Stmt := top 22
section
variable {P : Program} {w : World} {K : PySem.W.Frag} {mg : Str → Option Value} {base : Heap} {f : Addr} {fd : FuncData}
/-- a text is a word -/
def spWord : Sp := fun vs H Q _ => ∃ z : Str, vs = [.str z] ∧ z.length ≤ sizeLine ∧ ∀ H', Same H H' → Q (.bl (isWordB z)) H'
theorem sc_is_word : FnScope ["value", "letter"] ["value"] (defScope s_is_word) := ⟨rfl, rfl, rfl, by decide +kernel, rfl, by decide +kernel, by decide +kernel⟩
theorem all_signs {α : Type} {p : α → Bool} {l : List α} {bs : List Bool} (h : bs = l.map p) : bs.all id = l.all p := by
  rw [h, List.all_map]
  rfl
theorem ok_is_word (T : Tx mg) (F : Fun K "is_word" "is_word" s_is_word f fd) : FnOk P w K mg base CX0 1 f fd ["value"] spWord := by
  refine F.ok sc_is_word (fun vs H Q E h => ?_) (fun cdv A outer s H vs Q E hr h => ?_)
  · obtain ⟨z, rfl, _⟩ := h
    rfl
  · obtain ⟨z, rfl, hz, k⟩ := h
    refine ⟨_, pss_one (ps_ret (pe_and (pe_callB call_isi (by rfl) (T.b "isinstance") (by decide +kernel) (pa_cons (pv 0) (pa_cons (pe_bltn (v := .ty "str") (by rfl) (T.b "str") (by decide +kernel) rfl) pa_nil)))
      (pe_and (pe_chain op_le op_le pe_int (pe_callB call_len_str (by rfl) (T.b "len") PySem.boot_len (pa_cons (pv 0) pa_nil)) (pe_gi T (by rfl) (n := 8) (by decide +kernel)))
      (pe_one (pe_callB (cr_all rfl) (by rfl) (T.b "all") (by decide +kernel) (pa_cons (pe_lc (own := [("letter", 1)]) (g := gName 1) (tt := tYes) rfl sc_is_word.nd (pi_str (pv 0)) (blkOk_by (N := ["value", "letter"]) (sc := defScope s_is_word) (by decide +kernel)) (fun _ _ _ _ _ => pg_name (i := 1) sc_is_word.nd rfl (Or.inl rfl)) (fun _ _ _ _ _ => pts_nil)
        (fun _ _ _ _ _ => pe_cmpR op_in_sign (pv 1) (pe_gs T (by rfl) (z := letters) (by decide +kernel)) rfl)) pa_nil)))))), ?_⟩
    refine ⟨_, rfl, _, _, .type "str", .type "str", true, rfl, .ty "str", .base (.str z), kit_ty (by decide +kernel), true, rfl, iteT ?_⟩
    refine ⟨_, rfl, _, rfl, hz, _, _, rfl, rfl, _, rfl, ?_⟩
    show if decide ((1 : Int) ≤ ((z.length : Nat) : Int)) = true then _ else _
    refine ited (fun h1 => ?_) (fun h1 => ?_)
    · refine ⟨_, _, rfl, rfl, _, rfl, ited (fun h2 => ?_) (fun h2 => ?_)⟩
      · refine ⟨_, rfl, z, rfl, fun D hD => ?_⟩
        refine lc_it walk_str (fun i H' => Same H H' ∧ H' D = some (.lst (bls (fun c => decide (c ∈ letters.cps.toList)) z.cps.toList i))) ⟨same_upd hD, upd_same⟩ (fun _ _ _ _ => True.intro) ?_ ?_
        · rintro i x H2 H3 hi ⟨s2, e2⟩ ⟨rfl, c, hc, rfl⟩
          refine ⟨rfl, ?_⟩
          refine ⟨_, rfl, c, _, rfl, rfl, ?_⟩
          exact lc_put (fun _ _ => same_putD hD) s2 e2 (Nat.lt_of_le_of_lt bls_len (by rw [← slen]; exact big8 (by omega))) (bls_more (by rw [Array.getElem?_toList]; exact hc))
        · rintro H2 ⟨s2, e2⟩
          refine ⟨D, _, rfl, SqL.of (by rw [e2, bls_all (by simp)]), ?_⟩
          rw [all_id]
          have e : isWordB z = z.cps.toList.all fun c => decide (c ∈ letters.cps.toList) := by
            unfold isWordB
            rw [decide_eq_true (show 1 ≤ z.length by omega), decide_eq_true (show z.length ≤ 8 by omega)]
            rfl
          rw [← e]
          exact k _ s2
      · have e : isWordB z = false := by
          unfold isWordB
          rw [decide_eq_false (show ¬ z.length ≤ 8 by omega), Bool.and_false, Bool.false_and]
        rw [← e]
        exact k _ (Same.refl _)
    · refine ⟨false, rfl, ?_⟩
      have e : isWordB z = false := by
        unfold isWordB
        rw [decide_eq_false (show ¬ 1 ≤ z.length by omega), Bool.false_and, Bool.false_and]
      refine iteF ?_
      rw [← e]
      exact k _ (Same.refl _)
/-- an int in 0 .. 99 -/
def spNumber : Sp := fun vs H Q _ => ∃ n : Int, vs = [.int n] ∧ Q (.bl (isNumberB n)) H
theorem sc_is_number : FnScope ["value"] ["value"] (defScope s_is_number) := ⟨rfl, rfl, rfl, by decide +kernel, rfl, by decide +kernel, by decide +kernel⟩
theorem ok_is_number (T : Tx mg) (F : Fun K "is_number" "is_number" s_is_number f fd) : FnOk P w K mg base CX0 1 f fd ["value"] spNumber := by
  refine F.ok sc_is_number (fun vs H Q E h => ?_) (fun cdv A outer s H vs Q E hr h => ?_)
  · obtain ⟨z, rfl, _⟩ := h
    rfl
  · obtain ⟨n, rfl, k⟩ := h
    refine ⟨_, pss_one (ps_ret (pe_and (pe_callB call_isi (by rfl) (T.b "isinstance") (by decide +kernel) (pa_cons (pv 0) (pa_cons (pe_bltn (v := .ty "int") (by rfl) (T.b "int") (by decide +kernel) rfl) pa_nil)))
      (pe_and (pe_not (pe_callB call_isi (by rfl) (T.b "isinstance") (by decide +kernel) (pa_cons (pv 0) (pa_cons (pe_bltn (v := .ty "bool") (by rfl) (T.b "bool") (by decide +kernel) rfl) pa_nil))))
      (pe_one (pe_chain op_le op_le pe_int (pv 0) (pe_gi T (by rfl) (n := 99) (by decide +kernel))))))), ?_⟩
    refine ⟨_, rfl, _, _, .type "int", .type "int", true, rfl, .ty "int", .base (.int n), kit_ty (by decide +kernel), true, rfl, iteT ?_⟩
    refine ⟨_, rfl, _, _, .type "int", .type "bool", false, rfl, .ty "bool", .base (.int n), kit_ty (by decide +kernel), false, rfl, true, rfl, iteT ?_⟩
    refine ⟨_, rfl, _, _, rfl, rfl, _, rfl, ited (fun h1 => ?_) (fun h1 => ?_)⟩
    · refine ⟨_, _, rfl, rfl, ?_⟩
      have e : isNumberB n = decide (n ≤ 99) := by
        unfold isNumberB
        rw [decide_eq_true h1, Bool.true_and]
      have k2 := k
      rw [e] at k2
      exact k2
    · have e : isNumberB n = false := by
        unfold isNumberB
        rw [decide_eq_false h1, Bool.false_and]
      rw [← e]
      exact k
/-- a tuple of so many -/
def spTuple : Sp := fun vs H Q _ => ∃ (a : Addr) (n : Int) (xs : List V), vs = [.ref a, .int n] ∧ H a = some (.tup xs) ∧ Q (.bl (decide ((xs.length : Int) = n))) H
theorem sc_is_tuple : FnScope ["value", "many"] ["value", "many"] (defScope s_is_tuple) := ⟨rfl, rfl, rfl, by decide +kernel, rfl, by decide +kernel, by decide +kernel⟩
theorem ok_is_tuple (T : Tx mg) (F : Fun K "is_tuple" "is_tuple" s_is_tuple f fd) : FnOk P w K mg base CX0 1 f fd ["value", "many"] spTuple := by
  refine F.ok sc_is_tuple (fun vs H Q E h => ?_) (fun cdv A outer s H vs Q E hr h => ?_)
  · obtain ⟨a, n, xs, rfl, _⟩ := h
    rfl
  · obtain ⟨a, n, xs, rfl, ha, k⟩ := h
    refine ⟨_, pss_one (ps_ret (pe_and (pe_callB call_isi (by rfl) (T.b "isinstance") (by decide +kernel) (pa_cons (pv 0) (pa_cons (pe_bltn (v := .ty "tuple") (by rfl) (T.b "tuple") (by decide +kernel) rfl) pa_nil)))
      (pe_one (pe_cmpR op_eq (pe_callB call_len_seq (by rfl) (T.b "len") PySem.boot_len (pa_cons (pv 0) pa_nil)) (pv 1) (nomark _))))), ?_⟩
    refine ⟨_, rfl, _, _, .type "tuple", .type "tuple", true, rfl, .ty "tuple", .base (.tup ha), kit_ty (by decide +kernel), true, rfl, iteT ?_⟩
    refine ⟨_, rfl, a, _, rfl, .inr (SqT.of ha), _, rfl, rfl, ?_⟩
    have e : decide (V.int (xs.length : Int) = V.int n) = decide ((xs.length : Int) = n) := decide_eq_decide.mpr ⟨fun z => by cases z; rfl, fun z => by rw [z]⟩
    show Q (.bl (decide (V.int (xs.length : Int) = V.int n))) H
    rw [e]
    exact k
/-- a list of ints, or of texts, that rises -/
def spRising (K : PySem.W.Frag) : Sp := fun vs H Q _ => ∃ (a : Addr) (xs : List V), vs = [.ref a] ∧ SqL K H a xs ∧ Alike xs ∧ xs.length < sizeLine ∧ ∀ H', Same H H' → Q (.bl (risingB ltB xs)) H'
theorem sc_are_rising : FnScope ["things", "one", "other"] ["things"] (defScope s_are_rising) := ⟨rfl, rfl, rfl, by decide +kernel, rfl, by decide +kernel, by decide +kernel⟩
theorem ok_are_rising (T : Tx mg) (F : Fun K "are_rising" "are_rising" s_are_rising f fd) : FnOk P w K mg base CX0 1 f fd ["things"] (spRising K) := by
  refine F.ok sc_are_rising (fun vs H Q E h => ?_) (fun cdv A outer s H vs Q E hr h => ?_)
  · obtain ⟨a, xs, rfl, _⟩ := h
    rfl
  · obtain ⟨a, xs, rfl, ha, hk, hl, k⟩ := h
    refine ⟨_, pss_one (ps_ret (pe_callB (cr_all rfl) (by rfl) (T.b "all") (by decide +kernel) (pa_cons (pe_lc (own := [("one", 1), ("other", 2)]) (g := gTup K 2 (gCons (gName 1) (gCons (gName 2) gNil))) (tt := tYes) rfl sc_are_rising.nd
        (pi_zip (by rfl) (T.b "zip") (pa_cons (pv 0) (pa_cons (pe_slice sl_list (pv 0) (po_some pe_int) po_none) pa_nil)))
        (blkOk_by (N := ["things", "one", "other"]) (sc := defScope s_are_rising) (by decide +kernel)) (fun _ _ _ _ _ => pg_tup rfl (pgs_cons (pg_name (i := 1) sc_are_rising.nd rfl (Or.inl rfl)) (pgs_cons (pg_name (i := 2) sc_are_rising.nd rfl (Or.inl rfl)) pgs_nil))) (fun _ _ _ _ _ => pts_nil)
        (fun _ _ _ _ _ => pe_cmpR op_ltU (pv 1) (pv 2) (nomark _))) pa_nil))), ?_⟩
    refine ⟨_, rfl, _, rfl, _, rfl, a, xs, rfl, ha, fun p np => ?_⟩
    rw [cut_from1]
    refine ⟨a, p, xs, xs.drop 1, rfl, (same_upd np).seq ha, SqL.of upd_same, fun D hD => ?_⟩
    have zl : (List.zipWith ltB xs (xs.drop 1)).length = min xs.length (xs.drop 1).length := List.length_zipWith
    refine lc_it (walk_zip (xs := xs) (ys := xs.drop 1) rfl) (fun i H' => Same (upd H p (.lst (xs.drop 1))) H' ∧ H' D = some (.lst (bls id (List.zipWith ltB xs (xs.drop 1)) i))) ⟨same_upd hD, upd_same⟩ (fun i H' _ q => ⟨q.1.seq ((same_upd np).seq ha), q.1.seq (SqL.of upd_same)⟩) ?_ ?_
    · rintro i x H2 H3 hi ⟨s2, e2⟩ ⟨t, x1, y1, rfl, nt, rfl, hx, hy⟩
      have nDt : D ≠ t := ne_of_none e2 nt
      replace hx : xs[i]? = some x1 := hx
      replace hy : (xs.drop 1)[i]? = some y1 := hy
      refine ⟨t, _, rfl, SqT.of upd_same, rfl, _, _, rfl, _, _, rfl, rfl, rfl, ?_⟩
      have mx := List.mem_of_getElem? hx
      have my := List.mem_of_mem_drop (List.mem_of_getElem? hy)
      obtain ⟨b, eb⟩ := Option.isSome_iff_exists.mp (hk _ mx _ my)
      refine ⟨_, rfl, _, rfl, b, eb, ?_⟩
      refine lc_put (fun _ _ => same_putD hD) (s2.trans (same_upd nt)) (by rw [upd_ne nDt]; exact e2) (Nat.lt_of_le_of_lt bls_len (by rw [zl]; omega)) ?_
      have eb2 : ltB x1 y1 = b := by
        unfold ltB
        rw [eb] <;> rfl
      rw [← eb2]
      exact bls_more (by rw [List.getElem?_zipWith, hx, hy] <;> rfl)
    · rintro H2 ⟨s2, e2⟩
      refine ⟨D, _, rfl, SqL.of (by rw [e2, bls_all zl.symm]), ?_⟩
      rw [List.map_id, rising_zip]
      exact k _ ((same_upd np).trans s2)
end
end KD1
end L2
set_option Elab.async false
set_option linter.all false
set_option maxRecDepth 100000
set_option maxHeartbeats 4000000
/-! k92: are_pairs -/
namespace L2
namespace KD2
open PySem PySem.Spec PyProof.Rows LamX KB KN KH KL KD1
abbrev s_are_pairs : Stmt := top 23
abbrev Tb := List (Addr × Str)
/-- kept, the code tables too -/
def Kp (T : Tb) (H H' : Hp) : Prop := ExtN H H' ∧ Tabs T H'
theorem Kp.trans {T : Tb} {H H1 H2 : Hp} (a : Kp T H H1) (b : Kp T H1 H2) : Kp T H H2 := ⟨a.1.trans b.1, b.2⟩
theorem kp_same {T : Tb} {H H' : Hp} (s : Same H H') (t : Tabs T H) : Kp T H H' := ⟨ext_same s, t.ext s⟩
theorem Kp.same {T : Tb} {H H1 H2 : Hp} (a : Kp T H H1) (s : Same H1 H2) : Kp T H H2 := ⟨a.1.trans (ext_same s), a.2.ext s⟩
theorem Kp.putD {T : Tb} {H H1 : Hp} {D : Addr} {xs zs : List V} (h : H1 D = none) (e : H D = some (.lst xs)) (s : Kp T H1 H) : Kp T H1 (upd H D (.lst zs)) :=
  ⟨ext_putD h s.1, fun p hp => by
    obtain ⟨ps, h1, h2, h3⟩ := s.2 p hp
    refine ⟨ps, ?_, h2, fun q c hc => ?_⟩
    · rw [upd_ne (ne_of h1 e (fun z => by cases z))]
      exact h1
    · obtain ⟨c', e1, e2⟩ := h3 q c hc
      refine ⟨c', e1, ?_⟩
      rw [upd_ne (ne_of e2 e (fun z => by unfold CodeO at z; cases z))]
      exact e2⟩
/-- one item more in the list at D -/
theorem lc_putK {T : Tb} {H1 : Hp} {acc : Nat → List V} {i : Nat} {D : Addr} {y : V} {H : Hp} (h : H1 D = none) (r : Kp T H1 H) (e : H D = some (.lst (acc i))) (l : (acc i).length < sizeLine) (n : acc (i + 1) = acc i ++ [y]) :
    ∃ a, H D = some (.lst a) ∧ a.length < sizeLine ∧ (Kp T H1 (upd H D (.lst (a ++ [y]))) ∧ upd H D (.lst (a ++ [y])) D = some (.lst (acc (i + 1)))) :=
  ⟨acc i, e, l, r.putD h e, by rw [upd_same, n]⟩
theorem Kp.lst {T : Tb} {H H1 : Hp} {D : Addr} {xs : List V} (k : Kp T H H1) (e : H D = some (.lst xs)) : H1 D = some (.lst xs) := k.1 _ _ e (fun ps z => by cases z)
theorem Kp.tup {T : Tb} {H H1 : Hp} {D : Addr} {xs : List V} (k : Kp T H H1) (e : H D = some (.tup xs)) : H1 D = some (.tup xs) := k.1 _ _ e (fun ps z => by cases z)
/-- a tuple of pairs -/
abbrev Pr := V × V × Bool × Bool
def PrsAt (H : Hp) (items : List V) (es : List Pr) : Prop := items.length = es.length ∧ ∀ (i : Nat) (v : V), items[i]? = some v → ∃ (t : Addr) (e : Pr), v = .ref t ∧ es[i]? = some e ∧ H t = some (.tup [e.1, e.2.1])
theorem PrsAt.keep {H H' : Hp} (k : TupK H H') {items : List V} {es : List Pr} (p : PrsAt H items es) : PrsAt H' items es :=
  ⟨p.1, fun i v e => by
    obtain ⟨t, e1, r1, r2, r3⟩ := p.2 i v e
    exact ⟨t, e1, r1, r2, k _ _ r3⟩⟩
def tCallC (P : Program) (w : World) (K : PySem.W.Frag) (mg : Str → Option Value) (base : Heap) (k i : Nat) (t : TA) : TE := fun σ H Q => ∃ (f : Addr) (sp : Sp), σ[i]? = some (some (.ref f)) ∧ Cb P w K mg base k H f sp ∧ t σ H fun vs H1 => ExtN H H1 ∧ sp vs H1 Q E0
theorem pe_callC {X : Cx} {k i : Nat} {x : Str} {p pos : Pos} {e : Expr} {es : List Expr} {t : TA} (hr : Room k X.A) (hN : X.N[i]? = some x) (hv : Vis X.env.scope x) (ha : PA X (e :: es) t)
    (hdb : (x == ("__debug__" : Str)) = false := by decide) (hcd : (x == ("__classdict__" : Str)) = false := by decide)
    (he : starEach (e :: es) X.env = (false, eval e X.env) :: starEach es X.env := by rfl) (hpl : (backTo pos (starEach es X.env)).any (·.1) = false := by rfl) :
    PE X (.Call (.Name x p) (e :: es) [] pos) (tCallC X.prog X.w X.K X.mg X.base k i t) := pe_callCb hr hN hv ha hdb hcd he hpl
section
variable {P : Program} {w : World} {K : PySem.W.Frag} {mg : Str → Option Value} {base : Heap} {f : Addr} {fd : FuncData} {T : Tb} {k : Nat}
def spPairs (P : Program) (w : World) (K : PySem.W.Frag) (mg : Str → Option Value) (base : Heap) (T : Tb) (k : Nat) : Sp := fun vs H Q _ => ∃ (a f g : Addr) (items : List V) (es : List Pr) (spK spW : Sp),
  vs = [.ref a, .ref f, .ref g] ∧ H a = some (.tup items) ∧ PrsAt H items es ∧ items.length < sizeLine ∧ Cb P w K mg base k H f spK ∧ Cb P w K mg base k H g spW ∧ Tabs T H ∧
  (∀ e ∈ es, ∀ (H1 : Hp) (Q1 : VK), Kp T H H1 → (∀ H2, Kp T H1 H2 → Q1 (.bl e.2.2.1) H2) → spK [e.1] H1 Q1 E0) ∧
  (∀ e ∈ es, e.2.2.1 = true → ∀ (H1 : Hp) (Q1 : VK), Kp T H H1 → (∀ H2, Kp T H1 H2 → Q1 (.bl e.2.2.2) H2) → spW [e.2.1] H1 Q1 E0) ∧ Alike (es.map (·.1)) ∧
  ∀ H2, Kp T H H2 → Q (.bl ((es.all fun e => e.2.2.1 && e.2.2.2) && risingB ltB (es.map (·.1)))) H2
theorem sc_are_pairs : FnScope ["value", "is_key", "is_worth", "pair", "key", "worth"] ["value", "is_key", "is_worth"] (defScope s_are_pairs) := ⟨rfl, rfl, rfl, by decide +kernel, rfl, by decide +kernel, by decide +kernel⟩
theorem ok_are_pairs (X : Tx mg) (hk : 1 ≤ k) (cT : Ca CX0 P w K mg base 1 "is_tuple" ["value", "many"] spTuple) (cR : Ca CX0 P w K mg base 1 "are_rising" ["things"] (spRising K)) (F : Fun K "are_pairs" "are_pairs" s_are_pairs f fd) :
    FnOk P w K mg base CX0 (k + 1) f fd ["value", "is_key", "is_worth"] (spPairs P w K mg base T k) := by
  refine F.ok sc_are_pairs (fun vs H Q E h => ?_) (fun cdv A outer s H vs Q E hr h => ?_)
  · obtain ⟨a, fk, g, items, es, spK, spW, rfl, _⟩ := h
    rfl
  · obtain ⟨a, fk, g, items, es, spK, spW, rfl, ha, hp, hl, cf, cg, hT, qk, qw, hal, k1⟩ := h
    have hr1 : Room 1 _ := hr.mono hk
    have nd := sc_are_pairs.nd
    refine ⟨_, pss_cons (ps_if (PW.pt (pw_or (pt_not (pt_val (pe_callB call_isi (by rfl) (X.b "isinstance") (by decide +kernel) (pa_cons (pv 0) (pa_cons (pe_bltn (v := .ty "tuple") (by rfl) (X.b "tuple") (by decide +kernel) rfl) pa_nil)))))
        (pw_or1 (pt_not (pt_val (pe_callB (cr_all rfl) (by rfl) (X.b "all") (by decide +kernel) (pa_cons (pe_lc (own := [("pair", 3)]) (g := gName 3) (tt := tYes) rfl nd (pi_tup (pv 0))
          (blkOk_by (N := ["value", "is_key", "is_worth", "pair", "key", "worth"]) (sc := defScope s_are_pairs) (by decide +kernel)) (fun _ _ _ _ _ => pg_name (i := 3) nd rfl (Or.inl rfl)) (fun _ _ _ _ _ => pts_nil)
          (fun _ _ _ _ _ => pe_ca cT hr1 (by rfl) (pa_cons (pv 3) (pa_cons pe_int pa_nil)))) pa_nil))))))) (pss_one (ps_ret pe_bl)) pss_nil)
      (pss_cons (ps_if (pt_not (pt_val (pe_callB (cr_all rfl) (by rfl) (X.b "all") (by decide +kernel) (pa_cons (pe_lc (own := [("key", 4), ("worth", 5)]) (g := gTup K 2 (gCons (gName 4) (gCons (gName 5) gNil))) (tt := tYes) (te := tAndV (tCallC P w K mg base k 1 (tCons (tVar 4) tNil)) (tCallC P w K mg base k 2 (tCons (tVar 5) tNil))) rfl nd (pi_tup (pv 0))
          (blkOk_by (N := ["value", "is_key", "is_worth", "pair", "key", "worth"]) (sc := defScope s_are_pairs) (by decide +kernel)) (fun _ _ _ _ _ => pg_tup rfl (pgs_cons (pg_name (i := 4) nd rfl (Or.inl rfl)) (pgs_cons (pg_name (i := 5) nd rfl (Or.inl rfl)) pgs_nil))) (fun _ _ _ _ _ => pts_nil)
          (fun _ _ _ _ _ => pe_and (pe_callC hr (i := 1) rfl (Or.inr (Or.inl rfl)) (pa_cons (pv 4) pa_nil)) (pe_one (pe_callC hr (i := 2) rfl (Or.inr (Or.inl rfl)) (pa_cons (pv 5) pa_nil))))) pa_nil)))) (pss_one (ps_ret pe_bl)) pss_nil)
      (pss_one (ps_ret (pe_ca cR hr1 (by rfl) (pa_cons (pe_lc (own := [("key", 4), ("worth", 5)]) (g := gTup K 2 (gCons (gName 4) (gCons (gName 5) gNil))) (tt := tYes) rfl nd (pi_tup (pv 0))
          (blkOk_by (N := ["value", "is_key", "is_worth", "pair", "key", "worth"]) (sc := defScope s_are_pairs) (by decide +kernel)) (fun _ _ _ _ _ => pg_tup rfl (pgs_cons (pg_name (i := 4) nd rfl (Or.inl rfl)) (pgs_cons (pg_name (i := 5) nd rfl (Or.inl rfl)) pgs_nil))) (fun _ _ _ _ _ => pts_nil)
          (fun _ _ _ _ _ => pv 4)) pa_nil))))), ?_⟩
    refine ⟨_, rfl, _, _, .type "tuple", .type "tuple", true, rfl, .ty "tuple", .base (.tup ha), kit_ty (by decide +kernel), true, rfl, ?_⟩
    refine iteF ?_
    refine ⟨_, rfl, a, rfl, ⟨_, SqT.of ha⟩, fun D hD => ?_⟩
    refine lc_it (walk_tup (K := K) (a := a) (xs := items)) (fun i H' => Same H H' ∧ H' D = some (.lst (bls (fun _ => true) items i))) ⟨same_upd hD, upd_same⟩ (fun i H' _ q => q.1.tup (SqT.of ha)) ?_ ?_
    · rintro i x H2 H3 hi ⟨s2, e2⟩ ⟨rfl, hx⟩
      obtain ⟨t, e, rfl, _, ht⟩ := hp.2 i x hx
      refine ⟨rfl, _, rfl, t, 2, _, rfl, s2 _ _ ht, ?_⟩
      exact lc_put (fun _ _ => same_putD hD) s2 e2 (Nat.lt_of_le_of_lt bls_len hl) (bls_more hx)
    rintro H2 ⟨s2, e2⟩
    refine ⟨D, _, rfl, SqL.of (by rw [e2, bls_all rfl]), true, ?_, iteF ?_⟩
    · rw [all_id] <;> simp
    have k2 : Kp T H H2 := kp_same s2 hT
    have ha2 := k2.tup ha
    refine ⟨_, rfl, a, rfl, ⟨_, SqT.of ha2⟩, fun D2 hD2 => ?_⟩
    refine lc_it (walk_tup (K := K) (a := a) (xs := items)) (fun i H' => Kp T H2 H' ∧ H' D2 = some (.lst (bls (fun e => e.2.2.1 && e.2.2.2) es i))) ⟨kp_same (same_upd hD2) k2.2, upd_same⟩ (fun i H' _ q => SqT.of (q.1.tup ha2)) ?_ ?_
    · rintro i x H3 H4 hi ⟨k3, e3⟩ ⟨rfl, hx⟩
      obtain ⟨t, e, rfl, he, ht⟩ := hp.2 i x hx
      have me := List.mem_of_getElem? he
      refine ⟨t, _, rfl, SqT.of (k3.tup (k2.tup ht)), rfl, _, _, rfl, _, _, rfl, rfl, rfl, ?_⟩
      refine ⟨fk, spK, rfl, cf.ext (k2.trans k3).1, _, rfl, extN_refl _, qk e me _ _ (k2.trans k3) fun H5 k5 => ⟨_, rfl, ?_⟩⟩
      have step : ∀ H6, Kp T H5 H6 → ∃ acc, H6 D2 = some (.lst acc) ∧ acc.length < sizeLine ∧ (Kp T H2 (upd H6 D2 (.lst (acc ++ [.bl (e.2.2.1 && e.2.2.2)]))) ∧ upd H6 D2 (.lst (acc ++ [.bl (e.2.2.1 && e.2.2.2)])) D2 = some (.lst (bls (fun e => e.2.2.1 && e.2.2.2) es (i + 1)))) := fun H6 k6 =>
        lc_putK hD2 ((k3.trans k5).trans k6) (k6.lst (k5.lst e3)) (Nat.lt_of_le_of_lt bls_len (by rw [← hp.1]; exact hl)) (bls_more he)
      refine itek (fun b1 => ?_) (fun b1 => ?_)
      · refine ⟨g, spW, rfl, cg.ext ((k2.trans k3).trans k5).1, _, rfl, extN_refl _, qw e me b1 _ _ ((k2.trans k3).trans k5) fun H6 k6 => ?_⟩
        have z := step H6 k6
        rw [b1, Bool.true_and] at z
        exact z
      · have z := step H5 ⟨extN_refl _, k5.2⟩
        rw [b1, Bool.false_and] at z
        exact z
    rintro H3 ⟨k3, e3⟩
    refine ⟨D2, _, rfl, SqL.of (by rw [e3, bls_all (by rw [hp.1])]), _, rfl, ?_⟩
    rw [all_id]
    refine itek (fun z => ?_) (fun z => ?_)
    · have z2 : (es.all fun e => e.2.2.1 && e.2.2.2) = false := by simpa using z
      have z3 := k1 H3 (k2.trans k3)
      rw [z2, Bool.false_and] at z3
      exact z3
    have z2 : (es.all fun e => e.2.2.1 && e.2.2.2) = true := by simpa using z
    have ha3 := k3.tup ha2
    refine ⟨_, rfl, a, rfl, ⟨_, SqT.of ha3⟩, fun D3 hD3 => ?_⟩
    refine lc_it (walk_tup (K := K) (a := a) (xs := items)) (fun i H' => Same H3 H' ∧ H' D3 = some (.lst ((es.take i).map (·.1)))) ⟨same_upd hD3, upd_same⟩ (fun i H' _ q => q.1.tup (SqT.of ha3)) ?_ ?_
    · rintro i x H5 H6 hi ⟨s5, e5⟩ ⟨rfl, hx⟩
      obtain ⟨t, e, rfl, he, ht⟩ := hp.2 i x hx
      refine ⟨t, _, rfl, SqT.of (s5 _ _ (k3.tup (k2.tup ht))), rfl, _, _, rfl, _, _, rfl, rfl, rfl, ?_⟩
      refine ⟨_, rfl, ?_⟩
      exact lc_put (acc := fun i => (es.take i).map (·.1)) (fun _ _ => same_putD hD3) s5 e5 (Nat.lt_of_le_of_lt (by rw [List.length_map, List.length_take]; exact Nat.min_le_right _ _) (by rw [← hp.1]; exact hl)) (by rw [take_more he, List.map_append] <;> rfl)
    rintro H5 ⟨s5, e5⟩
    refine ⟨D3, _, rfl, SqL.of (by rw [e5, hp.1, List.take_length]), hal, by rw [List.length_map, ← hp.1]; exact hl, fun H6 s6 => ?_⟩
    have z3 := k1 H6 (((k2.trans k3).same s5).same s6)
    rw [z2, Bool.true_and] at z3
    exact z3
end
end KD2
end L2
set_option Elab.async false
set_option linter.all false
set_option maxRecDepth 100000
set_option maxHeartbeats 4000000
/-! k92: is_node -/
namespace L2
namespace KD3
open PySem PySem.Spec PyProof.Rows LamX NdefX KB KN KH KL KD1 KD2
abbrev s_is_node : Stmt := top 24
/-- a def whose code object stands at c -/
structure FunT (K : PySem.W.Frag) (mg : Str → Option Value) (x : Str) (st : Stmt) (f : Addr) (fd : FuncData) (c : Addr) : Prop where
  ex : ∃ (oc : Value) (od : Option Addr) (kV doc pm : Value) (an : Option Addr) (ct : Value) (osl : Array (Option Value)),
    fd = PySem.W.fnOf x x (defArgs st) (defBody st) (defScope st) .none kV doc pm an (.ref c) ct ∧ K.lookup f = some ⟨oc, od, .func fd, osl⟩ ∧ PySem.W.codeIn K (.ref c) x = true
  kp : PySem.W.keepIn K (.ref f) = true
  gl : mg x = some (.ref f)
theorem FunT.binds {K : PySem.W.Frag} {mg : Str → Option Value} {x : Str} {st : Stmt} {f c : Addr} {fd : FuncData} {ps : List Str} (F : FunT K mg x st f fd c)
    (h : ∀ (kV doc pm : Value) (an : Option Addr) (cdv ct : Value) (us : List Value), us.length = ps.length → bindArgs (PySem.W.fnOf x x (defArgs st) (defBody st) (defScope st) .none kV doc pm an cdv ct) ⟨us, []⟩ = pure (ps.zip us)) : Binds K fd ps [] := by
  obtain ⟨oc, od, kV, doc, pm, an, ct, osl, rfl, lk, hcd⟩ := F.ex
  exact .all (h kV doc pm an (.ref c) ct)
section
variable {P : Program} {w : World} {K : PySem.W.Frag} {mg : Str → Option Value} {base : Heap}
theorem FunT.ok {x : Str} {st : Stmt} {f c : Addr} {fd : FuncData} {N ps : List Str} {k : Nat} {sp : Sp} (F : FunT K mg x st f fd c) (S : FnScope N ps (defScope st)) (len : ∀ vs H Q E, sp vs H Q E → vs.length = ps.length)
    (hbody : ∀ (A : Around) (outer : List Env) (s : Shared) (H : Hp) (vs : List V) (Q : VK) (E : XK), Room k (A.deeper (envOfC x (defScope st) s.heap.objs.size f (.ref c))) → sp vs H Q E →
      ∃ t, PSs (cxOf CX0 P w K mg base N x (defScope st) f (.ref c) A outer s H E).nox (defBody st) t ∧ t { nx := fun _ H' => Q .non H', rt := Q } (start N vs) H) : FnOk P w K mg base CX0 (k + 1) f fd ps sp := by
  obtain ⟨oc, od, kV, doc, pm, an, ct, osl, rfl, lk, hcd⟩ := F.ex
  refine fn_of lk hcd S len fun A outer s H vs Q E hr hsp => ?_
  obtain ⟨t, h, q⟩ := hbody A outer s H vs Q E hr hsp
  exact ⟨t, h.nox, q⟩
end
/-! ### the lambda -/
def lamArgs : Expr → Arguments
  | .Lambda a _ _ _ => a
  | _ => { posonlyargs := [], args := [], vararg := none, kwonlyargs := [], kw_defaults := [], kwarg := none, defaults := [] }
def lamBody : Expr → Expr
  | .Lambda _ b _ _ => b
  | e => e
def lamScope : Expr → Scope
  | .Lambda _ _ s _ => s
  | _ => { kind := .function, names := [], isGenerator := false, isCoroutine := false }
def retArg (s : Stmt) (i : Nat) : Expr := match s with
  | .Return (some (.Call _ as _ _)) _ => as.getD i (.Constant .none 0 ⟨0, 0, 0, 0⟩)
  | _ => .Constant .none 0 ⟨0, 0, 0, 0⟩
abbrev eLam : Expr := retArg ((defBody s_is_node).getD 3 (.Pass ⟨0, 0, 0, 0⟩)) 2
abbrev qNode : Str := ("is_node" ++ ".<locals>.") ++ "<lambda>"
abbrev wNode : LW := ⟨qNode, lamArgs eLam, lamBody eLam, lamScope eLam⟩
mutual
def Sane : Node → Prop
  | .file _ => True
  | .folder es => es.toList.length < sizeLine ∧ SaneE es
def SaneE : Ents → Prop
  | .nil => True
  | .cons x n r => x.length ≤ sizeLine ∧ Sane n ∧ SaneE r
end
theorem sane_mem : ∀ {es : Ents} {e : Str × Node}, SaneE es → e ∈ es.toList → e.1.length ≤ sizeLine ∧ Sane e.2
  | .nil, e, _, h => by cases h
  | .cons x n r, e, s, h => by
    rcases List.mem_cons.mp h with rfl | h
    · exact ⟨s.1, s.2.1⟩
    · exact sane_mem s.2.2 h
/-- is_node(v, d), d below D -/
def spNode (T : Tb) (D : Nat) : Sp := fun vs H Q _ => ∃ (v : V) (n : Node) (d : Nat), vs = [v, .int d] ∧ d < D ∧ NodeAt H v n ∧ Sane n ∧ Tabs T H ∧ ∀ H', Kp T H H' → Q (.bl (isNodeB d n)) H'
/-- the lambda, its cell holds x -/
def spLamN (T : Tb) (D : Nat) (x : V) : Sp := fun vs H Q _ => ∃ (v : V) (n : Node) (d : Nat), x = .int d ∧ vs = [v] ∧ d < D + 1 ∧ NodeAt H v n ∧ Sane n ∧ Tabs T H ∧ ∀ H', Kp T H H' → Q (.bl (decide (0 < d) && isNodeB (d - 1) n)) H'
section
variable {P : Program} {w : World} {K : PySem.W.Frag} {mg : Str → Option Value} {base : Heap} {T : Tb} {k D : Nat}
theorem lok_node (cN : Ca CX0 P w K mg base k "is_node" ["value", "deep"] (spNode T D)) : LOk CX0 P w K mg base (k + 1) wNode "deep" ["node"] (spLamN T D) := by
  refine lok_of (N := ["node", "deep"]) (nscope_by (by decide +kernel)) (fun cl pm cdv ctv us hl => match us, hl with | [_], _ => rfl) (fun x vs H Q E h => ?_) (fun f cl cc A outer s H vs x Q E hr h => ?_)
  · obtain ⟨v, n, d, _, rfl, _⟩ := h
    rfl
  · obtain ⟨v, n, d, rfl, rfl, hd, hn, hs, hT, q⟩ := h
    refine ⟨_, pe_and (pe_cmpR op_gt (pv 1) pe_int (nomark _)) (pe_one (pe_ca cN hr (by rfl) (pa_cons (pv 0) (pa_cons (pe_op op_sub (pv 1) pe_int) pa_nil)))), ?_⟩
    refine ⟨_, rfl, _, _, rfl, rfl, _, rfl, ited (fun h1 => ?_) (fun h1 => ?_)⟩
    · refine ⟨_, rfl, _, rfl, _, _, rfl, rfl, v, n, d - 1, ?_, by omega, hn, hs, hT, fun H' k' => ?_⟩
      · show [v, V.int ((d : Int) - 1)] = [v, V.int ((d - 1 : Nat) : Int)]
        rw [show ((d : Int) - 1) = ((d - 1 : Nat) : Int) by omega]
      · have z := q H' k'
        rw [decide_eq_true (show 0 < d by omega), Bool.true_and] at z
        exact z
    · have z := q H ⟨extN_refl _, hT⟩
      rw [decide_eq_false (show ¬ 0 < d by omega), Bool.false_and] at z
      exact z
/-- the worths of a folder's entries -/
def spInner (T : Tb) (d : Nat) : Sp := fun vs H Q _ => ∃ (v : V) (n : Node), vs = [v] ∧ NodeAt H v n ∧ Sane n ∧ Tabs T H ∧ ∀ H', Kp T H H' → Q (.bl (decide (0 < d) && isNodeB (d - 1) n)) H'
theorem tupK_del {H : Hp} {c : Addr} {o : Obj} (e : H c = some (Lk o)) : TupK H (del H c) := fun b xs h => by
  rw [del_ne (ne_of h e fun z => lk_tup z.symm)]
  exact h
theorem tabs_del {H : Hp} {c : Addr} {o : Obj} (e : H c = some (Lk o)) (t : Tabs T H) : Tabs T (del H c) := fun p hp => by
  obtain ⟨ps, h1, h2, h3⟩ := t p hp
  refine ⟨ps, ?_, h2, fun q cv hc => ?_⟩
  · rw [del_ne (ne_of h1 e fun z => lk_tbl _ z.symm)]
    exact h1
  · obtain ⟨c', e1, e2⟩ := h3 q cv hc
    refine ⟨c', e1, ?_⟩
    rw [del_ne (ne_of e2 e fun z => by unfold CodeO Lk at z; cases z)]
    exact e2
theorem tabs_lock {H : Hp} {c : Addr} {o : Obj} (e : H c = none) (t : Tabs T H) : Tabs T (upd H c (Lk o)) := t.ext (same_upd e)
theorem kp_lock {H H2 : Hp} {c : Addr} {o : Obj} (e : H c = some (Lk o)) (k : Kp T (del H c) H2) (n : H2 c = none) : Kp T H (upd H2 c (Lk o)) :=
  ⟨fun b u h hn => by
    by_cases hb : b = c
    · subst hb
      rw [upd_same, ← e, h]
    · rw [upd_ne hb]
      exact k.1 b u (by rw [del_ne hb]; exact h) hn, tabs_lock n k.2⟩
theorem tupK_lock {H : Hp} {c : Addr} {o : Obj} (e : H c = none) : TupK H (upd H c (Lk o)) := tupK_same (same_upd e)
theorem kp_unlock {H H2 : Hp} {c : Addr} {o : Obj} (e : H c = none) (k : Kp T (upd H c (Lk o)) H2) : Kp T H (del H2 c) := by
  have h2 : H2 c = some (Lk o) := k.1 _ _ upd_same lk_tbl
  exact ⟨fun b u h hn => by
    have hb := ne_of_none h e
    rw [del_ne hb]
    exact k.1 b u (by rw [upd_ne hb]; exact h) hn, tabs_del h2 k.2⟩
theorem oneCell_by {cells : List (Str × Addr)} {scope : Scope} {y : Str} {c : Addr} (hc : cells.lookup y = some c) (hin : (y, NameKind.free) ∈ scope.names) (honly : ∀ z ∈ scope.names, z.2 = .free → z.1 = y) : OneCell (cloFrom cells scope.names []) y c := by
  have hf : ∀ z ∈ scope.names, z.2 = .free → ∃ c, cells.lookup z.1 = some c := fun z hz e => by
    rw [honly z hz e]
    exact ⟨c, hc⟩
  refine ⟨clo_has hf hin hc, fun z d e => ?_⟩
  rcases cloFrom_mem (PySem.mem_of_lookup e) with hm | ⟨h1, _⟩
  · cases hm
  · exact honly _ h1 rfl
/-- a folder's entries, for are_pairs -/
theorem ents_prs {H : Hp} (g : Node → Bool) : ∀ {vs : List V} {es : Ents}, EntsAt H vs es → ∃ ps : List Pr, PrsAt H vs ps ∧ (∀ p ∈ ps, ∃ e ∈ es.toList, p.1 = .str e.1 ∧ NodeAt H p.2.1 e.2 ∧ p.2.2.1 = isWordB e.1 ∧ p.2.2.2 = g e.2) ∧
    ps.map (·.1) = (es.toList.map (·.1)).map V.str ∧ (ps.all fun p => p.2.2.1 && p.2.2.2) = (es.toList.all fun e => isWordB e.1 && g e.2)
  | _, _, .nil => ⟨[], ⟨rfl, fun i v h => by simp at h⟩, fun p h => by simp at h, rfl, rfl⟩
  | _, _, @EntsAt.cons _ t x u n items es e a r => by
    obtain ⟨ps, h1, h2, h3, h4⟩ := ents_prs g r
    refine ⟨(.str x, u, isWordB x, g n) :: ps, ⟨?_, fun i v hi => ?_⟩, fun p hp => ?_, ?_, ?_⟩
    · show items.length + 1 = ps.length + 1
      rw [h1.1]
    · cases i with
      | zero =>
        cases hi
        exact ⟨t, _, rfl, rfl, e⟩
      | succ i => exact h1.2 i v hi
    · rcases List.mem_cons.mp hp with rfl | hp
      · exact ⟨(x, n), List.mem_cons_self, rfl, a, rfl, rfl⟩
      · obtain ⟨e', m, r⟩ := h2 p hp
        exact ⟨e', List.mem_cons_of_mem _ m, r⟩
    · show V.str x :: _ = V.str x :: _
      rw [h3]
    · show ((isWordB x && g n) && _) = ((isWordB x && g n) && _)
      rw [h4]
theorem sc_is_node : FnScope ["value", "deep"] ["value", "deep"] (defScope s_is_node) := ⟨rfl, rfl, rfl, by decide +kernel, rfl, by decide +kernel, by decide +kernel⟩
theorem str_ne {a b : Str} (h : ¬ a = b) : decide (V.str a = V.str b) = false := decide_eq_false fun z => h (V.str.inj z)
theorem str_eq {a : Str} : decide (V.str a = V.str a) = true := decide_eq_true rfl
theorem fold_ne : ¬ (sFolder = sFile) := by decide +kernel
theorem pe_caLk {X : Cx} {k j : Nat} {ps : List Str} {sp : Sp} {x y : Str} {p pos : Pos} {e : Expr} {es : List Expr} {t : TA} (c : Ca CX0 X.prog X.w X.K X.mg X.base k x ps sp) (hr : Room k X.A) (hg : Gl X x)
    (hN : X.N[j]? = some y) (hy : X.env.scope.names.lookup y = some .cell) (hfn : X.fn y = true) (ha : PA X (e :: es) t) (hdb : (x == ("__debug__" : Str)) = false := by decide)
    (he : starEach (e :: es) X.env = (false, eval e X.env) :: starEach es X.env := by rfl) (hpl : (backTo pos (starEach es X.env)).any (·.1) = false := by rfl) :
    PE X (.Call (.Name x p) (e :: es) [] pos) (tCallLk X y j sp t) := by
  obtain ⟨f, fd, F, m, kp, b⟩ := c
  exact pe_callLk F hr hg m kp b hN hy hfn ha hdb he hpl
theorem isNode_folder (d : Nat) (es : Ents) : isNodeB d (.folder es) = ((es.toList.all fun e => isWordB e.1 && (decide (0 < d) && isNodeB (d - 1) e.2)) && risingB ltStr (es.toList.map (·.1))) := by
  cases d with
  | zero => rfl
  | succ d => rfl
theorem hfree_node : ∀ y ∈ (lamScope eLam).names, y.2 = .free → (defScope s_is_node).names.lookup y.1 = some .cell ∨ (defScope s_is_node).names.lookup y.1 = some .free := by decide +kernel
theorem hin_node : (("deep" : Str), NameKind.free) ∈ (lamScope eLam).names := by decide +kernel
theorem honly_node : ∀ z ∈ (lamScope eLam).names, z.2 = .free → z.1 = ("deep" : Str) := by decide +kernel
/-- is_node for one depth more -/
theorem ok_is_node_step {f c Pt : Addr} {fd : FuncData} (X : Tx mg) (hk : 1 ≤ k) (cT : Ca CX0 P w K mg base 1 "is_tuple" ["value", "many"] spTuple) (cU : Ca CX0 P w K mg base 1 "is_number" ["value"] spNumber) (cW : Ca CX0 P w K mg base 1 "is_word" ["value"] spWord)
    (cP : Ca CX0 P w K mg base (k + 2) "are_pairs" ["value", "is_key", "is_worth"] (spPairs P w K mg base T (k + 1))) (cN : Ca CX0 P w K mg base k "is_node" ["value", "deep"] (spNode T D))
    (F : FunT K mg "is_node" s_is_node f fd c) (TB : TabB base mg c Pt) (hm : (Pt, qNode) ∈ T) (hu : ∀ p ∈ T, p.1 = Pt → p.2 = qNode) : FnOk P w K mg base CX0 (k + 3) f fd ["value", "deep"] (spNode T (D + 1)) := by
  obtain ⟨fw, fdw, FW, mW, kW, bW⟩ := cW
  refine F.ok sc_is_node (fun vs H Q E h => ?_) (fun A outer s H vs Q E hr h => ?_)
  · obtain ⟨v, n, d, rfl, _⟩ := h
    rfl
  · obtain ⟨v, n, d, rfl, hd, hn, hs, hT, q⟩ := h
    have hr1 : Room 1 _ := hr.mono (by omega)
    refine ⟨_, pss_cons (ps_if (PW.pt (pw_or (pt_not (pt_val (pe_ca cT hr1 (by rfl) (pa_cons (pv 0) (pa_cons pe_int pa_nil))))) (pw_or1 (pt_not (pt_val (pe_callB call_isi (by rfl) (X.b "isinstance") (by decide +kernel) (pa_cons (pe_ix ix_tup (pv 0) pe_int (fun _ _ => rfl)) (pa_cons (pe_bltn (v := .ty "str") (by rfl) (X.b "str") (by decide +kernel) rfl) pa_nil))))))))
        (pss_one (ps_ret pe_bl)) pss_nil)
      (pss_cons (ps_if (pt_cmpR op_eq (pe_ix ix_tup (pv 0) pe_int (fun _ _ => rfl)) (pe_gs X (by rfl) (z := sFile) (by decide +kernel)) (nomark _)) (pss_one (ps_ret (pe_ca cU hr1 (by rfl) (pa_cons (pe_ix ix_tup (pv 0) pe_int (fun _ _ => rfl)) pa_nil)))) pss_nil)
      (pss_cons (ps_if (pt_cmpR op_ne (pe_ix ix_tup (pv 0) pe_int (fun _ _ => rfl)) (pe_gs X (by rfl) (z := sFolder) (by decide +kernel)) (nomark _)) (pss_one (ps_ret pe_bl)) pss_nil)
      (pss_one (ps_ret (pe_caLk cP hr (by rfl) (y := "deep") (j := 1) rfl rfl rfl (pa_cons (pe_ix ix_tup (pv 0) pe_int (fun _ _ => rfl)) (pa_cons (pe_glob (v := .ref fw) (by rfl) mW rfl) (pa_cons (pe_lam TB rfl hm hu hfree_node) pa_nil)))))))), ?_⟩
    cases hn with
    | @file a m ha =>
      have s0 := SqT.of (K := K) ha
      refine ⟨_, rfl, a, 2, _, rfl, ha, true, rfl, iteF ?_⟩
      refine ⟨_, rfl, a, _, _, _, rfl, rfl, s0, at0, _, _, .type "str", .type "str", true, rfl, .ty "str", .base (.str _), kit_ty (by decide +kernel), true, rfl, iteF ?_⟩
      refine ⟨_, rfl, a, _, _, _, rfl, rfl, s0, at0, rfl, _, rfl, ?_⟩
      refine (if_pos str_eq).mpr ?_
      refine ⟨_, rfl, a, _, _, _, rfl, rfl, s0, at1, m, rfl, ?_⟩
      have z := q H ⟨extN_refl _, hT⟩
      unfold isNodeB at z
      exact z
    | @folder a b items es ha hb he =>
      have s0 := SqT.of (K := K) ha
      refine ⟨_, rfl, a, 2, _, rfl, ha, true, rfl, iteF ?_⟩
      refine ⟨_, rfl, a, _, _, _, rfl, rfl, s0, at0, _, _, .type "str", .type "str", true, rfl, .ty "str", .base (.str _), kit_ty (by decide +kernel), true, rfl, iteF ?_⟩
      refine ⟨_, rfl, a, _, _, _, rfl, rfl, s0, at0, rfl, _, rfl, ?_⟩
      refine (if_neg (by rw [str_ne fold_ne]; exact Bool.false_ne_true)).mpr ?_
      refine ⟨_, rfl, a, _, _, _, rfl, rfl, s0, at0, rfl, _, rfl, ?_⟩
      refine iteNS rfl ?_
      refine ⟨_, rfl, a, _, _, _, rfl, rfl, s0, at1, hT, fun fl c' H1 nf ex1 t1 hf hc => ⟨.int d, rfl, fun cy o u hcy hod ru ncy => ?_⟩⟩
      have oc := oneCell_by hcy hin_node honly_node
      have l1 := same_upd (o := Lk o) ncy
      have k1 : Kp T H (upd H1 cy (Lk o)) := ⟨ex1.trans (ext_same l1), t1.ext l1⟩
      obtain ⟨ps, p1, p2, p3, p4⟩ := ents_prs (fun n => decide (0 < d) && isNodeB (d - 1) n) he
      refine ⟨b, fw, fl, items, ps, spWord, spInner T d, rfl, k1.tup hb, p1.keep (tupK_ext k1.1), ?_, .inl ⟨fdw, _, FW.mono (by omega), kW, bW⟩, .inr ⟨wNode, "deep", .int d, ["node"], spLamN T D, ⟨_, c', cy, o, u, l1 _ _ hf, l1 _ _ hc, oc, upd_same, hod, ru⟩, (lok_node cN), ?_⟩, k1.2, ?_, ?_, ?_, ?_⟩
      · rw [he.len]
        exact hs.1
      · rintro vs H2 Q2 c2 o2 h2 ⟨v, n, rfl, hn, hs2, hT2, q2⟩
        exact ⟨v, n, d, rfl, rfl, hd, hn.keep (tupK_del h2), hs2, tabs_del h2 hT2, fun H3 k3 n3 => q2 _ (kp_lock h2 k3 n3)⟩
      · intro p hp H2 Q2 k2 q2
        obtain ⟨e, me, e1, e2, e3, e4⟩ := p2 p hp
        rw [e3] at q2
        exact ⟨e.1, by rw [e1], (sane_mem hs.2 me).1, fun H3 s3 => q2 H3 (kp_same s3 k2.2)⟩
      · intro p hp hb1 H2 Q2 k2 q2
        obtain ⟨e, me, e1, e2, e3, e4⟩ := p2 p hp
        rw [e4] at q2
        exact ⟨p.2.1, e.2, rfl, e2.keep (tupK_ext (k1.trans k2).1), (sane_mem hs.2 me).2, k2.2, q2⟩
      · rw [p3]
        exact alike_str _
      · intro H2 k2
        rw [p3, rising_str, p4, ← isNode_folder]
        exact q _ ((Kp.trans ⟨ex1, t1⟩ (kp_unlock ncy k2)))
theorem ok_is_node {f c Pt : Addr} {fd : FuncData} (X : Tx mg) (cT : Ca CX0 P w K mg base 1 "is_tuple" ["value", "many"] spTuple) (cU : Ca CX0 P w K mg base 1 "is_number" ["value"] spNumber) (cW : Ca CX0 P w K mg base 1 "is_word" ["value"] spWord)
    (cP : ∀ k, 1 ≤ k → Ca CX0 P w K mg base (k + 1) "are_pairs" ["value", "is_key", "is_worth"] (spPairs P w K mg base T k))
    (F : FunT K mg "is_node" s_is_node f fd c) (bN : Binds K fd ["value", "deep"] []) (TB : TabB base mg c Pt) (hm : (Pt, qNode) ∈ T) (hu : ∀ p ∈ T, p.1 = Pt → p.2 = qNode) : ∀ D, FnOk P w K mg base CX0 (3 * D + 1) f fd ["value", "deep"] (spNode T D)
  | 0 => ⟨fun vs H Q E h => by
      obtain ⟨v, n, d, _, hd, _⟩ := h
      exact absurd hd (Nat.not_lt_zero _), fun A outer s H args us vs Q E _ _ _ _ h => by
      obtain ⟨v, n, d, _, hd, _⟩ := h
      exact absurd hd (Nat.not_lt_zero _)⟩
  | D + 1 => by
    have ih := ok_is_node X cT cU cW cP F bN TB hm hu D
    have cN : Ca CX0 P w K mg base (3 * D + 1) "is_node" ["value", "deep"] (spNode T D) := ⟨f, fd, ih, F.gl, F.kp, bN⟩
    have z := ok_is_node_step (k := 3 * D + 1) X (by omega) cT cU cW (cP (3 * D + 1 + 1) (by omega)) cN F TB hm hu
    rw [show 3 * (D + 1) + 1 = 3 * D + 1 + 3 by omega]
    exact z
end
end KD3
end L2
set_option Elab.async false
set_option linter.all false
set_option maxRecDepth 100000
set_option maxHeartbeats 4000000
/-! k92: numbers_in, nodes_in -/
namespace L2
namespace KD4
open PySem PySem.Spec PyProof.Rows LamX NdefX KB KN KH KL KD1 KD2 KD3
abbrev s_numbers_in : Stmt := top 25
abbrev s_nodes_in : Stmt := top 26
def numsL (l : List (Str × Node)) : List Int := l.flatMap fun e => e.2.numbers
def cntL : List (Str × Node) → Nat
  | [] => 0
  | e :: r => (1 + e.2.count) + cntL r
theorem nums_eq : ∀ es : Ents, es.numbers = numsL es.toList
  | .nil => rfl
  | .cons x n r => by
    show n.numbers ++ r.numbers = n.numbers ++ numsL r.toList
    rw [nums_eq r]
theorem cnt_eq : ∀ es : Ents, es.count = cntL es.toList
  | .nil => rfl
  | .cons x n r => by
    show (1 + n.count) + r.count = (1 + n.count) + cntL r.toList
    rw [cnt_eq r]
theorem numsL_more {l : List (Str × Node)} {i : Nat} {e : Str × Node} (h : l[i]? = some e) : numsL (l.take (i + 1)) = numsL (l.take i) ++ e.2.numbers := by
  unfold numsL
  rw [take_more h, List.flatMap_append]
  simp
theorem numsL_le : ∀ (l : List (Str × Node)) (i : Nat), (numsL (l.take i)).length ≤ (numsL l).length
  | [], i => by simp [numsL]
  | e :: r, 0 => Nat.zero_le _
  | e :: r, i + 1 => by
    have ih := numsL_le r i
    show (e.2.numbers ++ numsL (r.take i)).length ≤ (e.2.numbers ++ numsL r).length
    rw [List.length_append, List.length_append]
    omega
theorem numsL_mem : ∀ {l : List (Str × Node)} {e : Str × Node}, e ∈ l → e.2.numbers.length ≤ (numsL l).length
  | [], e, h => by cases h
  | a :: r, e, h => by
    show _ ≤ (a.2.numbers ++ numsL r).length
    rw [List.length_append]
    rcases List.mem_cons.mp h with rfl | h
    · omega
    · have := numsL_mem h
      omega
section
variable {P : Program} {w : World} {K : PySem.W.Frag} {mg : Str → Option Value} {base : Heap} {f : Addr} {fd : FuncData} {k D : Nat}
def spNumbers (D : Nat) : Sp := fun vs H Q _ => ∃ (v : V) (n : Node), vs = [v] ∧ n.depth < D ∧ NodeAt H v n ∧ n.numbers.length < sizeLine ∧ ∀ H' p, Same H H' → H p = none → H' p = some (.lst (n.numbers.map V.int)) → Q (.ref p) H'
theorem sc_numbers_in : FnScope ["node", "name", "inner", "number"] ["node"] (defScope s_numbers_in) := ⟨rfl, rfl, rfl, by decide +kernel, rfl, by decide +kernel, by decide +kernel⟩
theorem ok_numbers_step (X : Tx mg) (cN : Ca CX0 P w K mg base k "numbers_in" ["node"] (spNumbers D)) (F : Fun K "numbers_in" "numbers_in" s_numbers_in f fd) : FnOk P w K mg base CX0 (k + 1) f fd ["node"] (spNumbers (D + 1)) := by
  refine F.ok sc_numbers_in (fun vs H Q E h => ?_) (fun cdv A outer s H vs Q E hr h => ?_)
  · obtain ⟨v, n, rfl, _⟩ := h
    rfl
  · obtain ⟨v, n, rfl, hd, hn, hl, q⟩ := h
    have nd := sc_numbers_in.nd
    refine ⟨_, pss_cons (ps_if (pt_cmpR op_eq (pe_ix ix_tup (pv 0) pe_int (fun _ _ => rfl)) (pe_gs X (by rfl) (z := sFile) (by decide +kernel)) (nomark _)) (pss_one (ps_ret (pe_lst (pa_cons (pe_ix ix_tup (pv 0) pe_int (fun _ _ => rfl)) pa_nil)))) pss_nil)
      (pss_one (ps_ret (pe_lc2 (own := [("name", 1), ("inner", 2), ("number", 3)]) (vs1 := [3]) (g := gTup K 2 (gCons (gName 1) (gCons (gName 2) gNil))) (tt := tYes) (g1 := gName 3) (tt1 := tYes) (wi1 := iList K (tCall (spNumbers D) [] E0 (tCons (tVar 2) tNil))) rfl nd (pi_tup (pe_ix ix_tup (pv 0) pe_int (fun _ _ => rfl)))
          (blkOk_by (N := ["node", "name", "inner", "number"]) (sc := defScope s_numbers_in) (by decide +kernel)) (by decide) (fun _ _ _ _ _ => pg_tup rfl (pgs_cons (pg_name (i := 1) nd rfl (Or.inl rfl)) (pgs_cons (pg_name (i := 2) nd rfl (Or.inl rfl)) pgs_nil))) (fun _ _ _ _ _ => pts_nil)
          (fun _ _ _ _ _ => pi_list (pe_ca cN hr (by rfl) (pa_cons (pv 2) pa_nil))) (fun _ _ _ _ _ => pg_name (i := 3) nd rfl (Or.inl rfl)) (fun _ _ _ _ _ => pts_nil) (fun _ _ _ _ _ => pv 3)))), ?_⟩
    cases hn with
    | @file a m ha =>
      have s0 := SqT.of (K := K) ha
      refine ⟨_, rfl, a, _, _, _, rfl, rfl, s0, at0, rfl, _, rfl, ?_⟩
      refine (if_pos str_eq).mpr ?_
      refine ⟨_, rfl, a, _, _, _, rfl, rfl, s0, at1, (by show 1 ≤ sizeLine; decide), fun p np => ?_⟩
      exact q _ p (same_upd np) np upd_same
    | @folder a b items es ha hb he =>
      have s0 := SqT.of (K := K) ha
      refine ⟨_, rfl, a, _, _, _, rfl, rfl, s0, at0, rfl, _, rfl, ?_⟩
      refine (if_neg (by rw [str_ne fold_ne]; exact Bool.false_ne_true)).mpr ?_
      have hl' : (numsL es.toList).length < sizeLine := by
        rw [← nums_eq]
        exact hl
      refine ⟨_, rfl, a, _, _, _, rfl, rfl, s0, at1, b, rfl, ⟨_, SqT.of hb⟩, fun D1 hD => ?_⟩
      refine lc2_it (walk_tup (K := K) (a := b) (xs := items)) (fun i H' => Same H H' ∧ H' D1 = some (.lst ((numsL (es.toList.take i)).map V.int))) ⟨same_upd hD, upd_same⟩ (fun i H' _ q => q.1.tup (SqT.of hb)) ?_ ?_
      · rintro i x H2 H3 hi ⟨s2, e2⟩ ⟨rfl, hx⟩
        obtain ⟨t, y, u, n, rfl, hm, ht, hnn⟩ := he.at_ hx
        have mem := List.mem_of_getElem? hm
        refine ⟨t, _, rfl, SqT.of (s2 _ _ ht), rfl, _, _, rfl, _, _, rfl, rfl, rfl, ?_⟩
        refine ⟨_, rfl, u, n, rfl, ?_, hnn.keep (tupK_same s2), Nat.lt_of_le_of_lt (numsL_mem mem) hl', fun H4 p s4 np e4 => ⟨p, rfl, ⟨_, SqL.of e4⟩, ?_⟩⟩
        · have h1 := depth_mem mem
          have h2 : es.depth + 1 < D + 1 := hd
          show n.depth < D
          exact Nat.lt_of_le_of_lt h1 (by omega)
        have nDp : D1 ≠ p := ne_of_none e2 np
        refine in_it (walk_list (K := K) (a := p) (xs := n.numbers.map V.int)) (fun j H' => Same H H' ∧ H' p = some (.lst (n.numbers.map V.int)) ∧ H' D1 = some (.lst ((numsL (es.toList.take i) ++ n.numbers.take j).map V.int))) ⟨s2.trans s4, e4, by rw [s4 _ _ e2, List.take_zero, List.append_nil]⟩ (fun i H' _ q => SqL.of q.2.1) ?_ ?_
        · rintro j x H5 H6 hj ⟨s5, e5, e6⟩ ⟨rfl, hx2⟩
          obtain ⟨m, hm2, rfl⟩ := map_at hx2
          refine ⟨rfl, _, rfl, _, e6, ?_, same_putD hD s5, by rw [upd_ne nDp.symm]; exact e5, ?_⟩
          · rw [List.length_map]
            refine Nat.lt_of_le_of_lt ?_ hl'
            have h1 := numsL_le es.toList (i + 1)
            rw [numsL_more hm, List.length_append] at h1
            replace h1 : (numsL (es.toList.take i)).length + n.numbers.length ≤ (numsL es.toList).length := h1
            rw [List.length_append, List.length_take]
            omega
          · rw [upd_same, take_more hm2, ← List.append_assoc, List.map_append (l₂ := [m])]
            rfl
        · rintro H5 ⟨s5, e5, e6⟩
          refine ⟨s5, ?_⟩
          rw [e6, List.length_map, List.take_length, numsL_more hm]
      · rintro H2 ⟨s2, e2⟩
        refine q H2 D1 s2 hD ?_
        rw [e2, he.len, List.take_length]
        show _ = some (HO.lst (es.numbers.map V.int))
        rw [nums_eq]
theorem ok_numbers_in (X : Tx mg) (F : Fun K "numbers_in" "numbers_in" s_numbers_in f fd) (m : mg "numbers_in" = some (.ref f)) (b : Binds K fd ["node"] []) : ∀ D, FnOk P w K mg base CX0 (D + 1) f fd ["node"] (spNumbers D)
  | 0 => ⟨fun vs H Q E h => by
      obtain ⟨v, n, _, hd, _⟩ := h
      exact absurd hd (Nat.not_lt_zero _), fun A outer s H args us vs Q E _ _ _ _ h => by
      obtain ⟨v, n, _, hd, _⟩ := h
      exact absurd hd (Nat.not_lt_zero _)⟩
  | D + 1 => ok_numbers_step X ⟨f, fd, ok_numbers_in X F m b D, m, F.kp, b⟩ F
def spCount (D : Nat) : Sp := fun vs H Q _ => ∃ (v : V) (n : Node), vs = [v] ∧ n.depth < D ∧ NodeAt H v n ∧ Sane n ∧ ∀ H', Same H H' → Q (.int n.count) H'
theorem sc_nodes_in : FnScope ["node", "name", "inner"] ["node"] (defScope s_nodes_in) := ⟨rfl, rfl, rfl, by decide +kernel, rfl, by decide +kernel, by decide +kernel⟩
abbrev cnts (l : List (Str × Node)) : List Int := l.map fun e => 1 + (e.2.count : Int)
theorem cnts_sum : ∀ l : List (Str × Node), (cnts l).sum = (cntL l : Int)
  | [] => rfl
  | e :: r => by
    have ih := cnts_sum r
    show ((1 + (e.2.count : Int)) :: cnts r).sum = (((1 + e.2.count) + cntL r : Nat) : Int)
    rw [List.sum_cons, ih]
    omega
theorem ok_count_step (X : Tx mg) (cN : Ca CX0 P w K mg base k "nodes_in" ["node"] (spCount D)) (F : Fun K "nodes_in" "nodes_in" s_nodes_in f fd) : FnOk P w K mg base CX0 (k + 1) f fd ["node"] (spCount (D + 1)) := by
  refine F.ok sc_nodes_in (fun vs H Q E h => ?_) (fun cdv A outer s H vs Q E hr h => ?_)
  · obtain ⟨v, n, rfl, _⟩ := h
    rfl
  · obtain ⟨v, n, rfl, hd, hn, hs, q⟩ := h
    have nd := sc_nodes_in.nd
    refine ⟨_, pss_one (ps_ret (pe_ifExp (pt_cmpR op_eq (pe_ix ix_tup (pv 0) pe_int (fun _ _ => rfl)) (pe_gs X (by rfl) (z := sFile) (by decide +kernel)) (nomark _)) pe_int
      (pe_callB (cr_sum rfl) (by rfl) (X.b "sum") (by decide +kernel) (pa_cons (pe_lc (own := [("name", 1), ("inner", 2)]) (g := gTup K 2 (gCons (gName 1) (gCons (gName 2) gNil))) (tt := tYes) rfl nd (pi_tup (pe_ix ix_tup (pv 0) pe_int (fun _ _ => rfl)))
          (blkOk_by (N := ["node", "name", "inner"]) (sc := defScope s_nodes_in) (by decide +kernel)) (fun _ _ _ _ _ => pg_tup rfl (pgs_cons (pg_name (i := 1) nd rfl (Or.inl rfl)) (pgs_cons (pg_name (i := 2) nd rfl (Or.inl rfl)) pgs_nil))) (fun _ _ _ _ _ => pts_nil)
          (fun _ _ _ _ _ => pe_op op_add pe_int (pe_ca cN hr (by rfl) (pa_cons (pv 2) pa_nil)))) pa_nil)))), ?_⟩
    cases hn with
    | @file a m ha =>
      have s0 := SqT.of (K := K) ha
      refine ⟨_, rfl, a, _, _, _, rfl, rfl, s0, at0, rfl, _, rfl, ?_⟩
      refine (if_pos str_eq).mpr ?_
      exact q H (Same.refl _)
    | @folder a b items es ha hb he =>
      have s0 := SqT.of (K := K) ha
      refine ⟨_, rfl, a, _, _, _, rfl, rfl, s0, at0, rfl, _, rfl, ?_⟩
      refine (if_neg (by rw [str_ne fold_ne]; exact Bool.false_ne_true)).mpr ?_
      refine ⟨_, rfl, a, _, _, _, rfl, rfl, s0, at1, b, rfl, ⟨_, SqT.of hb⟩, fun D1 hD => ?_⟩
      refine lc_it (walk_tup (K := K) (a := b) (xs := items)) (fun i H' => Same H H' ∧ H' D1 = some (.lst ((cnts (es.toList.take i)).map V.int))) ⟨same_upd hD, upd_same⟩ (fun i H' _ q => q.1.tup (SqT.of hb)) ?_ ?_
      · rintro i x H2 H3 hi ⟨s2, e2⟩ ⟨rfl, hx⟩
        obtain ⟨t, y, u, n, rfl, hm, ht, hnn⟩ := he.at_ hx
        have mem := List.mem_of_getElem? hm
        refine ⟨t, _, rfl, SqT.of (s2 _ _ ht), rfl, _, _, rfl, _, _, rfl, rfl, rfl, ?_⟩
        refine ⟨_, rfl, u, n, rfl, ?_, hnn.keep (tupK_same s2), (sane_mem hs.2 mem).2, fun H4 s4 => ⟨_, _, rfl, rfl, ?_⟩⟩
        · have h1 := depth_mem mem
          have h2 : es.depth + 1 < D + 1 := hd
          show n.depth < D
          exact Nat.lt_of_le_of_lt h1 (by omega)
        · refine lc_put (R := fun H' => Same H H') (acc := fun i => (cnts (es.toList.take i)).map V.int) (fun _ _ => same_putD hD) (s2.trans s4) (s4 _ _ e2) ?_ ?_
          · rw [List.length_map, List.length_map, List.length_take]
            have := hs.1
            omega
          · show (cnts (es.toList.take (i + 1))).map V.int = _
            rw [take_more hm]
            unfold cnts
            rw [List.map_append, List.map_append]
            rfl
      · rintro H2 ⟨s2, e2⟩
        refine ⟨D1, cnts es.toList, rfl, SqL.of (by rw [e2, he.len, List.take_length]), ?_⟩
        rw [cnts_sum, ← cnt_eq]
        exact q H2 s2
theorem ok_nodes_in (X : Tx mg) (F : Fun K "nodes_in" "nodes_in" s_nodes_in f fd) (m : mg "nodes_in" = some (.ref f)) (b : Binds K fd ["node"] []) : ∀ D, FnOk P w K mg base CX0 (D + 1) f fd ["node"] (spCount D)
  | 0 => ⟨fun vs H Q E h => by
      obtain ⟨v, n, _, hd, _⟩ := h
      exact absurd hd (Nat.not_lt_zero _), fun A outer s H args us vs Q E _ _ _ _ h => by
      obtain ⟨v, n, _, hd, _⟩ := h
      exact absurd hd (Nat.not_lt_zero _)⟩
  | D + 1 => ok_count_step X ⟨f, fd, ok_nodes_in X F m b D, m, F.kp, b⟩ F
end
end KD4
end L2
set_option Elab.async false
set_option linter.all false
set_option maxRecDepth 100000
set_option maxHeartbeats 4000000
/-! k92: is_tree -/
namespace L2
namespace KD5
open PySem PySem.Spec PyProof.Rows LamX NdefX KB KN KH KL KM KD1 KD2 KD3 KD4
abbrev s_is_tree : Stmt := top 27
/-! ### the plain facts -/
theorem mem_insI {n k : Int} : ∀ {l : List Int}, k ∈ insI n l ↔ k = n ∨ k ∈ l
  | [] => by simp [insI]
  | m :: r => by
    unfold insI
    by_cases h1 : n < m
    · rw [if_pos h1]
      simp
    · rw [if_neg h1]
      by_cases h2 : n = m
      · rw [if_pos h2]
        subst h2
        simp
      · rw [if_neg h2, List.mem_cons, mem_insI, List.mem_cons]
        constructor
        · rintro (h | h | h)
          · exact .inr (.inl h)
          · exact .inl h
          · exact .inr (.inr h)
        · rintro (h | h | h)
          · exact .inr (.inl h)
          · exact .inl h
          · exact .inr (.inr h)
theorem sort_insI {n : Int} : ∀ {l : List Int}, l.Pairwise (· < ·) → (insI n l).Pairwise (· < ·)
  | [], _ => List.pairwise_singleton _ _
  | m :: r, h => by
    obtain ⟨h1, h2⟩ := List.pairwise_cons.mp h
    unfold insI
    by_cases c1 : n < m
    · rw [if_pos c1]
      refine List.pairwise_cons.mpr ⟨fun k hk => ?_, h⟩
      rcases List.mem_cons.mp hk with rfl | hk
      · exact c1
      · exact Int.lt_trans c1 (h1 k hk)
    · rw [if_neg c1]
      by_cases c2 : n = m
      · rw [if_pos c2]
        exact h
      · rw [if_neg c2]
        refine List.pairwise_cons.mpr ⟨fun k hk => ?_, sort_insI h2⟩
        rcases mem_insI.mp hk with rfl | hk
        · omega
        · exact h1 k hk
theorem mem_sortSet {k : Int} : ∀ {l : List Int}, k ∈ sortSet l ↔ k ∈ l
  | [] => Iff.rfl
  | n :: r => by
    unfold sortSet
    rw [mem_insI, mem_sortSet, List.mem_cons]
theorem sort_sortSet : ∀ l : List Int, (sortSet l).Pairwise (· < ·)
  | [] => List.Pairwise.nil
  | n :: r => sort_insI (sort_sortSet r)
theorem sorted_one : ∀ {l m : List Int}, l.Pairwise (· < ·) → m.Pairwise (· < ·) → (∀ k, k ∈ l ↔ k ∈ m) → l = m
  | [], [], _, _, _ => rfl
  | [], b :: m, _, _, h => by
    have z := (h b).mpr List.mem_cons_self
    cases z
  | a :: l, [], _, _, h => by
    have z := (h a).mp List.mem_cons_self
    cases z
  | a :: l, b :: m, ha, hb, h => by
    obtain ⟨a1, a2⟩ := List.pairwise_cons.mp ha
    obtain ⟨b1, b2⟩ := List.pairwise_cons.mp hb
    have e : a = b := by
      rcases List.mem_cons.mp ((h a).mp List.mem_cons_self) with z | z
      · exact z
      · rcases List.mem_cons.mp ((h b).mpr List.mem_cons_self) with y | y
        · exact y.symm
        · have := a1 b y
          have := b1 a z
          omega
    subst e
    rw [sorted_one a2 b2 fun k => ?_]
    constructor
    · intro hk
      rcases List.mem_cons.mp ((h k).mp (List.mem_cons_of_mem _ hk)) with z | z
      · have := a1 k hk
        omega
      · exact z
    · intro hk
      rcases List.mem_cons.mp ((h k).mpr (List.mem_cons_of_mem _ hk)) with z | z
      · have := b1 k hk
        omega
      · exact z
theorem is_sortSet {ns l : List Int} (h1 : ns.Pairwise (· < ·)) (h2 : ∀ k : Int, k ∈ ns ↔ decide (k ∈ l) = true) : ns = sortSet l :=
  sorted_one h1 (sort_sortSet l) fun k => by rw [h2, mem_sortSet, decide_eq_true_iff]
theorem depth_ents {d : Nat} : ∀ {es : Ents}, (∀ e ∈ es.toList, e.2.depth ≤ d) → es.depth ≤ d
  | .nil, _ => Nat.zero_le _
  | .cons x n r, h => Nat.max_le.mpr ⟨h (x, n) List.mem_cons_self, depth_ents fun e he => h e (List.mem_cons_of_mem _ he)⟩
theorem depth_of : ∀ {d : Nat} {n : Node}, isNodeB d n = true → n.depth ≤ d + 1
  | d, .file m, _ => Nat.zero_le _
  | 0, .folder es, h => by
    have h1 := (Bool.and_eq_true_iff.mp h).1
    refine Nat.succ_le_succ (depth_ents fun e he => ?_)
    have z := List.all_eq_true.mp h1 e he
    rw [Bool.and_false] at z
    cases z
  | d + 1, .folder es, h => by
    have h1 := (Bool.and_eq_true_iff.mp h).1
    refine Nat.succ_le_succ (depth_ents fun e he => ?_)
    have z := List.all_eq_true.mp h1 e he
    exact depth_of (Bool.and_eq_true_iff.mp z).2
mutual
theorem nums_le : ∀ n : Node, n.numbers.length ≤ 1 + n.count
  | .file n => Nat.le_refl _
  | .folder es => Nat.le_trans (nums_leE es) (Nat.le_add_left _ _)
theorem nums_leE : ∀ es : Ents, es.numbers.length ≤ es.count
  | .nil => Nat.le_refl _
  | .cons x n r => by
    show (n.numbers ++ r.numbers).length ≤ (1 + n.count) + r.count
    rw [List.length_append]
    have := nums_le n
    have := nums_leE r
    omega
end
theorem intsD (ns : List Int) {K : PySem.W.Frag} {H : Hp} : DpAll K H (ns.map V.int) (ns.map PyData.int) := by
  induction ns with
  | nil => exact .nil
  | cons n r ih => exact .cons (.int n) ih
theorem eqv_ints (ns ms : List Int) : PyData.eqv (.list (ns.map PyData.int)) (.list (ms.map PyData.int)) = decide (ns = ms) := by
  rw [PyData.eqv]
  exact PySem.W.ked_eqvAll ns ms
section
variable {P : Program} {w : World} {K : PySem.W.Frag} {mg : Str → Option Value} {base : Heap} {f : Addr} {fd : FuncData} {T : Tb}
def SaneP (ps : Pairs) : Prop := ps.length < sizeLine ∧ ∀ p ∈ ps, p.2.length ≤ sizeLine
def spTree (T : Tb) : Sp := fun vs H Q _ => ∃ (v : V) (root : Node) (ps : Pairs), vs = [v] ∧ TreeAt H v root ps ∧ Sane root ∧ SaneP ps ∧ Tabs T H ∧ ∀ H', Kp T H H' → Q (.bl (isTreeB root ps)) H'
theorem pairs_prs {H : Hp} : ∀ {vs : List V} {ps : Pairs}, PairsAt H vs ps → PrsAt H vs (ps.map fun p => (V.int p.1, V.str p.2, isNumberB p.1, isWordB p.2))
  | _, _, .nil => ⟨rfl, fun i v h => by simp at h⟩
  | _, _, @PairsAt.cons _ t n z items ps e r => by
    have ih := pairs_prs r
    refine ⟨?_, fun i v hi => ?_⟩
    · show items.length + 1 = (ps.map _).length + 1
      rw [ih.1]
    · cases i with
      | zero =>
        cases hi
        exact ⟨t, _, rfl, rfl, e⟩
      | succ i => exact ih.2 i v hi
theorem sc_is_tree : FnScope ["value", "number", "word"] ["value"] (defScope s_is_tree) := ⟨rfl, rfl, rfl, by decide +kernel, rfl, by decide +kernel, by decide +kernel⟩
theorem ok_is_tree (X : Tx mg) (cT : Ca CX0 P w K mg base 1 "is_tuple" ["value", "many"] spTuple) (cU : Ca CX0 P w K mg base 1 "is_number" ["value"] spNumber) (cW : Ca CX0 P w K mg base 1 "is_word" ["value"] spWord)
    (cP : Ca CX0 P w K mg base 2 "are_pairs" ["value", "is_key", "is_worth"] (spPairs P w K mg base T 1)) (cN : Ca CX0 P w K mg base 22 "is_node" ["value", "deep"] (spNode T 7))
    (cC : Ca CX0 P w K mg base 9 "nodes_in" ["node"] (spCount 8)) (cM : Ca CX0 P w K mg base 9 "numbers_in" ["node"] (spNumbers 8)) (F : Fun K "is_tree" "is_tree" s_is_tree f fd) : FnOk P w K mg base CX0 23 f fd ["value"] (spTree T) := by
  obtain ⟨fw, fdw, FW, mW, kW, bW⟩ := cW
  obtain ⟨fu, fdu, FU, mU, kU, bU⟩ := cU
  refine F.ok sc_is_tree (fun vs H Q E h => ?_) (fun cdv A outer s H vs Q E hr h => ?_)
  · obtain ⟨v, root, ps, rfl, _⟩ := h
    rfl
  · obtain ⟨v, root, ps, rfl, ⟨a, b, rv, items, rfl, ha, hn, hb, hp⟩, hs, hsp, hT, q⟩ := h
    have nd := sc_is_tree.nd
    have hr1 : Room 1 _ := hr.mono (by decide)
    have hr2 : Room 2 _ := hr.mono (by decide)
    have hr9 : Room 9 _ := hr.mono (by decide)
    refine ⟨_, pss_cons (ps_if (PW.pt (pw_or (pt_not (pt_val (pe_ca cT hr1 (by rfl) (pa_cons (pv 0) (pa_cons pe_int pa_nil))))) (pw_or (pt_not (pt_val (pe_ca cN hr (by rfl) (pa_cons (pe_ix ix_tup (pv 0) pe_int (fun _ _ => rfl)) (pa_cons (pe_gi X (by rfl) (n := 6) (by decide +kernel)) pa_nil)))))
        (pw_or1 (pt_cmpR op_ne (pe_ix ix_tup (pe_ix ix_tup (pv 0) pe_int (fun _ _ => rfl)) pe_int (fun _ _ => rfl)) (pe_gs X (by rfl) (z := sFolder) (by decide +kernel)) (nomark _)))))) (pss_one (ps_ret pe_bl)) pss_nil)
      (pss_cons (ps_if (PW.pt (pw_or (pt_cmpR op_gt (pe_ca cC hr9 (by rfl) (pa_cons (pe_ix ix_tup (pv 0) pe_int (fun _ _ => rfl)) pa_nil)) (pe_gi X (by rfl) (n := 60) (by decide +kernel)) (nomark _))
        (pw_or1 (pt_not (pt_val (pe_ca cP hr2 (by rfl) (pa_cons (pe_ix ix_tup (pv 0) pe_int (fun _ _ => rfl)) (pa_cons (pe_glob (v := .ref fu) (by rfl) mU rfl) (pa_cons (pe_glob (v := .ref fw) (by rfl) mW rfl) pa_nil))))))))) (pss_one (ps_ret pe_bl)) pss_nil)
      (pss_one (ps_ret (pe_cmpR (op_eqD hr.units) (pe_lc (own := [("number", 1), ("word", 2)]) (g := gTup K 2 (gCons (gName 1) (gCons (gName 2) gNil))) (tt := tYes) rfl nd (pi_tup (pe_ix ix_tup (pv 0) pe_int (fun _ _ => rfl)))
          (blkOk_by (N := ["value", "number", "word"]) (sc := defScope s_is_tree) (by decide +kernel)) (fun _ _ _ _ _ => pg_tup rfl (pgs_cons (pg_name (i := 1) nd rfl (Or.inl rfl)) (pgs_cons (pg_name (i := 2) nd rfl (Or.inl rfl)) pgs_nil))) (fun _ _ _ _ _ => pts_nil) (fun _ _ _ _ _ => pv 1))
        (pe_callB (cr_sortedSet rfl) (by rfl) (X.b "sorted") (by decide +kernel) (pa_cons (pe_callTy (cr_setL rfl) (by rfl) (X.b "set") (by decide +kernel) (pa_cons (pe_ca cM hr9 (by rfl) (pa_cons (pe_ix ix_tup (pv 0) pe_int (fun _ _ => rfl)) pa_nil)) pa_nil)) pa_nil)) (nomark _))))), ?_⟩
    have s0 := SqT.of (K := K) ha
    refine ⟨_, rfl, a, 2, _, rfl, ha, true, rfl, iteF ?_⟩
    refine ⟨_, rfl, a, _, _, _, rfl, rfl, s0, at0, rv, root, 6, rfl, by decide, hn, hs, hT, fun H1 k1 => ⟨_, rfl, iteN (fun b1 => ?_) (fun b1 => ?_)⟩⟩
    · have z := q H1 k1
      unfold isTreeB at z
      rw [b1, Bool.false_and, Bool.false_and, Bool.false_and, Bool.false_and] at z
      exact z
    have dep : root.depth < 8 := Nat.lt_succ_of_le (depth_of b1)
    have hn1 := hn.keep (tupK_ext k1.1)
    have s1 := SqT.of (K := K) (k1.tup ha)
    cases hn1 with
    | @file c m hc =>
      refine ⟨_, rfl, a, _, _, _, rfl, rfl, s1, at0, c, _, _, _, rfl, rfl, SqT.of hc, at0, rfl, _, rfl, ?_⟩
      have e : (!decide (V.str sFile = V.str sFolder)) = true := by rw [str_ne (fun z => fold_ne z.symm)] <;> rfl
      refine (if_pos e).mpr ?_
      have z := q H1 k1
      unfold isTreeB at z
      rw [b1] at z
      exact z
    | @folder c d its es hc hd he =>
      refine ⟨_, rfl, a, _, _, _, rfl, rfl, s1, at0, c, _, _, _, rfl, rfl, SqT.of hc, at0, rfl, _, rfl, ?_⟩
      refine iteNS rfl ?_
      have hn1 : NodeAt H1 (.ref c) (.folder es) := .folder hc hd he
      refine ⟨_, rfl, a, _, _, _, rfl, rfl, s1, at0, .ref c, .folder es, rfl, dep, hn1, hs, fun H2 s2 => ⟨_, _, rfl, rfl, _, rfl, ?_⟩⟩
      have k2 := k1.same s2
      refine ited (fun h60 => ?_) (fun h60 => ?_)
      · refine iteT ?_
        have z := q H2 k2
        unfold isTreeB at z
        rw [decide_eq_false (show ¬ (Node.folder es).count ≤ 60 by omega), Bool.and_false, Bool.false_and, Bool.false_and] at z
        exact z
      have c60 : (Node.folder es).count ≤ 60 := by omega
      have s3 := SqT.of (K := K) (k2.tup ha)
      have hp2 := hp.keep (tupK_ext k2.1)
      refine ⟨_, rfl, a, _, _, _, rfl, rfl, s3, at1, b, fu, fw, items, _, spNumber, spWord, rfl, k2.tup hb, pairs_prs hp2, by rw [hp.len]; exact hsp.1, .inl ⟨fdu, _, FU, kU, bU⟩, .inl ⟨fdw, _, FW, kW, bW⟩, k2.2, ?_, ?_, ?_, fun H3 k3 => ⟨_, rfl, ?_⟩⟩
      · intro e he H4 Q4 k4 q4
        obtain ⟨p, hp, rfl⟩ := List.mem_map.mp he
        exact ⟨p.1, rfl, q4 _ ⟨extN_refl _, k4.2⟩⟩
      · intro e he _ H4 Q4 k4 q4
        obtain ⟨p, hp, rfl⟩ := List.mem_map.mp he
        exact ⟨p.2, rfl, hsp.2 p hp, fun H5 s5 => q4 _ (kp_same s5 k4.2)⟩
      · rw [List.map_map]
        show Alike (ps.map fun p => V.int p.1)
        rw [show (ps.map fun p => V.int p.1) = (ps.map (·.1)).map V.int by rw [List.map_map]; rfl]
        exact alike_int _
      have pe : (((ps.map fun p => ((V.int p.1, V.str p.2, isNumberB p.1, isWordB p.2) : Pr)).all fun e => e.2.2.1 && e.2.2.2) && risingB ltB ((ps.map fun p => ((V.int p.1, V.str p.2, isNumberB p.1, isWordB p.2) : Pr)).map (·.1))) = ((ps.all fun p => isNumberB p.1 && isWordB p.2) && risingB ltInt (ps.map (·.1))) := by
        rw [List.all_map, List.map_map]
        rw [show (ps.map ((fun e : Pr => e.1) ∘ fun p => ((V.int p.1, V.str p.2, isNumberB p.1, isWordB p.2) : Pr))) = (ps.map (·.1)).map V.int by rw [List.map_map]; rfl, rising_int]
        rfl
      rw [pe]
      have k13 := k2.trans k3
      refine iteN (fun b2 => ?_) (fun b2 => ?_)
      · have z := q H3 k13
        unfold isTreeB at z
        rw [b2, Bool.and_false, Bool.false_and] at z
        exact z
      have tr : isTreeB (.folder es) ps = decide (ps.map (·.1) = sortSet (Node.folder es).numbers) := by
        unfold isTreeB
        rw [b1, b2, decide_eq_true c60]
        rfl
      rw [tr] at q
      have ha3 := k13.tup ha
      have hb3 := k13.tup hb
      have hp3 := hp.keep (tupK_ext k13.1)
      refine ⟨_, rfl, a, _, _, _, rfl, rfl, SqT.of ha3, at1, b, rfl, ⟨_, SqT.of hb3⟩, fun D1 hD => ?_⟩
      refine lc_it (walk_tup (K := K) (a := b) (xs := items)) (fun i H' => Same H3 H' ∧ H' D1 = some (.lst (((ps.take i).map (·.1)).map V.int))) ⟨same_upd hD, upd_same⟩ (fun i H' _ q => q.1.tup (SqT.of hb3)) ?_ ?_
      · rintro i x H5 H6 hi ⟨s5, e5⟩ ⟨rfl, hx⟩
        obtain ⟨t, n, y, rfl, hm, ht⟩ := hp3.at_ hx
        refine ⟨t, _, rfl, SqT.of (s5 _ _ ht), rfl, _, _, rfl, _, _, rfl, rfl, rfl, _, rfl, ?_⟩
        refine lc_put (R := fun H' => Same H3 H') (acc := fun i => ((ps.take i).map (·.1)).map V.int) (fun _ _ => same_putD hD) s5 e5 ?_ ?_
        · rw [List.length_map, List.length_map, List.length_take]
          have := hsp.1
          omega
        · show ((ps.take (i + 1)).map (·.1)).map V.int = _
          rw [take_more hm, List.map_append, List.map_append]
          rfl
      rintro H5 ⟨s5, e5⟩
      have k5 := k13.same s5
      have e5' : H5 D1 = some (.lst ((ps.map (·.1)).map V.int)) := by rw [e5, hp.len, List.take_length]
      have nl : (Node.folder es).numbers.length ≤ 60 := Nat.le_trans (nums_leE es) c60
      refine ⟨_, rfl, a, _, _, _, rfl, rfl, SqT.of (k5.tup ha), at0, .ref c, .folder es, rfl, dep, hn1.keep ((tupK_same s2).trans ((tupK_ext k3.1).trans (tupK_same s5))), Nat.lt_of_le_of_lt nl (by decide), fun H6 p s6 np e6 => ?_⟩
      refine ⟨p, (Node.folder es).numbers, rfl, SqL.of e6, by omega, fun p2 c2 np2 hc2 => ?_⟩
      refine ⟨p2, _, c2, rfl, upd_same, by omega, fun ns p3 h1 h2 h3 np3 => ?_⟩
      obtain rfl := is_sortSet h1 h2
      have k6 := ((k5.same s6).same (same_upd (o := SetO w p2 (fun j => decide (j ∈ (Node.folder es).numbers)) c2) np2)).same (same_upd (o := .lst ((sortSet (Node.folder es).numbers).map V.int)) np3)
      have e7 := (same_upd (o := .lst ((sortSet (Node.folder es).numbers).map V.int)) np3) _ _ ((same_upd (o := SetO w p2 (fun j => decide (j ∈ (Node.folder es).numbers)) c2) np2) _ _ (s6 _ _ e5'))
      refine ⟨_, _, .lst (SqL.of e7) (intsD _), .lst (SqL.of upd_same) (intsD _), PySem.W.ke_shaped_ints _, PySem.W.ke_shaped_ints _, ?_⟩
      rw [eqv_ints]
      exact q _ k6
end
end KD5
end L2
set_option Elab.async false
set_option linter.all false
set_option maxRecDepth 100000
set_option maxHeartbeats 4000000
/-! k92: BadTree, BadText made; need_tree -/
namespace L2
namespace KD6
open PySem PySem.Spec PyProof.Rows LamX NdefX KB KN KH KL KM KX KD1 KD2 KD3 KD4 KD5
abbrev s_bt : Stmt := inClass (top 2) 0
abbrev s_bx : Stmt := inClass (top 9) 0
abbrev s_need_tree : Stmt := top 28
section
variable {P : Program} {w : World} {K : PySem.W.Frag} {mg : Str → Option Value} {base : Heap} {f : Addr} {fd : FuncData} {T : Tb} {C fI cc cda : Addr}
def spBT (C : Addr) : Sp := fun vs H Q _ => ∃ (a : Addr) (v : V), vs = [.ref a, v] ∧ H a = some (exo a C none) ∧ ∀ d, H d = none → d ≠ a → Q .non (upd (upd H d (exd d [("value", v)])) a (exo a C (some d)))
def spBX (C : Addr) : Sp := fun vs H Q _ => ∃ (a : Addr) (l v : V), vs = [.ref a, l, v] ∧ H a = some (exo a C none) ∧ ∀ d, H d = none → d ≠ a → Q .non (upd (upd (upd H d (exd d [("line", l)])) a (exo a C (some d))) d (exd d [("word", v), ("line", l)]))
/-- the class C can be made by its __init__ -/
def MkX (P : Program) (w : World) (K : PySem.W.Frag) (mg : Str → Option Value) (base : Heap) (x : Str) (C : Addr) (ps : List Str) (sp : Sp) : Prop :=
  ∃ (fI : Addr) (fd : FuncData), OexC K C ∧ PySem.W.findIn K (.ref C) "__init__" = some (some (.ref fI)) ∧ PySem.W.typeIn K (.ref fI) = some (.type "function") ∧ FnOk P w K mg base CX0 1 fI fd ps sp ∧ Binds K fd ps [] ∧ mg x = some (.ref C)
theorem mkx_bt (E : ExK P K mg C fI cc cda "BadTree" "BadTree.__init__" s_bt) (nv : PySem.W.findIn K (.ref C) "value" = some none) : MkX P w K mg base "BadTree" C ["self", "value"] (spBT C) := by
  obtain ⟨oc, od, kV, doc, pm, an, ct, osl, lk⟩ := E.fn
  refine ⟨fI, _, E.oex, E.iC, E.tI, ok_exinit (N := ["self", "value", "__class__"]) (j := 0) (rest := (defBody s_bt).drop 1) E lk (nscope_by (by decide +kernel)) rfl rfl rfl rfl (by decide +kernel) (by decide +kernel) (fun X => rfl) (fun vs H Q E h => ?_) (fun A outer s H vs Q E0 h => ?_), .all fun us hl => match us, hl with | [_, _], _ => rfl, E.gC⟩
  · obtain ⟨a, v, rfl, _⟩ := h
    rfl
  · obtain ⟨a, v, rfl, ea, q⟩ := h
    refine ⟨a, [v], _, rfl, ea, pss_one (ps_ost (pv 0) (pv 1)), ?_⟩
    exact ⟨_, rfl, _, rfl, a, C, rfl, E.oex, nv, .inl ⟨ea, fun d nd na => q d nd na⟩⟩
theorem mkx_bx (E : ExK P K mg C fI cc cda "BadText" "BadText.__init__" s_bx) (nl : PySem.W.findIn K (.ref C) "line" = some none) (nw : PySem.W.findIn K (.ref C) "word" = some none) : MkX P w K mg base "BadText" C ["self", "line", "word"] (spBX C) := by
  obtain ⟨oc, od, kV, doc, pm, an, ct, osl, lk⟩ := E.fn
  refine ⟨fI, _, E.oex, E.iC, E.tI, ok_exinit (N := ["self", "line", "word", "__class__"]) (j := 0) (rest := (defBody s_bx).drop 1) E lk (nscope_by (by decide +kernel)) rfl rfl rfl rfl (by decide +kernel) (by decide +kernel) (fun X => rfl) (fun vs H Q E h => ?_) (fun A outer s H vs Q E0 h => ?_), .all fun us hl => match us, hl with | [_, _, _], _ => rfl, E.gC⟩
  · obtain ⟨a, l, v, rfl, _⟩ := h
    rfl
  · obtain ⟨a, l, v, rfl, ea, q⟩ := h
    refine ⟨a, [l, v], _, rfl, ea, pss_cons (ps_ost (pv 0) (pv 1)) (pss_one (ps_ost (pv 0) (pv 2))), ?_⟩
    refine ⟨_, rfl, _, rfl, a, C, rfl, E.oex, nl, .inl ⟨ea, fun d nd na => ?_⟩⟩
    exact ⟨_, rfl, _, rfl, a, C, rfl, E.oex, nw, .inr ⟨d, _, upd_same, by rw [upd_ne na, upd_same], (by show 1 ≤ 900; decide), q d nd na⟩⟩
section
variable {X : Cx} {ps : List Str} {sp : Sp} {x : Str} {p pos : Pos} {e : Expr} {es : List Expr} {ta : TA}
theorem pmk_x (M : MkX X.prog X.w X.K X.mg X.base x C ps sp) (hr : Room 2 X.A) (hg : Gl X x) (ha : PA X (e :: es) ta)
    (hdb : (x == ("__debug__" : Str)) = false := by decide) (he : starEach (e :: es) X.env = (false, eval e X.env) :: starEach es X.env := by rfl) (hpl : (backTo pos (starEach es X.env)).any (·.1) = false := by rfl) :
    PMk X (.Call (.Name x p) (e :: es) [] pos) (tMkO C sp [] ta) := by
  obtain ⟨fI, fd, T, iC, tI, F, b, m⟩ := M
  exact pmk_oex T iC tI F hr b .nil pass0 hg m ha hdb he hpl
end
/-- BadTree(v), read -/
theorem del_upd2 {H : Hp} {a d : Addr} {o1 o2 : HO} {fs : HO} (na : H a = none) (h : d ≠ a) : upd (del (upd (upd (upd H a o1) d o2) a o1) a) d fs = upd H d fs := by
  funext b
  by_cases hb : b = d
  · rw [hb, upd_same, upd_same]
  · rw [upd_ne hb, upd_ne hb]
    by_cases ha : b = a
    · rw [ha, del_same, na]
    · rw [del_ne ha, upd_ne ha, upd_ne hb, upd_ne ha]
theorem tree_made {H : Hp} {v : V} {Q : XK} {C : Addr} (q : ∀ d, H d = none → Q (.ref C) (some d) (upd H d (.xd [("value", v)]))) : [v].length ≤ 1000 ∧ ∀ a, H a = none → spBT C (.ref a :: ([v] ++ [])) (upd H a (exo a C none))
    (fun v H2 => v = .non ∧ ∃ (d : Addr) (fs : List (Str × V)), H2 a = some (exo a C (some d)) ∧ H2 d = some (exd d fs) ∧ H d = none ∧ Q (.ref C) (some d) (upd (del H2 a) d (.xd fs))) (fun _ _ _ => False) := by
  refine ⟨by show 1 ≤ 1000; decide, fun a na => ⟨a, v, rfl, upd_same, fun d nd nda => ⟨rfl, d, _, upd_same, by rw [upd_ne nda, upd_same], ?_, ?_⟩⟩⟩
  · rw [upd_ne nda] at nd
    exact nd
  · have nd' : H d = none := by
      rw [upd_ne nda] at nd
      exact nd
    have e : upd (del (upd (upd (upd H a (exo a C none)) d (exd d [("value", v)])) a (exo a C (some d))) a) d (.xd [("value", v)]) = upd H d (.xd [("value", v)]) := by
      funext b
      by_cases hb : b = d
      · rw [hb, upd_same, upd_same]
      · rw [upd_ne hb, upd_ne hb]
        by_cases ha : b = a
        · rw [ha, del_same, na]
        · rw [del_ne ha, upd_ne ha, upd_ne hb, upd_ne ha]
    rw [e]
    exact q d nd'
theorem text_made {H : Hp} {l v : V} {Q : XK} {C : Addr} (q : ∀ d, H d = none → Q (.ref C) (some d) (upd H d (.xd [("word", v), ("line", l)]))) : [l, v].length ≤ 1000 ∧ ∀ a, H a = none → spBX C (.ref a :: ([l, v] ++ [])) (upd H a (exo a C none))
    (fun v H2 => v = .non ∧ ∃ (d : Addr) (fs : List (Str × V)), H2 a = some (exo a C (some d)) ∧ H2 d = some (exd d fs) ∧ H d = none ∧ Q (.ref C) (some d) (upd (del H2 a) d (.xd fs))) (fun _ _ _ => False) := by
  refine ⟨by show 2 ≤ 1000; decide, fun a na => ⟨a, l, v, rfl, upd_same, fun d nd nda => ⟨rfl, d, _, by rw [upd_ne (Ne.symm nda), upd_same], upd_same, ?_, ?_⟩⟩⟩
  · rw [upd_ne nda] at nd
    exact nd
  · have nd' : H d = none := by
      rw [upd_ne nda] at nd
      exact nd
    have e : upd (del (upd (upd (upd (upd H a (exo a C none)) d (exd d [("line", l)])) a (exo a C (some d))) d (exd d [("word", v), ("line", l)])) a) d (.xd [("word", v), ("line", l)]) = upd H d (.xd [("word", v), ("line", l)]) := by
      funext b
      by_cases hb : b = d
      · rw [hb, upd_same, upd_same]
      · rw [upd_ne hb, upd_ne hb]
        by_cases ha : b = a
        · rw [ha, del_same, na]
        · rw [del_ne ha, upd_ne hb, upd_ne ha, upd_ne hb, upd_ne ha]
    rw [e]
    exact q d nd'
/-- need_tree: the tree itself, or BadTree of it -/
def spNeed (T : Tb) (C : Addr) : Sp := fun vs H Q E => ∃ (v : V) (root : Node) (ps : Pairs), vs = [v] ∧ TreeAt H v root ps ∧ Sane root ∧ SaneP ps ∧ Tabs T H ∧
  (isTreeB root ps = true → ∀ H', Kp T H H' → Q v H') ∧ (isTreeB root ps = false → ∀ H' d, Kp T H H' → H' d = none → E (.ref C) (some d) (upd H' d (.xd [("value", v)])))
theorem sc_need_tree : FnScope ["tree"] ["tree"] (defScope s_need_tree) := ⟨rfl, rfl, rfl, by decide +kernel, rfl, by decide +kernel, by decide +kernel⟩
theorem ok_need_tree (cI : Ca CX0 P w K mg base 23 "is_tree" ["value"] (spTree T)) (M : MkX P w K mg base "BadTree" C ["self", "value"] (spBT C)) (F : Fun K "need_tree" "need_tree" s_need_tree f fd) :
    FnOk P w K mg base (L2.CX P w) 24 f fd ["tree"] (spNeed T C) := by
  refine F.okX sc_need_tree (fun vs H Q E h => ?_) (fun cdv A outer s H vs Q E hr h => ?_)
  · obtain ⟨v, root, ps, rfl, _⟩ := h
    rfl
  · obtain ⟨v, root, ps, rfl, ht, hs, hsp, hT, q1, q2⟩ := h
    have hr2 : Room 2 _ := hr.mono (by decide)
    refine ⟨_, pss_cons (ps_if (pt_not (pt_val (pe_ca cI hr (by rfl) (pa_cons (pv 0) pa_nil)))) (pss_one (ps_raise rfl (takes_of rfl rfl rfl rfl) (pmk_x M hr2 (by rfl) (pa_cons (pv 0) pa_nil)))) pss_nil) (pss_one (ps_ret (pv 0))), ?_⟩
    refine ⟨_, rfl, v, root, ps, rfl, ht, hs, hsp, hT, fun H1 k1 => ⟨_, rfl, iteN (fun b => ?_) (fun b => ?_)⟩⟩
    · exact ⟨_, rfl, tree_made fun d nd => q2 b H1 d k1 nd⟩
    · exact ⟨_, rfl, q1 b H1 k1⟩
end
end KD6
end L2
set_option Elab.async false
set_option linter.all false
set_option maxRecDepth 100000
set_option maxHeartbeats 4000000
/-! k92: path_text, nodes_text, pairs_text, tree_text -/
namespace L2
namespace KD7
open PySem PySem.Spec PyProof.Rows LamX NdefX KB KN KH KL KM KX KD1 KD2 KD3 KD4 KD5 KD6
abbrev s_path_text : Stmt := top 37
abbrev s_nodes_text : Stmt := top 38
abbrev s_pairs_text : Stmt := top 39
abbrev s_tree_text : Stmt := top 40
/-! ### texts' sizes -/
theorem join_len (sep : Str) (ys : List Str) : (Txt.join sep ys).length ≤ (ys.map (·.length)).sum + ys.length * sep.length := by
  show (Builtin.Str.glued sep ys).length ≤ _
  rw [StrLaws.glued_eq_join]
  cases ys with
  | nil => show (Str.empty).length ≤ _; simp [Str.empty, Str.length]
  | cons a l =>
    rw [len_join_cons, List.length_cons, Nat.add_mul]
    omega
theorem sum_le {ys : List Str} {n : Nat} (h : ∀ y ∈ ys, y.length ≤ n) : (ys.map (·.length)).sum ≤ ys.length * n := by
  induction ys with
  | nil => simp
  | cons a l ih =>
    have h1 := h a List.mem_cons_self
    have h2 := ih fun y hy => h y (List.mem_cons_of_mem _ hy)
    rw [List.map_cons, List.sum_cons, List.length_cons, Nat.add_mul]
    omega
theorem strsD (ss : List Str) {K : PySem.W.Frag} {H : Hp} : DpAll K H (ss.map V.str) (ss.map PyData.str) := by
  induction ss with
  | nil => exact .nil
  | cons n r ih => exact .cons (.str n) ih
theorem letters_ok : ∀ c ∈ letters.cps.toList, c < 0x110000 := by decide +kernel
theorem word_ok {z : Str} (h : isWordB z = true) : PyData.strOk z = true := by
  unfold isWordB at h
  have h2 := (Bool.and_eq_true_iff.mp h).2
  unfold PyData.strOk
  rw [← Array.all_toList]
  refine List.all_eq_true.mpr fun c hc => ?_
  have h3 := List.all_eq_true.mp h2 c hc
  exact decide_eq_true (letters_ok c (of_decide_eq_true h3))
theorem lay_strs : ∀ {ss : List Str}, (∀ s ∈ ss, isWordB s = true) → PyData.canLayAll0 (ss.map PyData.str) = true
  | [], _ => rfl
  | x :: r, h => by
    show (PyData.strOk x && PyData.canLayAll0 (r.map PyData.str)) = true
    rw [lay_strs fun s hs => h s (List.mem_cons_of_mem _ hs), word_ok (h x List.mem_cons_self)]
    rfl
theorem depth_strs : ∀ ss : List Str, PyData.depthAll (ss.map PyData.str) = 0
  | [] => rfl
  | _ :: r => by simp [PyData.depthAll, PyData.depth, depth_strs r]
theorem shaped_strs {ss : List Str} (h : ∀ s ∈ ss, isWordB s = true) : SeqAt.shaped (.tuple (ss.map PyData.str)) = true := by
  simp [SeqAt.shaped, PyData.canLay0, PyData.depth, lay_strs h, depth_strs]
theorem eqvAll_strs : ∀ ns ms : List Str, PyData.eqvAll (ns.map PyData.str) (ms.map PyData.str) = decide (ns = ms)
  | [], [] => by simp [PyData.eqvAll]
  | [], _ :: _ => by simp [PyData.eqvAll]
  | _ :: _, [] => by simp [PyData.eqvAll]
  | a :: r, b :: t => by
    simp only [List.map_cons, PyData.eqvAll, PyData.eqv, eqvAll_strs r t]
    by_cases h : a = b <;> by_cases h' : r = t <;> simp [h, h']
theorem eqv_strs (ns ms : List Str) : PyData.eqv (.tuple (ns.map PyData.str)) (.tuple (ms.map PyData.str)) = decide (ns = ms) := by
  rw [PyData.eqv]
  exact eqvAll_strs ns ms
theorem strsT {K : PySem.W.Frag} {H : Hp} {a : Addr} {ss : List Str} (h : SqT K H a (ss.map V.str)) : Dp K H (.ref a) (.tuple (ss.map PyData.str)) := .tup h (strsD ss)
mutual
/-- drawn: names of one sign, numbers 0 .. 3 -/
def Small : Node → Prop
  | .file n => n = 0 ∨ n = 1 ∨ n = 2 ∨ n = 3
  | .folder es => SmallE es
def SmallE : Ents → Prop
  | .nil => True
  | .cons x n r => (x.length = 1 ∧ isWordB x = true) ∧ Small n ∧ SmallE r
end
theorem small_mem : ∀ {es : Ents} {e : Str × Node}, SmallE es → e ∈ es.toList → (e.1.length = 1 ∧ isWordB e.1 = true) ∧ Small e.2
  | .nil, e, _, h => by cases h
  | .cons x n r, e, s, h => by
    rcases List.mem_cons.mp h with rfl | h
    · exact ⟨s.1, s.2.1⟩
    · exact small_mem s.2.2 h
theorem dig_len {n : Int} (h : n = 0 ∨ n = 1 ∨ n = 2 ∨ n = 3) : (Str.ofString (toString n)).length ≤ 1 ∧ n.natAbs.log2 < 1920 := by
  rcases h with rfl | rfl | rfl | rfl <;> decide +kernel
theorem app_le {a b : Str} {n m k : Nat} (h1 : a.length ≤ n) (h2 : b.length ≤ m) (h : n + m ≤ k) : (a ++ b).length ≤ k := by
  rw [Str.length_append]
  omega
theorem big16 {n k : Nat} (h : n ≤ k) (hk : k ≤ 1000) : n ≤ sizeLine := Nat.le_trans (Nat.le_trans h hk) (by decide)
def tJoin (ts : List TE) : TE := fun σ H Q => tJs ts Str.empty σ H fun out H1 => Q (.str out) H1
theorem pe_joinedW {X : Cx} {v1 v2 : Expr} {rest : List Expr} {ts : List TE} {pos : Pos} (h : PJ X (v1 :: v2 :: rest) ts) : PE X (.JoinedStr (v1 :: v2 :: rest) pos) (tJoin ts) := pe_joined h
section
variable {P : Program} {w : World} {K : PySem.W.Frag} {mg : Str → Option Value} {base : Heap} {f : Addr} {fd : FuncData} {k D : Nat}
def spPathText : Sp := fun vs H Q _ => ∃ (p : Addr) (ss : List Str), vs = [.ref p] ∧ H p = some (.tup (ss.map V.str)) ∧ (∀ s ∈ ss, s.length = 1 ∧ isWordB s = true) ∧ ss.length ≤ 8 ∧ ∀ (z : Str) H', z.length ≤ 16 → Same H H' → Q (.str z) H'
theorem sc_path_text : FnScope ["path"] ["path"] (defScope s_path_text) := ⟨rfl, rfl, rfl, by decide +kernel, rfl, by decide +kernel, by decide +kernel⟩
theorem ok_path_text (X : Tx mg) (F : Fun K "path_text" "path_text" s_path_text f fd) : FnOk P w K mg base CX0 1 f fd ["path"] spPathText := by
  refine F.ok sc_path_text (fun vs H Q E h => ?_) (fun cdv A outer s H vs Q E hr h => ?_)
  · obtain ⟨p, ss, rfl, _⟩ := h
    rfl
  · obtain ⟨p, ss, rfl, hp, h1, h8, q⟩ := h
    refine ⟨_, pss_one (ps_ret (pe_ifExp (pt_cmpR (op_neD hr.units) (pv 0) (pe_tup pa_nil) (nomark _)) (pe_join (pe_gs X (by rfl) (z := "/") (by decide +kernel)) (pv 0)) (pe_gs X (by rfl) (z := "-") (by decide +kernel)))), ?_⟩
    refine ⟨_, rfl, Nat.zero_le _, fun t nt => ?_⟩
    have s1 := same_upd (o := .tup []) nt
    have hp1 := SqT.of (K := K) (s1 _ _ hp)
    refine ⟨_, _, strsT hp1, .tup (SqT.of upd_same) .nil, shaped_strs (fun s hs => (h1 s hs).2), shaped_strs (ss := []) (fun s hs => by cases hs), _, rfl, ?_⟩
    refine itek (fun _ => ?_) (fun _ => ?_)
    · refine ⟨⟨_, rfl⟩, _, rfl, _, p, ss, rfl, rfl, .inr hp1, ?_, ?_⟩
      · have e := sum_le (n := 1) fun s hs => Nat.le_of_eq (h1 s hs).1
        show (ss.map (·.length)).sum + ss.length * 1 ≤ 16777216
        omega
      · refine q _ _ ?_ s1
        have e := sum_le (n := 1) fun s hs => Nat.le_of_eq (h1 s hs).1
        have e2 := join_len ("/" : Str) ss
        have e3 : ("/" : Str).length = 1 := by decide +kernel
        rw [e3] at e2
        omega
    · exact q _ _ (by decide +kernel) s1
/-- short lines -/
def Lines (n : Nat) (ls : List Str) : Prop := ls.length = n ∧ ∀ l ∈ ls, l.length ≤ 30
theorem Lines.snoc {n : Nat} {ls : List Str} {l : Str} (h : Lines n ls) (hl : l.length ≤ 30) : Lines (n + 1) (ls ++ [l]) :=
  ⟨by rw [List.length_append, h.1]; rfl, fun x hx => by
    rcases List.mem_append.mp hx with hx | hx
    · exact h.2 x hx
    · rcases List.mem_cons.mp hx with rfl | hx
      · exact hl
      · cases hx⟩
theorem Lines.app {n m : Nat} {ls ms : List Str} (h : Lines n ls) (h2 : Lines m ms) : Lines (n + m) (ls ++ ms) :=
  ⟨by rw [List.length_append, h.1, h2.1], fun x hx => by
    rcases List.mem_append.mp hx with hx | hx
    · exact h.2 x hx
    · exact h2.2 x hx⟩
def spNodesText (D : Nat) : Sp := fun vs H Q _ => ∃ (v : V) (es : Ents) (p : Addr) (ss : List Str), vs = [v, .ref p] ∧ (Node.folder es).depth < D ∧ NodeAt H v (.folder es) ∧ SmallE es ∧ es.count ≤ 60 ∧ H p = some (.tup (ss.map V.str)) ∧ (∀ s ∈ ss, s.length = 1 ∧ isWordB s = true) ∧ ss.length + es.depth ≤ 7 ∧
  ∀ H' q ls, Same H H' → H q = none → H' q = some (.lst (ls.map V.str)) → Lines es.count ls → Q (.ref q) H'
theorem cntL_more {l : List (Str × Node)} {i : Nat} {e : Str × Node} (h : l[i]? = some e) : cntL (l.take (i + 1)) = cntL (l.take i) + (1 + e.2.count) := by
  rw [take_more h]
  induction l.take i with
  | nil => simp [cntL]
  | cons a r ih =>
    show (1 + a.2.count) + cntL (r ++ [e]) = (1 + a.2.count) + cntL r + (1 + e.2.count)
    rw [ih]
    omega
theorem cntL_le {l : List (Str × Node)} {i : Nat} : cntL (l.take i) ≤ cntL l := by
  induction l generalizing i with
  | nil => simp
  | cons a r ih =>
    cases i with
    | zero => exact Nat.zero_le _
    | succ i =>
      have h := ih (i := i)
      show (1 + a.2.count) + cntL (r.take i) ≤ (1 + a.2.count) + cntL r
      omega
theorem sc_nodes_text : FnScope ["node", "path", "lines", "name", "inner", "place"] ["node", "path"] (defScope s_nodes_text) := ⟨rfl, rfl, rfl, by decide +kernel, rfl, by decide +kernel, by decide +kernel⟩
theorem ok_nodes_text_step (X : Tx mg) (cP : Ca CX0 P w K mg base 1 "path_text" ["path"] spPathText) (hk : 1 ≤ k) (cN : Ca CX0 P w K mg base k "nodes_text" ["node", "path"] (spNodesText D)) (F : Fun K "nodes_text" "nodes_text" s_nodes_text f fd) :
    FnOk P w K mg base CX0 (k + 1) f fd ["node", "path"] (spNodesText (D + 1)) := by
  refine F.ok sc_nodes_text (fun vs H Q E h => ?_) (fun cdv A outer s H vs Q E hr h => ?_)
  · obtain ⟨v, es, p, ss, rfl, _⟩ := h
    rfl
  · obtain ⟨v, es, p, ss, rfl, hd, hn, hsm, hc60, hp, hss, hln, q⟩ := h
    have hr1 : Room 1 _ := hr.mono hk
    have nd := sc_nodes_text.nd
    refine ⟨_, pss_cons (ps_set (i := 2) nd rfl (Or.inl rfl) (pe_lst pa_nil)) (pss_cons (ps_for PassesOwn.never rfl (pi_tup (pe_ix ix_tup (pv 0) pe_int (fun _ _ => rfl))) (pg_tup rfl (pgs_cons (pg_name (i := 3) nd rfl (Or.inl rfl)) (pgs_cons (pg_name (i := 4) nd rfl (Or.inl rfl)) pgs_nil)))
      (pss_cons (ps_set (i := 5) nd rfl (Or.inl rfl) (pe_tup (StX.pa_star (pv 1) (pa_cons (pv 3) pa_nil))))
      (pss_one (ps_if (pt_cmpR op_eq (pe_ix ix_tup (pv 4) pe_int (fun _ _ => rfl)) (pe_gs X (by rfl) (z := sFile) (by decide +kernel)) (nomark _))
        (pss_one (ps_expr (pe_bm PySem.F.plainAttrs_list PySem.F.slot_list_append PySem.F.type_list_append mt_append (pv 2) (pa_cons (pe_joined (PJ.cons (pe_fmt (pe_gs X (by rfl) (z := sFile) (by decide +kernel))) (PJ.cons pe_str (PJ.cons (pe_fmt (pe_ca cP hr1 (by rfl) (pa_cons (pv 5) pa_nil))) (PJ.cons pe_str (PJ.cons (pe_fmt (pe_ix ix_tup (pv 4) pe_int (fun _ _ => rfl))) PJ.nil)))))) pa_nil))))
        (pss_one (ps_expr (pe_bm PySem.F.plainAttrs_list PySem.F.slot_list_extend PySem.F.type_list_extend mt_extend (pv 2) (pa_cons (pe_lst (pa_cons (pe_joined (PJ.cons (pe_fmt (pe_gs X (by rfl) (z := sFolder) (by decide +kernel))) (PJ.cons pe_str (PJ.cons (pe_fmt (pe_ca cP hr1 (by rfl) (pa_cons (pv 5) pa_nil))) PJ.nil))))
          (StX.pa_star (pe_ca cN hr (by rfl) (pa_cons (pv 4) (pa_cons (pv 5) pa_nil))) pa_nil))) pa_nil))))))))
      (pss_one (ps_ret (pv 2)))), ?_⟩
    refine ⟨Nat.zero_le _, fun lp nlp => ?_⟩
    have s1 := same_upd (o := .lst []) nlp
    cases hn with
    | @folder a b items _ ha hb he =>
    refine ⟨_, rfl, a, _, _, _, rfl, rfl, SqT.of (s1 _ _ ha), at1, b, rfl, ⟨_, SqT.of (s1 _ _ hb)⟩, ?_⟩
    refine for_it (walk_tup (K := K) (a := b) (xs := items)) (fun i σ H' => ∃ (x3 x4 x5 : Option V) (ls : List Str), σ = [some (.ref a), some (.ref p), some (.ref lp), x3, x4, x5] ∧ Same H H' ∧ H' lp = some (.lst (ls.map V.str)) ∧ Lines (cntL (es.toList.take i)) ls)
      ⟨none, none, none, [], rfl, s1, upd_same, rfl, fun l hl => by cases hl⟩ (fun i σ H' _ ⟨_, _, _, _, _, s2, _⟩ => SqT.of (s2 _ _ hb)) ?_ ?_
    · rintro i x σ H2 H3 hi ⟨x3, x4, x5, ls, rfl, s2, e2, hls⟩ ⟨rfl, hx⟩
      obtain ⟨t, y, u, n, rfl, hm, ht, hnn⟩ := he.at_ hx
      have mem := List.mem_of_getElem? hm
      obtain ⟨⟨ly, wy⟩, smn⟩ := small_mem hsm mem
      have cm := cntL_more hm
      have cl := cntL_le (l := es.toList) (i := i + 1)
      rw [← cnt_eq] at cl
      refine ⟨t, _, rfl, SqT.of (s2 _ _ ht), rfl, _, _, rfl, _, _, rfl, rfl, ?_⟩
      refine ⟨_, rfl, p, _, rfl, .inl (SqT.of (s2 _ _ hp)), _, rfl, ?_, fun pl npl => ?_⟩
      · rw [List.length_append, List.length_map]
        exact big16 (k := 8) (by show ss.length + 1 ≤ 8; omega) (by decide)
      have s3 := s2.upd (o := .tup (ss.map V.str ++ [.str y])) npl
      have e3 : upd H3 pl (.tup (ss.map V.str ++ [.str y])) lp = some (.lst (ls.map V.str)) := by
        rw [upd_ne (ne_of_none e2 npl)]
        exact e2
      have hpl : upd H3 pl (.tup (ss.map V.str ++ [.str y])) pl = some (.tup ((ss ++ [y]).map V.str)) := by
        rw [upd_same, List.map_append]
        rfl
      have hw : ∀ s ∈ ss ++ [y], s.length = 1 ∧ isWordB s = true := fun s hs => by
        rcases List.mem_append.mp hs with hs | hs
        · exact hss s hs
        · rcases List.mem_cons.mp hs with rfl | hs
          · exact ⟨ly, wy⟩
          · cases hs
      have l0 : Str.empty.length ≤ 0 := Nat.le_refl _
      have lsp : (" " : Str).length ≤ 1 := by decide +kernel
      have hlen : (ls.map V.str).length < sizeLine := by
        rw [List.length_map, hls.1]
        exact big8 (by omega)
      have dm := depth_mem mem
      cases hnn.keep (tupK_same s3) with
      | @file c m hc =>
        refine ⟨_, rfl, c, _, _, _, rfl, rfl, SqT.of hc, at0, rfl, _, rfl, ?_⟩
        refine (if_pos str_eq).mpr ?_
        have l1 := app_le (b := sFile) (k := 4) l0 (by decide +kernel : sFile.length ≤ 4) (by decide)
        have l2 := app_le (k := 5) l1 lsp (by decide)
        refine ⟨_, rfl, .inl ⟨rfl, _, SqL.of e3⟩, .inl ⟨_, rfl, by decide +kernel, _, rfl, big16 l1 (by decide), ?_⟩⟩
        refine ⟨_, rfl, big16 l2 (by decide), ?_⟩
        refine ⟨_, rfl, pl, ss ++ [y], rfl, hpl, hw, by rw [List.length_append]; show ss.length + 1 ≤ 8; omega, fun z H4 hz s4 => .inl ⟨z, rfl, big16 hz (by decide), z, rfl, ?_⟩⟩
        have l3 := app_le (k := 21) l2 hz (by decide)
        have l4 := app_le (k := 22) l3 lsp (by decide)
        obtain ⟨dl, dg⟩ := dig_len smn
        have l5 := app_le (k := 23) l4 dl (by decide)
        refine ⟨big16 l3 (by decide), _, rfl, big16 l4 (by decide), ?_⟩
        refine ⟨_, rfl, c, _, _, _, rfl, rfl, SqT.of (s4 _ _ hc), at1, .inr ⟨m, rfl, dg, _, rfl, big16 l5 (by decide), ?_⟩⟩
        refine ⟨lp, _, _, rfl, rfl, s4 _ _ e3, hlen, ?_⟩
        refine ⟨_, _, _, ls ++ [_], rfl, same_putD nlp (s3.trans s4), by rw [upd_same, List.map_append]; rfl, ?_⟩
        rw [cm]
        exact hls.snoc (Nat.le_trans l5 (by decide))
      | @folder c d it2 es2 hc hd2 he2 =>
        have hnn2 := NodeAt.folder hc hd2 he2
        refine ⟨_, rfl, c, _, _, _, rfl, rfl, SqT.of hc, at0, rfl, _, rfl, ?_⟩
        refine (if_neg (by rw [str_ne fold_ne]; exact Bool.false_ne_true)).mpr ?_
        have l1 := app_le (b := sFolder) (k := 6) l0 (by decide +kernel : sFolder.length ≤ 6) (by decide)
        have l2 := app_le (k := 7) l1 lsp (by decide)
        refine ⟨_, rfl, .inl ⟨rfl, _, SqL.of e3⟩, .inl ⟨_, rfl, by decide +kernel, _, rfl, big16 l1 (by decide), ?_⟩⟩
        refine ⟨_, rfl, big16 l2 (by decide), ?_⟩
        refine ⟨_, rfl, pl, ss ++ [y], rfl, hpl, hw, by rw [List.length_append]; show ss.length + 1 ≤ 8; omega, fun z H4 hz s4 => .inl ⟨z, rfl, big16 hz (by decide), z, rfl, ?_⟩⟩
        have l3 := app_le (k := 23) l2 hz (by decide)
        refine ⟨big16 l3 (by decide), ?_⟩
        have dm2 : (Node.folder es2).depth ≤ es.depth := dm
        have dm3 : es2.depth + 1 ≤ es.depth := dm2
        have ct : es2.count + 1 ≤ 60 := by
          have c1 : (Node.folder es2).count = es2.count := rfl
          have cm' : cntL (es.toList.take (i + 1)) = cntL (es.toList.take i) + (1 + es2.count) := cm
          omega
        refine ⟨_, rfl, _, rfl, .ref c, es2, pl, ss ++ [y], rfl, ?_, hnn2.keep (tupK_same s4), smn, by omega, s4 _ _ hpl, hw, by rw [List.length_append]; show ss.length + 1 + es2.depth ≤ 7; omega, fun H5 q2 ls2 s5 nq2 e5 hls2 => ⟨q2, _, rfl, .inr (SqL.of e5), ?_, fun p2 np2 => ?_⟩⟩
        · have h2 : es.depth + 1 < D + 1 := hd
          omega
        · show (V.str _ :: (ls2.map V.str ++ [])).length ≤ sizeLine
          rw [List.append_nil, List.length_cons, List.length_map, hls2.1]
          exact big16 (k := 61) (by omega) (by decide)
        · have e6 := s5 _ _ (s4 _ _ e3)
          refine ⟨lp, p2, _, _, rfl, rfl, (by rw [upd_ne (ne_of_none e6 np2)]; exact e6), upd_same, ?_, ?_⟩
          · rw [List.append_nil, List.length_cons, List.length_map, List.length_map, hls.1, hls2.1]
            refine big16 (k := 200) ?_ (by decide)
            omega
          · refine ⟨_, _, _, ls ++ (_ :: ls2), rfl, same_putD nlp ((s3.trans (s4.trans s5)).upd np2), by rw [upd_same, List.append_nil, List.map_append]; rfl, ?_⟩
            rw [cm]
            have hl2 : Lines (1 + es2.count) ((Str.empty ++ sFolder ++ (" " : Str) ++ z) :: ls2) := ⟨by rw [List.length_cons, hls2.1, Nat.add_comm], fun x hx => by
              rcases List.mem_cons.mp hx with rfl | hx
              · exact Nat.le_trans l3 (by decide)
              · exact hls2.2 x hx⟩
            exact hls.app hl2
    · rintro σ H2 ⟨x3, x4, x5, ls, rfl, s2, e2, hls⟩
      refine ⟨_, rfl, q H2 lp ls s2 nlp e2 ?_⟩
      rw [he.len, List.take_length, ← cnt_eq] at hls
      exact hls
theorem ok_nodes_text (X : Tx mg) (cP : Ca CX0 P w K mg base 1 "path_text" ["path"] spPathText) (F : Fun K "nodes_text" "nodes_text" s_nodes_text f fd) (m : mg "nodes_text" = some (.ref f)) (b : Binds K fd ["node", "path"] []) : ∀ D, FnOk P w K mg base CX0 (D + 1) f fd ["node", "path"] (spNodesText D)
  | 0 => ⟨fun vs H Q E h => by
      obtain ⟨v, es, p, ss, _, hd, _⟩ := h
      exact absurd hd (Nat.not_lt_zero _), fun A outer s H args us vs Q E _ _ _ _ h => by
      obtain ⟨v, es, p, ss, _, hd, _⟩ := h
      exact absurd hd (Nat.not_lt_zero _)⟩
  | D + 1 => ok_nodes_text_step X cP (by omega) ⟨f, fd, ok_nodes_text X cP F m b D, m, F.kp, b⟩ F
def SmallP (ps : Pairs) : Prop := ps.length ≤ 10 ∧ ∀ p ∈ ps, (p.1 = 0 ∨ p.1 = 1 ∨ p.1 = 2 ∨ p.1 = 3) ∧ p.2.length ≤ 8
def spPairsText : Sp := fun vs H Q _ => ∃ (z : Str) (p : Addr) (items : List V) (ps : Pairs), vs = [.str z, .ref p] ∧ z.length ≤ 4 ∧ H p = some (.tup items) ∧ PairsAt H items ps ∧ SmallP ps ∧ ∀ H' q ls, Same H H' → H q = none → H' q = some (.lst (ls.map V.str)) → Lines ps.length ls → Q (.ref q) H'
theorem sc_pairs_text : FnScope ["word", "pairs", "one", "other"] ["word", "pairs"] (defScope s_pairs_text) := ⟨rfl, rfl, rfl, by decide +kernel, rfl, by decide +kernel, by decide +kernel⟩
theorem ok_pairs_text (F : Fun K "pairs_text" "pairs_text" s_pairs_text f fd) : FnOk P w K mg base CX0 1 f fd ["word", "pairs"] spPairsText := by
  refine F.ok sc_pairs_text (fun vs H Q E h => ?_) (fun cdv A outer s H vs Q E hr h => ?_)
  · obtain ⟨z, p, items, ps, rfl, _⟩ := h
    rfl
  · obtain ⟨z, p, items, ps, rfl, hz, hp, hps, hsm, q⟩ := h
    have nd := sc_pairs_text.nd
    refine ⟨_, pss_one (ps_ret (pe_lc (own := [("one", 2), ("other", 3)]) (g := gTup K 2 (gCons (gName 2) (gCons (gName 3) gNil))) (tt := tYes) rfl nd (pi_tup (pv 1))
          (blkOk_by (N := ["word", "pairs", "one", "other"]) (sc := defScope s_pairs_text) (by decide +kernel)) (fun _ _ _ _ _ => pg_tup rfl (pgs_cons (pg_name (i := 2) nd rfl (Or.inl rfl)) (pgs_cons (pg_name (i := 3) nd rfl (Or.inl rfl)) pgs_nil))) (fun _ _ _ _ _ => pts_nil)
          (fun _ _ _ _ _ => pe_joinedW (PJ.cons (pe_fmt (pv 0)) (PJ.cons pe_str (PJ.cons (pe_fmt (pv 2)) (PJ.cons pe_str (PJ.cons (pe_fmt (pv 3)) PJ.nil)))))))), ?_⟩
    refine ⟨_, rfl, p, rfl, ⟨_, SqT.of hp⟩, fun D hD => ?_⟩
    refine lc_it (walk_tup (K := K) (a := p) (xs := items)) (fun i H' => Same H H' ∧ ∃ ls : List Str, H' D = some (.lst (ls.map V.str)) ∧ Lines (min i ps.length) ls) ⟨same_upd hD, [], upd_same, by simp [Lines]⟩ (fun i H' _ q => q.1.tup (SqT.of hp)) ?_ ?_
    · rintro i x H2 H3 hi ⟨s2, ls, e2, hls⟩ ⟨rfl, hx⟩
      obtain ⟨t, n, y, rfl, hm, ht⟩ := hps.at_ hx
      obtain ⟨sn, sy⟩ := hsm.2 _ (List.mem_of_getElem? hm)
      have l0 : Str.empty.length ≤ 0 := Nat.le_refl _
      have lsp : (" " : Str).length ≤ 1 := by decide +kernel
      have l1 := app_le (b := z) (k := 4) l0 hz (by decide)
      have l2 := app_le (k := 5) l1 lsp (by decide)
      obtain ⟨dl, dg⟩ := dig_len sn
      have l3 := app_le (k := 6) l2 dl (by decide)
      have l4 := app_le (k := 7) l3 lsp (by decide)
      have l5 := app_le (k := 15) l4 sy (by decide)
      rw [hps.len] at hi
      refine ⟨t, _, rfl, SqT.of (s2 _ _ ht), rfl, _, _, rfl, _, _, rfl, rfl, rfl, ?_⟩
      refine ⟨_, rfl, .inl ⟨z, rfl, big16 hz (by decide), _, rfl, big16 l1 (by decide), _, rfl, big16 l2 (by decide), _, rfl, .inr ⟨n, rfl, dg, _, rfl, big16 l3 (by decide), _, rfl, big16 l4 (by decide), _, rfl, .inl ⟨y, rfl, big16 sy (by decide), _, rfl, big16 l5 (by decide), ?_⟩⟩⟩⟩
      refine ⟨_, e2, ?_, same_putD hD s2, ls ++ [_], by rw [upd_same, List.map_append]; rfl, ?_⟩
      · rw [List.length_map, hls.1]
        exact big8 (by have := hsm.1; omega)
      · rw [show min (i + 1) ps.length = min i ps.length + 1 by omega]
        exact hls.snoc (Nat.le_trans l5 (by decide))
    · rintro H2 ⟨s2, ls, e2, hls⟩
      rw [hps.len, Nat.min_self] at hls
      exact q H2 D ls s2 hD e2 hls
/-- tree_text of a drawn tree -/
def spTreeText (T : Tb) : Sp := fun vs H Q _ => ∃ (v : V) (es : Ents) (ps : Pairs), vs = [v] ∧ TreeAt H v (.folder es) ps ∧ Sane (.folder es) ∧ SmallE es ∧ es.count ≤ 10 ∧ SmallP ps ∧ isTreeB (.folder es) ps = true ∧ Tabs T H ∧ ∀ (z : Str) H', z.length ≤ 620 → Kp T H H' → Q (.str z) H'
theorem sc_tree_text : FnScope ["tree"] ["tree"] (defScope s_tree_text) := ⟨rfl, rfl, rfl, by decide +kernel, rfl, by decide +kernel, by decide +kernel⟩
theorem ok_tree_text {T : Tb} {C : Addr} (X : Tx mg) (cN : Ca (L2.CX P w) P w K mg base 24 "need_tree" ["tree"] (spNeed T C)) (cT : Ca CX0 P w K mg base 9 "nodes_text" ["node", "path"] (spNodesText 8)) (cP : Ca CX0 P w K mg base 1 "pairs_text" ["word", "pairs"] spPairsText)
    (F : Fun K "tree_text" "tree_text" s_tree_text f fd) : FnOk P w K mg base CX0 25 f fd ["tree"] (spTreeText T) := by
  refine F.ok sc_tree_text (fun vs H Q E h => ?_) (fun cdv A outer s H vs Q E hr h => ?_)
  · obtain ⟨v, es, ps, rfl, _⟩ := h
    rfl
  · obtain ⟨v, es, ps, rfl, ht, hsa, hsm, hc, hsp, hok, hT, q⟩ := h
    have hr1 : Room 1 _ := hr.mono (by decide)
    have hr9 : Room 9 _ := hr.mono (by decide)
    refine ⟨_, pss_cons (ps_expr (pe_caX cN hr (by rfl) (fun σ => passAt takes0 σ) (pa_cons (pv 0) pa_nil)))
      (pss_one (ps_ret (pe_join pe_str (pe_op op_cat (pe_ca cT hr9 (by rfl) (pa_cons (pe_ix ix_tup (pv 0) pe_int (fun _ _ => rfl)) (pa_cons (pe_tup pa_nil) pa_nil))) (pe_ca cP hr1 (by rfl) (pa_cons (pe_gs X (by rfl) (z := "word") (by decide +kernel)) (pa_cons (pe_ix ix_tup (pv 0) pe_int (fun _ _ => rfl)) pa_nil))))))), ?_⟩
    have b1 : isNodeB 6 (.folder es) = true := by
      unfold isTreeB at hok
      simp only [Bool.and_eq_true] at hok
      exact hok.1.1.1.1
    have dep := depth_of b1
    have dep2 : es.depth + 1 ≤ 7 := dep
    have sp : SaneP ps := ⟨big8 (Nat.le_trans hsp.1 (by decide)), fun p hp => big16 (hsp.2 p hp).2 (by decide)⟩
    refine ⟨_, rfl, v, _, ps, rfl, ht, hsa, sp, hT, fun _ H1 k1 => ?_, fun z => by rw [hok] at z; cases z⟩
    obtain ⟨a, b, rv, items, rfl, ha, hn, hb, hp⟩ := ht
    have ha1 := k1.tup ha
    refine ⟨⟨_, rfl⟩, _, rfl, a, _, _, _, rfl, rfl, SqT.of ha1, at0, Nat.zero_le _, fun t nt => ?_⟩
    have s2 := same_upd (o := .tup []) nt
    refine ⟨rv, es, t, [], rfl, by show es.depth + 1 < 8; omega, hn.keep (tupK_ext (k1.same s2).1), hsm, by omega, upd_same, (fun s hs => by cases hs), by show 0 + es.depth ≤ 7; omega, fun H3 q3 ls s3 nq3 e3 hls => ?_⟩
    have k3 := (k1.same s2).same s3
    refine ⟨_, rfl, a, _, _, _, rfl, rfl, SqT.of (k3.tup ha), at1, "word", b, items, ps, rfl, by decide +kernel, k3.tup hb, hp.keep (tupK_ext k3.1), hsp, fun H4 q4 ms s4 nq4 e4 hms => ?_⟩
    have e3' := s4 _ _ e3
    have hc' : ls.length = es.count := hls.1
    have all := hls.app hms
    refine ⟨q3, q4, _, _, rfl, rfl, e3', e4, ?_, fun p np => ?_⟩
    · rw [List.length_map, List.length_map, hls.1, hms.1]
      have := hsp.1
      exact big16 (k := 20) (by omega) (by decide)
    have hsum := sum_le all.2
    have hl : (ls ++ ms).length ≤ 20 := by
      rw [all.1]
      have := hsp.1
      omega
    have lnl : ("\n" : Str).length = 1 := by decide +kernel
    have hj := join_len ("\n" : Str) (ls ++ ms)
    rw [lnl] at hj
    refine ⟨_, p, ls ++ ms, rfl, rfl, .inl (SqL.of (by rw [upd_same, List.map_append])), ?_, ?_⟩
    · rw [lnl]
      omega
    · exact q _ _ (by omega) ((k3.same s4).same (same_upd np))
end
end KD7
end L2
set_option Elab.async false
set_option linter.all false
set_option maxRecDepth 100000
set_option maxHeartbeats 4000000
/-! k92: the plain reader: numbers, paths, one line -/
namespace L2
namespace KMa
open PySem PySem.Spec PyProof.Rows LamX KB KN KH KD7
abbrev figs : Str := "0123456789"
abbrev sZero : Str := "0"
abbrev sSl : Str := "/"
abbrev sRoot : Str := "-"
abbrev sWord : Str := "word"
def allFigs (z : Str) : Bool := z.cps.toList.all fun c => decide (c ∈ figs.cps.toList)
/-- a number without needless noughts -/
def isNumT (z : Str) : Bool := (decide (1 ≤ z.length) && decide (z.length ≤ 4)) && allFigs z && (decide (z.length = 1) || !decide (z.cps.toList[0]? = some 48))
def valT (z : Str) : Int := (NumText.digitsVal z.cps.toList : Nat)
def numIn (z : Str) : Option Int := if isNumT z = true then some (valT z) else none
theorem figs_dig : ∀ c ∈ figs.cps.toList, 48 ≤ c ∧ c ≤ 57 := by decide +kernel
theorem figs_all {z : Str} (h : allFigs z = true) : NumText.AllDigits z.cps.toList := fun c hc => figs_dig c (of_decide_eq_true (List.all_eq_true.mp h c hc))
theorem num_text {z : Str} (h : allFigs z = true) (h1 : 1 ≤ z.length) (h4 : z.length ≤ 4) : PySem.intText? z = some (valT z) := by
  refine PySem.intText_digits (figs_all h) (fun e => ?_) (by omega)
  have := slen z
  rw [e] at this
  simp at this
  omega
theorem fold_lt : ∀ (cs : List Nat) (a : Nat), NumText.AllDigits cs → cs.foldl (fun acc c => acc * 10 + (c - 48)) a < (a + 1) * 10 ^ cs.length
  | [], a, _ => by simp
  | c :: r, a, h => by
    have h1 := h.head
    have h2 := fold_lt r (a * 10 + (c - 48)) h.tail
    show (r.foldl (fun acc c => acc * 10 + (c - 48)) (a * 10 + (c - 48))) < (a + 1) * 10 ^ (r.length + 1)
    refine Nat.lt_of_lt_of_le h2 ?_
    have h3 : a * 10 + (c - 48) + 1 ≤ (a + 1) * 10 := by omega
    calc (a * 10 + (c - 48) + 1) * 10 ^ r.length ≤ ((a + 1) * 10) * 10 ^ r.length := Nat.mul_le_mul_right _ h3
      _ = (a + 1) * 10 ^ (r.length + 1) := by rw [Nat.pow_succ, Nat.mul_assoc, Nat.mul_comm 10]
theorem val_lt {z : Str} (h : allFigs z = true) (h4 : z.length ≤ 4) : 0 ≤ valT z ∧ valT z < 10000 := by
  have h1 := fold_lt z.cps.toList 0 (figs_all h)
  rw [← slen] at h1
  have h2 : (0 + 1) * 10 ^ z.length ≤ 10 ^ 4 := by
    rw [Nat.zero_add, Nat.one_mul]
    exact Nat.pow_le_pow_right (by decide) h4
  have h3 : NumText.digitsVal z.cps.toList < 10000 := Nat.lt_of_lt_of_le h1 h2
  unfold valT
  omega
theorem isNum_parts {z : Str} (h : isNumT z = true) : (1 ≤ z.length ∧ z.length ≤ 4) ∧ allFigs z = true := by
  unfold isNumT at h
  simp only [Bool.and_eq_true, decide_eq_true_eq] at h
  exact ⟨h.1.1, h.1.2⟩
theorem numIn_some {z : Str} {n : Int} (h : numIn z = some n) : PySem.intText? z = some n ∧ z.length ≤ 4 ∧ 0 ≤ n ∧ n < 10000 ∧ isNumT z = true ∧ n = valT z := by
  unfold numIn at h
  by_cases c : isNumT z = true
  · rw [if_pos c] at h
    cases h
    obtain ⟨⟨h1, h4⟩, h2⟩ := isNum_parts c
    exact ⟨num_text h2 h1 h4, h4, (val_lt h2 h4).1, (val_lt h2 h4).2, c, rfl⟩
  · rw [if_neg c] at h
    cases h
theorem numIn_of {z : Str} (h : isNumT z = true) : numIn z = some (valT z) := if_pos h
theorem numIn_no {z : Str} (h : isNumT z = false) : numIn z = none := if_neg (by rw [h]; exact Bool.false_ne_true)
/-- a path's names -/
def pathIn (z : Str) (most : Nat) : Option (List Str) :=
  if z = sRoot then some [] else if (decide ((Txt.split z sSl).length ≤ most) && (Txt.split z sSl).all isWordB) = true then some (Txt.split z sSl) else none
theorem pathIn_words {z : Str} {most : Nat} {ps : List Str} (h : pathIn z most = some ps) : ps.length ≤ most ∧ ∀ s ∈ ps, isWordB s = true := by
  unfold pathIn at h
  by_cases c : z = sRoot
  · rw [if_pos c] at h
    cases h
    exact ⟨Nat.zero_le _, fun s hs => by cases hs⟩
  · rw [if_neg c] at h
    by_cases c2 : (decide ((Txt.split z sSl).length ≤ most) && (Txt.split z sSl).all isWordB) = true
    · rw [if_pos c2] at h
      cases h
      rw [Bool.and_eq_true] at c2
      exact ⟨of_decide_eq_true c2.1, List.all_eq_true.mp c2.2⟩
    · rw [if_neg c2] at h
      cases h
/-! ### one line -/
abbrev Path := List Str
inductive Ev where
  | file (p : Path) (n : Int)
  | folder (p : Path)
  | word (n : Int) (z : Str)
structure RS where
  folders : List Path
  last : Path
  num : Option Int
def RS.init : RS := ⟨[[]], [], none⟩
def at_ (ws : List Str) (k : Nat) : Str := ws.getD k Str.empty
/-- the word at which a line is wrong, or the event, the state -/
def stepA (s : RS) (ws : List Str) : Except Nat (Ev × RS) :=
  if at_ ws 0 = sWord then
    match numIn (at_ ws 1) with
    | none => .error 1
    | some n => if n ≤ s.num.getD (-1) then .error 1 else
        if isWordB (at_ ws 2) = false then .error 2 else if 3 < ws.length then .error 3 else .ok (.word n (at_ ws 2), { s with num := some n })
  else if s.num.isSome = true ∨ ¬ (at_ ws 0 = sFile ∨ at_ ws 0 = sFolder) then .error 0
  else match pathIn (at_ ws 1) 6 with
    | none => .error 1
    | some p => if p = [] ∨ p.dropLast ∉ s.folders ∨ KM.ltP s.last p = false then .error 1 else
        if at_ ws 0 = sFolder then (if 2 < ws.length then .error 2 else .ok (.folder p, { s with folders := s.folders ++ [p], last := p })) else
        match numIn (at_ ws 2) with
        | none => .error 2
        | some n => if 3 < ws.length then .error 3 else .ok (.file p n, { s with last := p })
end KMa
end L2
set_option Elab.async false
set_option linter.all false
set_option maxRecDepth 100000
set_option maxHeartbeats 4000000
/-! k92: number_in, path_in -/
namespace L2
namespace KD8
open PySem PySem.Spec PyProof.Rows LamX NdefX KB KN KH KL KM KX KD1 KD2 KD3 KD4 KD5 KD6 KD7 KMa
abbrev s_number_in : Stmt := top 42
abbrev s_path_in : Stmt := top 43
def oV (n : Option Int) : V := match n with
  | none => .non
  | some n => .int n
theorem sign_zero (c : Nat) : decide (V.str ⟨#[c]⟩ = V.str sZero) = decide (c = 48) := by
  have e : sZero = ⟨#[48]⟩ := by decide +kernel
  rw [e]
  exact decide_eq_decide.mpr ⟨fun z => by
    injection z with z
    injection z with z
    injection z with z
    injection z with z, fun z => by rw [z]⟩
section
variable {P : Program} {w : World} {K : PySem.W.Frag} {mg : Str → Option Value} {base : Heap} {f : Addr} {fd : FuncData}
def spNumIn : Sp := fun vs H Q _ => ∃ z : Str, vs = [.str z] ∧ z.length ≤ sizeLine ∧ ∀ H', Same H H' → Q (oV (numIn z)) H'
theorem sc_number_in : FnScope ["word", "figure"] ["word"] (defScope s_number_in) := ⟨rfl, rfl, rfl, by decide +kernel, rfl, by decide +kernel, by decide +kernel⟩
theorem ok_number_in (X : Tx mg) (F : Fun K "number_in" "number_in" s_number_in f fd) : FnOk P w K mg base CX0 1 f fd ["word"] spNumIn := by
  refine F.ok sc_number_in (fun vs H Q E h => ?_) (fun cdv A outer s H vs Q E hr h => ?_)
  · obtain ⟨z, rfl, _⟩ := h
    rfl
  · obtain ⟨z, rfl, hz, q⟩ := h
    have nd := sc_number_in.nd
    refine ⟨_, pss_cons (ps_if (PW.pt (pw_or (pt_not (pt_chain op_le op_le pe_int (pe_callB call_len_str (by rfl) (X.b "len") PySem.boot_len (pa_cons (pv 0) pa_nil)) (pe_gi X (by rfl) (n := 4) (by decide +kernel))))
        (pw_or1 (pt_not (pt_val (pe_callB (cr_all rfl) (by rfl) (X.b "all") (by decide +kernel) (pa_cons (pe_lc (own := [("figure", 1)]) (g := gName 1) (tt := tYes) rfl nd (pi_str (pv 0)) (blkOk_by (N := ["word", "figure"]) (sc := defScope s_number_in) (by decide +kernel)) (fun _ _ _ _ _ => pg_name (i := 1) nd rfl (Or.inl rfl)) (fun _ _ _ _ _ => pts_nil)
          (fun _ _ _ _ _ => pe_cmpR op_in_sign (pv 1) (pe_gs X (by rfl) (z := figs) (by decide +kernel)) rfl)) pa_nil))))))) (pss_one (ps_ret pe_non)) pss_nil)
      (pss_one (ps_ret (pe_ifExp (PW.pt (pw_or (pt_cmpR op_eq (pe_callB call_len_str (by rfl) (X.b "len") PySem.boot_len (pa_cons (pv 0) pa_nil)) pe_int (nomark _)) (pw_or1 (pt_cmpR op_ne (pe_ix ix_str (pv 0) pe_int (fun _ _ => rfl)) pe_str (nomark _)))))
        (pe_callTy call_int_str (by rfl) (X.b "int") (by decide +kernel) (pa_cons (pv 0) pa_nil)) pe_non))), ?_⟩
    have no : isNumT z = false → ∀ H', Same H H' → Q .non H' := fun e H' s' => by
      have r := q H' s'
      rw [numIn_no e] at r
      exact r
    refine ⟨_, rfl, _, rfl, hz, _, _, rfl, rfl, _, rfl, ited (fun h1 => ?_) (fun h1 => ?_)⟩
    · refine ⟨_, _, rfl, rfl, _, rfl, ?_⟩
      show if (!decide ((z.length : Int) ≤ 4)) = true then _ else _
      refine iteN (fun h4 => ?_) (fun h4 => ?_)
      · refine iteT (no ?_ _ (Same.refl _))
        have h4' := of_decide_eq_false h4
        unfold isNumT
        rw [decide_eq_false (show ¬ z.length ≤ 4 by omega), Bool.and_false, Bool.false_and, Bool.false_and]
      have h4' := of_decide_eq_true h4
      refine ⟨_, rfl, z, rfl, fun D hD => ?_⟩
      refine lc_it walk_str (fun i H' => Same H H' ∧ H' D = some (.lst (bls (fun c => decide (c ∈ figs.cps.toList)) z.cps.toList i))) ⟨same_upd hD, upd_same⟩ (fun _ _ _ _ => True.intro) ?_ ?_
      · rintro i x H2 H3 hi ⟨s2, e2⟩ ⟨rfl, c, hc, rfl⟩
        refine ⟨rfl, _, rfl, c, _, rfl, rfl, ?_⟩
        exact lc_put (fun _ _ => same_putD hD) s2 e2 (Nat.lt_of_le_of_lt bls_len (by rw [← slen]; exact big8 (by omega))) (bls_more (by rw [Array.getElem?_toList]; exact hc))
      rintro H2 ⟨s2, e2⟩
      refine ⟨D, _, rfl, SqL.of (by rw [e2, bls_all (by simp)]), _, rfl, ?_⟩
      rw [all_id]
      refine iteN (fun h5 => no ?_ _ s2) (fun h5 => ?_)
      · unfold isNumT
        rw [show allFigs z = false from h5, Bool.and_false, Bool.false_and]
      have ef : allFigs z = true := h5
      have e0 : isNumT z = (decide (z.length = 1) || !decide (z.cps.toList[0]? = some 48)) := by
        unfold isNumT
        rw [ef, decide_eq_true (show 1 ≤ z.length by omega), decide_eq_true (show z.length ≤ 4 by omega)]
        rfl
      have yes : isNumT z = true → ∃ a n, [V.str z] = [.str a] ∧ PySem.intText? a = some n ∧ a.length ≤ 640 ∧ Q (.int n) H2 := fun e => by
        have r := q H2 s2
        rw [numIn_of e] at r
        exact ⟨z, valT z, rfl, num_text ef (by omega) (by omega), by omega, r⟩
      refine ⟨_, rfl, z, rfl, hz, rfl, _, rfl, ?_⟩
      refine ited (fun h6 => ?_) (fun h6 => ?_)
      · refine iteT ?_
        have h6' : z.length = 1 := by
          injection h6 with h6
          omega
        refine ⟨_, rfl, yes ?_⟩
        rw [e0, decide_eq_true h6', Bool.true_or]
      have h6' : ¬ z.length = 1 := fun e => h6 (by rw [e]; rfl)
      have hlt : 0 < z.cps.toList.length := by
        rw [← slen]
        omega
      have hc0 : z.cps.toList[0]? = some z.cps.toList[0] := List.getElem?_eq_getElem hlt
      refine ⟨_, rfl, z, 0, z.cps.toList[0], rfl, rfl, hz, atI_nat (j := 0) hc0, rfl, _, rfl, ?_⟩
      rw [sign_zero]
      have e1 : isNumT z = !decide (z.cps.toList[0] = 48) := by
        rw [e0, decide_eq_false h6', Bool.false_or, hc0]
        congr 1
        exact decide_eq_decide.mpr ⟨fun e => Option.some.inj e, fun e => by rw [e]⟩
      refine iteN (fun h7 => ?_) (fun h7 => ?_)
      · refine ⟨_, rfl, yes ?_⟩
        rw [e1, h7] <;> rfl
      · refine no ?_ _ s2
        rw [e1, h7] <;> rfl
    · refine ⟨_, rfl, iteT (iteT (no ?_ _ (Same.refl _)))⟩
      unfold isNumT
      rw [decide_eq_false (show ¬ 1 ≤ z.length by omega), Bool.false_and, Bool.false_and, Bool.false_and]
def spPathIn : Sp := fun vs H Q _ => ∃ (z : Str) (m : Nat), vs = [.str z, .int m] ∧ z.length + 2 ≤ sizeLine ∧ (pathIn z m = none → ∀ H', Same H H' → Q .non H') ∧
  ∀ ps, pathIn z m = some ps → ∀ H' p, Same H H' → H p = none → H' p = some (.tup (ps.map V.str)) → Q (.ref p) H'
theorem mem_sum : ∀ {l : List Str} {a : Str}, a ∈ l → a.length ≤ (l.map (·.length)).sum
  | [], a, h => by cases h
  | b :: r, a, h => by
    rw [List.map_cons, List.sum_cons]
    rcases List.mem_cons.mp h with rfl | h
    · omega
    · have := mem_sum h
      omega
theorem split_le1 (x y : Str) (hy : 1 ≤ y.length) : (Txt.split x y).length ≤ x.length + 1 ∧ ∀ a ∈ Txt.split x y, a.length ≤ x.length := by
  have h := split_weight x y hy
  refine ⟨by omega, fun a ha => ?_⟩
  have h1 := mem_sum ha
  have h2 := split_pos x y
  omega
theorem sc_path_in : FnScope ["word", "most", "names", "name"] ["word", "most"] (defScope s_path_in) := ⟨rfl, rfl, rfl, by decide +kernel, rfl, by decide +kernel, by decide +kernel⟩
theorem ok_path_in (X : Tx mg) (cW : Ca CX0 P w K mg base 1 "is_word" ["value"] spWord) (F : Fun K "path_in" "path_in" s_path_in f fd) : FnOk P w K mg base CX0 2 f fd ["word", "most"] spPathIn := by
  refine F.ok sc_path_in (fun vs H Q E h => ?_) (fun cdv A outer s H vs Q E hr h => ?_)
  · obtain ⟨z, m, rfl, _⟩ := h
    rfl
  · obtain ⟨z, m, rfl, hz, q1, q2⟩ := h
    have nd := sc_path_in.nd
    refine ⟨_, pss_cons (ps_if (pt_cmpR op_eq (pv 0) (pe_gs X (by rfl) (z := sRoot) (by decide +kernel)) (nomark _)) (pss_one (ps_ret (pe_tup pa_nil))) pss_nil)
      (pss_cons (ps_set (i := 2) nd rfl (Or.inl rfl) (pe_split (pv 0) (pe_gs X (by rfl) (z := sSl) (by decide +kernel))))
      (pss_one (ps_ret (pe_ifExp (PW.pt (pw_and (pt_cmpR op_le (pe_callB call_len_seq (by rfl) (X.b "len") PySem.boot_len (pa_cons (pv 2) pa_nil)) (pv 1) (nomark _)) (pw_and1 (pt_val (pe_callB (cr_all rfl) (by rfl) (X.b "all") (by decide +kernel) (pa_cons (pe_lc (own := [("name", 3)]) (g := gName 3) (tt := tYes) rfl nd (pi_list (pv 2))
          (blkOk_by (N := ["word", "most", "names", "name"]) (sc := defScope s_path_in) (by decide +kernel)) (fun _ _ _ _ _ => pg_name (i := 3) nd rfl (Or.inl rfl)) (fun _ _ _ _ _ => pts_nil) (fun _ _ _ _ _ => pe_ca cW hr (by rfl) (pa_cons (pv 3) pa_nil))) pa_nil))))))
        (pe_callTy call_tuple_of (by rfl) (X.b "tuple") (by decide +kernel) (pa_cons (pv 2) pa_nil)) pe_non)))), ?_⟩
    refine ⟨_, rfl, rfl, _, rfl, ited (fun h1 => ?_) (fun h1 => ?_)⟩
    · have e : z = sRoot := by injection h1
      refine ⟨Nat.zero_le _, fun p np => ?_⟩
      exact q2 [] (by unfold pathIn; rw [if_pos e]) _ p (same_upd np) np upd_same
    have e : ¬ z = sRoot := fun e => h1 (by rw [e])
    have lsl : sSl.length = 1 := by decide +kernel
    have pe : pathIn z m = if (decide ((Txt.split z sSl).length ≤ m) && (Txt.split z sSl).all isWordB) = true then some (Txt.split z sSl) else none := by
      unfold pathIn
      rw [if_neg e]
    rw [pe] at q1 q2
    have ns := split_le1 z sSl (by omega)
    have zpos := split_pos z sSl
    refine ⟨_, rfl, ⟨_, rfl⟩, z, sSl, rfl, rfl, (by decide +kernel), hz, fun p np => ?_⟩
    have s1 := same_upd (o := .lst ((Txt.split z sSl).map V.str)) np
    generalize Txt.split z sSl = zs at *
    have hp : upd H p (.lst (zs.map V.str)) p = some (.lst (zs.map V.str)) := upd_same
    refine ⟨_, rfl, p, _, rfl, .inl (SqL.of hp), _, rfl, _, _, rfl, rfl, _, rfl, ?_⟩
    rw [List.length_map]
    refine ited (fun h2 => ?_) (fun h2 => ?_)
    · refine ⟨_, rfl, p, rfl, ⟨_, SqL.of hp⟩, fun D hD => ?_⟩
      refine lc_it (walk_list (K := K) (a := p) (xs := zs.map V.str)) (fun i H' => Same (upd H p (.lst (zs.map V.str))) H' ∧ H' D = some (.lst (bls isWordB zs i))) ⟨same_upd hD, upd_same⟩ (fun i H' _ q => SqL.of (q.1 _ _ hp)) ?_ ?_
      · rintro i x H2 H3 hi ⟨s2, e2⟩ ⟨rfl, hx⟩
        obtain ⟨y, hy, rfl⟩ := map_at hx
        have ly := ns.2 y (List.mem_of_getElem? hy)
        refine ⟨rfl, _, rfl, y, rfl, by omega, fun H4 s4 => ?_⟩
        exact lc_put (fun _ _ => same_putD hD) (s2.trans s4) (s4 _ _ e2) (Nat.lt_of_le_of_lt bls_len (by omega)) (bls_more hy)
      rintro H2 ⟨s2, e2⟩
      refine ⟨D, _, rfl, SqL.of (by rw [e2, bls_all (by rw [List.length_map])]), _, rfl, ?_⟩
      rw [all_id]
      have h2' : zs.length ≤ m := by omega
      refine itek (fun h3 => ?_) (fun h3 => ?_)
      · refine ⟨_, rfl, p, _, rfl, .inl ⟨SqL.of (s2 _ _ hp), fun p2 np2 => ?_⟩⟩
        refine q2 zs (by rw [decide_eq_true h2', h3]; rfl) _ p2 ((s1.trans s2).upd np2) ((s1.trans s2).free np2) upd_same
      · exact q1 (by rw [h3, Bool.and_false]; rfl) _ (s1.trans s2)
    · exact q1 (by rw [decide_eq_false (show ¬ zs.length ≤ m by omega), Bool.false_and]; rfl) _ s1
end
end KD8
end L2
set_option Elab.async false
set_option linter.all false
set_option maxRecDepth 100000
set_option maxHeartbeats 4000000
/-! k92: Line -/
namespace L2
namespace KD9
open PySem PySem.Spec PyProof.Rows LamX NdefX KB KN KH KL KM KX KD1 KD2 KD3 KD4 KD5 KD6 KD7 KMa KD8
abbrev lineM (i : Nat) : Stmt := inClass (top 41) i
/-- a method of the class at C, found by its name -/
def Me (CX : CXT) (P : Program) (w : World) (K : PySem.W.Frag) (mg : Str → Option Value) (base : Heap) (k : Nat) (C : Addr) (m : Str) (ps : List Str) (sp : Sp) : Prop :=
  ∃ (f : Addr) (fd : FuncData), FnOk P w K mg base CX k f fd ps sp ∧ Meth K C m f ∧ Binds K fd ps []
section
variable {X : Cx} {CX : CXT} {k : Nat} {C : Addr} {m : Str} {ps : List Str} {sp : Sp} {E : XK} {o e : Expr} {es : List Expr} {ta : TE} {t : TA} {apos pos : Pos} {pl : Sem Bool}
theorem pe_me (c : Me CX X.prog X.w X.K X.mg X.base k C m ps sp) (he : PE X o ta) (cl : Cls X.K C) (hr : Room k X.A) (hx : Passes CX X E) (ha : PA X (e :: es) t)
    (hst : starEach (e :: es) X.env = (false, eval e X.env) :: starEach es X.env := by rfl) (hpl : (backTo pos (starEach es X.env)).any (·.1) = false := by rfl)
    (ht : eval (.Call (.Attribute o m apos) (e :: es) [] pos) X.env = (do
      let ov ← eval o X.env
      standAt apos.atName
      let (f, first) ← holding [ov] (getMethod ov m pl)
      callWith pos f first (backTo pos (starEach (e :: es) X.env)) (backToKw pos (keywordEach [] X.env))) := by rfl) :
    PE X (.Call (.Attribute o m apos) (e :: es) [] pos) (tMeth C m sp [] E ta t) := by
  obtain ⟨f, fd, F, hm, hb⟩ := c
  exact pe_meth he cl hm F hr hb .nil hx ha hst hpl ht
theorem pe_me0 (c : Me CX X.prog X.w X.K X.mg X.base k C m ps sp) (he : PE X o ta) (cl : Cls X.K C) (hr : Room k X.A) (hx : Passes CX X E)
    (ht : eval (.Call (.Attribute o m apos) [] [] pos) X.env = (do
      let ov ← eval o X.env
      standAt apos.atName
      let (f, first) ← holding [ov] (getMethod ov m pl)
      callWith pos f first (backTo pos (starEach [] X.env)) (backToKw pos (keywordEach [] X.env))) := by rfl) :
    PE X (.Call (.Attribute o m apos) [] [] pos) (tMeth C m sp [] E ta tNil) := by
  obtain ⟨f, fd, F, hm, hb⟩ := c
  exact pe_meth0 he cl hm F hr hb .nil hx ht
end
/-! ### an instance of Line -/
abbrev kW : Str := "words"
abbrev kN : Str := "number"
abbrev kA : Str := "at"
def lf (l : Addr) (n a : Int) : List (Str × V) := [(kW, .ref l), (kN, .int n), (kA, .int a)]
theorem wn : ¬ kW = kN := by decide +kernel
theorem wa : ¬ kW = kA := by decide +kernel
theorem na : ¬ kN = kA := by decide +kernel
theorem beq_no {a b : Str} (h : ¬ a = b) : (a == b) = false := beq_eq_false_iff_ne.mpr h
theorem beq_yes {a : Str} : (a == a) = true := beq_self_eq_true a
theorem lf_w {l : Addr} {n a : Int} : (lf l n a).lookup kW = some (.ref l) := by
  unfold lf
  rw [List.lookup_cons, beq_yes]
theorem lf_n {l : Addr} {n a : Int} : (lf l n a).lookup kN = some (.int n) := by
  unfold lf
  rw [List.lookup_cons, beq_no (Ne.symm wn), List.lookup_cons, beq_yes]
theorem lf_a {l : Addr} {n a : Int} : (lf l n a).lookup kA = some (.int a) := by
  unfold lf
  rw [List.lookup_cons, beq_no (Ne.symm wa), List.lookup_cons, beq_no (Ne.symm na), List.lookup_cons, beq_yes]
theorem lf_no {l : Addr} {n a : Int} {m : Str} (h1 : ¬ m = kW) (h2 : ¬ m = kN) (h3 : ¬ m = kA) : (lf l n a).lookup m = none := by
  unfold lf
  rw [List.lookup_cons, beq_no h1, List.lookup_cons, beq_no h2, List.lookup_cons, beq_no h3] <;> rfl
theorem lf_put {l : Addr} {n a b : Int} : putF kA (.int b) (lf l n a) = lf l n b := by
  unfold lf
  show (if kW = kA then _ else (kW, V.ref l) :: (if kN = kA then _ else (kN, V.int n) :: (if kA = kA then (kA, V.int b) :: [] else _))) = _
  rw [if_neg wa, if_neg na, if_pos rfl]
theorem lf_make {l : Addr} {n a : Int} : putF kA (.int a) (putF kN (.int n) (putF kW (.ref l) [])) = lf l n a := by
  have e1 : putF kN (.int n) [(kW, V.ref l)] = [(kW, V.ref l), (kN, V.int n)] := by
    show (if kW = kN then _ else (kW, V.ref l) :: [(kN, V.int n)]) = _
    rw [if_neg wn]
  show putF kA (.int a) (putF kN (.int n) [(kW, V.ref l)]) = _
  rw [e1]
  show (if kW = kA then _ else (kW, V.ref l) :: (if kN = kA then _ else (kN, V.int n) :: [(kA, V.int a)])) = _
  rw [if_neg wa, if_neg na]
  rfl
/-- the class Line at C -/
structure LC (K : PySem.W.Frag) (mg : Str → Option Value) (C : Addr) : Prop where
  cl : Cls K C
  nW : NoAttr K C kW
  nN : NoAttr K C kN
  nA : NoAttr K C kA
  gl : mg "Line" = some (.ref C)
/-- texts that can be read -/
def Wds (ws : List Str) : Prop := ws.length < sizeLine ∧ ∀ z ∈ ws, z.length + 2 ≤ sizeLine
/-- a Line at p: its words ws, its number n, its place a -/
structure LA (C : Addr) (H : Hp) (p dx l : Addr) (n : Int) (a : Nat) (ws : List Str) : Prop where
  ins : H p = some (.ins C dx (lf l n a))
  lst : H l = some (.lst (ws.map V.str))
  ok : Wds ws
abbrev xT (a : Nat) (n : V) : HO := .xd [("word", .int a), ("line", n)]
/-- the line behind one word more -/
abbrev nxt (C : Addr) (H : Hp) (p dx l : Addr) (n : Int) (a : Nat) : Hp := upd H p (.ins C dx (lf l n (a + 1 : Nat)))
theorem LA.next {C : Addr} {H : Hp} {p dx l : Addr} {n : Int} {a : Nat} {ws : List Str} (h : LA C H p dx l n a ws) : LA C (nxt C H p dx l n a) p dx l n (a + 1) ws :=
  ⟨upd_same, (upd_ne (ne_of h.lst h.ins (fun z => by cases z))).trans h.lst, h.ok⟩
theorem LA.same {C : Addr} {H H' : Hp} {p dx l : Addr} {n : Int} {a : Nat} {ws : List Str} (h : LA C H p dx l n a ws) (s : Same H H') : LA C H' p dx l n a ws := ⟨s _ _ h.ins, s _ _ h.lst, h.ok⟩
section
variable {P : Program} {w : World} {K : PySem.W.Frag} {mg : Str → Option Value} {base : Heap} {f : Addr} {fd : FuncData} {C CB : Addr}
def spLInit (C : Addr) : Sp := fun vs H Q _ => ∃ (p dx : Addr) (z : Str) (n : Int), vs = [.ref p, .str z, .int n] ∧ H p = some (.ins C dx []) ∧ z.length + 2 < sizeLine ∧ ∀ H' l, (∀ b o, b ≠ p → H b = some o → H' b = some o) → H l = none → LA C H' p dx l n 0 (Txt.split z " ") → Q .non H'
theorem sc_linit : FnScope ["self", "text", "number"] ["self", "text", "number"] (defScope (lineM 0)) := ⟨rfl, rfl, rfl, by decide +kernel, rfl, by decide +kernel, by decide +kernel⟩
theorem ok_linit (T : LC K mg C) (F : Fun K "__init__" "Line.__init__" (lineM 0) f fd) : FnOk P w K mg base CX0 1 f fd ["self", "text", "number"] (spLInit C) := by
  refine F.ok sc_linit (fun vs H Q E h => ?_) (fun cdv A outer s H vs Q E hr h => ?_)
  · obtain ⟨p, dx, z, n, rfl, _⟩ := h
    rfl
  · obtain ⟨p, dx, z, n, rfl, hp, hz, q⟩ := h
    refine ⟨_, pss_cons (ps_fld (pv 0) (pe_split (pv 1) pe_str) rfl) (pss_cons (ps_fld (pv 0) (pv 2) rfl) (pss_one (ps_fld (pv 0) pe_int rfl))), ?_⟩
    refine ⟨_, rfl, ⟨_, rfl⟩, z, _, rfl, rfl, (by decide +kernel), by omega, fun l nl => ?_⟩
    have npl : p ≠ l := ne_of_none hp nl
    refine ⟨_, rfl, p, C, dx, _, rfl, (by rw [upd_ne npl]; exact hp), T.cl, T.nW, (by show 0 < 1000; decide), ?_⟩
    refine ⟨_, rfl, _, rfl, p, C, dx, _, rfl, upd_same, T.cl, T.nN, (by show 1 < 1000; decide), ?_⟩
    refine ⟨_, rfl, p, C, dx, _, rfl, upd_same, T.cl, T.nA, ?_, ?_⟩
    · have e1 : putF kN (.int n) [(kW, V.ref l)] = [(kW, V.ref l), (kN, V.int n)] := by
        show (if kW = kN then _ else (kW, V.ref l) :: [(kN, V.int n)]) = _
        rw [if_neg wn]
      show (putF kN (.int n) [(kW, V.ref l)]).length < 1000
      rw [e1]
      show 2 < 1000
      decide
    · have sl := split_le1 z " " (by decide +kernel)
      refine q _ l (fun b o hb e => ?_) nl ⟨by rw [upd_same, lf_make]; rfl, by rw [upd_ne npl.symm, upd_ne npl.symm, upd_ne npl.symm, upd_same], by omega, fun y hy => by have := sl.2 y hy; omega⟩
      rw [upd_ne hb, upd_ne hb, upd_ne hb, upd_ne (ne_of_none e nl)]
      exact e
def spRefuse (C CB : Addr) : Sp := fun vs H _ E => ∃ (p dx l : Addr) (n : Int) (a : Nat) (ws : List Str), vs = [.ref p] ∧ LA C H p dx l n a ws ∧ ∀ d, H d = none → E (.ref CB) (some d) (upd H d (xT a (.int n)))
theorem sc_lrefuse : FnScope ["self"] ["self"] (defScope (lineM 1)) := ⟨rfl, rfl, rfl, by decide +kernel, rfl, by decide +kernel, by decide +kernel⟩
theorem ok_lrefuse (T : LC K mg C) (M : MkX P w K mg base "BadText" CB ["self", "line", "word"] (spBX CB)) (F : Fun K "refuse" "Line.refuse" (lineM 1) f fd) : FnOk P w K mg base (L2.CX P w) 3 f fd ["self"] (spRefuse C CB) := by
  refine F.okX sc_lrefuse (fun vs H Q E h => ?_) (fun cdv A outer s H vs Q E hr h => ?_)
  · obtain ⟨p, dx, l, n, a, ws, rfl, _⟩ := h
    rfl
  · obtain ⟨p, dx, l, n, a, ws, rfl, L, q⟩ := h
    refine ⟨_, pss_one (ps_raise rfl (takes_of rfl rfl rfl rfl) (pmk_x M hr (by rfl) (pa_cons (pe_fld (pv 0) rfl) (pa_cons (pe_fld (pv 0) rfl) pa_nil)))), ?_⟩
    exact ⟨_, rfl, p, C, dx, _, _, rfl, L.ins, T.cl, T.nN, lf_n, _, rfl, p, C, dx, _, _, rfl, L.ins, T.cl, T.nA, lf_a, text_made q⟩
def spMore (C : Addr) : Sp := fun vs H Q _ => ∃ (p dx l : Addr) (n : Int) (a : Nat) (ws : List Str), vs = [.ref p] ∧ LA C H p dx l n a ws ∧ Q (.bl (decide (a < ws.length))) H
theorem sc_lmore : FnScope ["self"] ["self"] (defScope (lineM 2)) := ⟨rfl, rfl, rfl, by decide +kernel, rfl, by decide +kernel, by decide +kernel⟩
theorem ok_lmore (X : Tx mg) (T : LC K mg C) (F : Fun K "has_more" "Line.has_more" (lineM 2) f fd) : FnOk P w K mg base CX0 1 f fd ["self"] (spMore C) := by
  refine F.ok sc_lmore (fun vs H Q E h => ?_) (fun cdv A outer s H vs Q E hr h => ?_)
  · obtain ⟨p, dx, l, n, a, ws, rfl, _⟩ := h
    rfl
  · obtain ⟨p, dx, l, n, a, ws, rfl, L, q⟩ := h
    refine ⟨_, pss_one (ps_ret (pe_cmpR op_lt (pe_fld (pv 0) rfl) (pe_callB call_len_seq (by rfl) (X.b "len") PySem.boot_len (pa_cons (pe_fld (pv 0) rfl) pa_nil)) (nomark _))), ?_⟩
    refine ⟨_, rfl, p, C, dx, _, _, rfl, L.ins, T.cl, T.nA, lf_a, _, rfl, p, C, dx, _, _, rfl, L.ins, T.cl, T.nW, lf_w, l, _, rfl, .inl (SqL.of L.lst), _, _, rfl, rfl, ?_⟩
    rw [List.length_map]
    have e : decide ((a : Int) < (ws.length : Int)) = decide (a < ws.length) := decide_eq_decide.mpr (by omega)
    rw [← e] at q
    exact q
theorem k_ne (m : Str) (h : decide (m = kW) = false ∧ decide (m = kN) = false ∧ decide (m = kA) = false) {l : Addr} {n a : Int} : (lf l n a).lookup m = none := lf_no (of_decide_eq_false h.1) (of_decide_eq_false h.2.1) (of_decide_eq_false h.2.2)
/-- line n is wrong at its word a -/
def BadX (CB : Addr) (E : XK) (H : Hp) (n : Int) (a : Nat) : Prop := ∀ H' d, Same H H' → H' d = none → E (.ref CB) (some d) (upd H' d (xT a (.int n)))
def spTaken (C CB : Addr) : Sp := fun vs H Q E => ∃ (p dx l : Addr) (n : Int) (a : Nat) (ws : List Str) (v : V), vs = [.ref p, v] ∧ LA C H p dx l n a ws ∧ (v = .non → BadX CB E H n a) ∧ (v ≠ .non → Q v (nxt C H p dx l n a))
theorem sc_ltaken : FnScope ["self", "worth"] ["self", "worth"] (defScope (lineM 3)) := ⟨rfl, rfl, rfl, by decide +kernel, rfl, by decide +kernel, by decide +kernel⟩
theorem ok_ltaken (T : LC K mg C) (cR : Me (L2.CX P w) P w K mg base 3 C "refuse" ["self"] (spRefuse C CB)) (F : Fun K "taken" "Line.taken" (lineM 3) f fd) : FnOk P w K mg base (L2.CX P w) 4 f fd ["self", "worth"] (spTaken C CB) := by
  refine F.okX sc_ltaken (fun vs H Q E h => ?_) (fun cdv A outer s H vs Q E hr h => ?_)
  · obtain ⟨p, dx, l, n, a, ws, v, rfl, _⟩ := h
    rfl
  · obtain ⟨p, dx, l, n, a, ws, v, rfl, L, q1, q2⟩ := h
    refine ⟨_, pss_cons (ps_if (pt_cmpR op_isN (pv 1) pe_non (nomark _)) (pss_one (ps_expr (pe_me0 cR (pv 0) T.cl hr (passes_call (takes_of rfl rfl rfl rfl) (fun _ _ _ _ h => h))))) pss_nil)
      (pss_cons (ps_fldaug (pv 0) pe_int in_add) (pss_one (ps_ret (pv 1)))), ?_⟩
    refine ⟨_, rfl, rfl, _, rfl, ited (fun h1 => ?_) (fun h1 => ?_)⟩
    · exact ⟨_, rfl, p, dx, _, rfl, L.ins, k_ne _ (by decide +kernel), p, dx, l, n, a, ws, rfl, L, fun d nd => q1 h1 H d (Same.refl _) nd⟩
    · refine ⟨_, rfl, p, C, dx, _, _, rfl, L.ins, T.cl, T.nA, lf_a, _, _, rfl, rfl, _, _, L.ins, (by show 3 < 1000; decide), _, rfl, ?_⟩
      have e := q2 h1
      rw [show putF "at" (.int ((a : Int) + 1)) (lf l n a) = lf l n ((a : Int) + 1) from lf_put]
      exact e
/-- what a line takes: o, or it is refused -/
def Tk (C CB : Addr) (Q : VK) (E : XK) (H : Hp) (p dx l : Addr) (n : Int) (a : Nat) (o : Option V) : Prop :=
  (o = none → BadX CB E H n a) ∧ ∀ v, o = some v → ∀ H', Same (nxt C H p dx l n a) H' → Q v H'
def spNextOf (K : PySem.W.Frag) (C CB : Addr) : Sp := fun vs H Q E => ∃ (p dx l : Addr) (n : Int) (a : Nat) (ws : List Str) (q : Addr) (ss : List Str), vs = [.ref p, .ref q] ∧ LA C H p dx l n a ws ∧ SqL K H q (ss.map V.str) ∧
  Tk C CB Q E H p dx l n a (if a < ws.length ∧ at_ ws a ∈ ss then some (.str (at_ ws a)) else none)
theorem at_get {ws : List Str} {a : Nat} (h : a < ws.length) : (ws.map V.str)[a]? = some (.str (at_ ws a)) := by
  unfold at_
  rw [List.getElem?_map, List.getElem?_eq_getElem h, List.getD_eq_getElem?_getD, List.getElem?_eq_getElem h]
  rfl
theorem inV_strs {z : Str} : ∀ {ss : List Str}, inV (.str z) (ss.map V.str) = decide (z ∈ ss)
  | [] => by simp [inV]
  | x :: r => by
    have ih := inV_strs (z := z) (ss := r)
    unfold inV at ih ⊢
    rw [List.map_cons, List.any_cons, ih]
    have e : eqV (.str x) (.str z) = decide (z = x) := by
      show (x == z) = _
      by_cases h : x = z
      · subst h
        simp
      · rw [beq_no h, decide_eq_false (Ne.symm h)]
    rw [e]
    by_cases h : z = x <;> by_cases h2 : z ∈ r <;> simp [h, h2]
theorem flat_strs {ss : List Str} : (ss.map V.str).all flatV = true := List.all_eq_true.mpr fun v hv => by
  obtain ⟨z, _, rfl⟩ := List.mem_map.mp hv
  rfl
theorem sc_lnextof : FnScope ["self", "some"] ["self", "some"] (defScope (lineM 4)) := ⟨rfl, rfl, rfl, by decide +kernel, rfl, by decide +kernel, by decide +kernel⟩
theorem ok_lnextof (T : LC K mg C) (cM : Me CX0 P w K mg base 1 C "has_more" ["self"] (spMore C)) (cT : Me (L2.CX P w) P w K mg base 4 C "taken" ["self", "worth"] (spTaken C CB)) (F : Fun K "next_of" "Line.next_of" (lineM 4) f fd) :
    FnOk P w K mg base (L2.CX P w) 5 f fd ["self", "some"] (spNextOf K C CB) := by
  refine F.okX sc_lnextof (fun vs H Q E h => ?_) (fun cdv A outer s H vs Q E hr h => ?_)
  · obtain ⟨p, dx, l, n, a, ws, q, ss, rfl, _⟩ := h
    rfl
  · obtain ⟨p, dx, l, n, a, ws, q, ss, rfl, L, hs, q1, q2⟩ := h
    have hr1 : Room 1 _ := hr.mono (by decide)
    refine ⟨_, pss_one (ps_ret (pe_me cT (pv 0) T.cl hr (passes_call (takes_of rfl rfl rfl rfl) (fun _ _ _ _ h => h)) (pa_cons (pe_ifExp (PW.pt (pw_and (pt_val (pe_me0 cM (pv 0) T.cl hr1 pass0)) (pw_and1 (pt_cmpR op_in_seq (pe_ix ix_list (pe_fld (pv 0) rfl) (pe_fld (pv 0) rfl) (fun _ _ => rfl)) (pv 1) rfl))))
      (pe_ix ix_list (pe_fld (pv 0) rfl) (pe_fld (pv 0) rfl) (fun _ _ => rfl)) pe_non) pa_nil))), ?_⟩
    refine ⟨_, rfl, p, dx, _, rfl, L.ins, k_ne _ (by decide +kernel), ?_⟩
    refine ⟨_, rfl, p, dx, _, rfl, L.ins, k_ne _ (by decide +kernel), p, dx, l, n, a, ws, rfl, L, _, rfl, ?_⟩
    refine ited (fun h1 => ?_) (fun h1 => ?_)
    · refine ⟨_, rfl, p, C, dx, _, _, rfl, L.ins, T.cl, T.nW, lf_w, _, rfl, p, C, dx, _, _, rfl, L.ins, T.cl, T.nA, lf_a, l, _, _, _, rfl, rfl, SqL.of L.lst, atI_nat (at_get h1), ?_⟩
      refine ⟨_, rfl, q, _, rfl, .inl hs, rfl, flat_strs, _, rfl, ?_⟩
      rw [inV_strs]
      show if decide (at_ ws a ∈ ss) = true then _ else _
      refine ited (fun h2 => ?_) (fun h2 => ?_)
      · refine ⟨_, rfl, p, C, dx, _, _, rfl, L.ins, T.cl, T.nW, lf_w, _, rfl, p, C, dx, _, _, rfl, L.ins, T.cl, T.nA, lf_a, l, _, _, _, rfl, rfl, SqL.of L.lst, atI_nat (at_get h1), ?_⟩
        rw [if_pos ⟨h1, h2⟩] at q1 q2
        exact ⟨p, dx, l, n, a, ws, _, rfl, L, (fun z => by cases z), fun _ => q2 _ rfl _ (Same.refl _)⟩
      · rw [if_neg (fun z => h2 z.2)] at q1 q2
        exact ⟨p, dx, l, n, a, ws, .non, rfl, L, (fun _ => q1 rfl), fun z => absurd rfl z⟩
    · rw [if_neg (fun z => h1 z.1)] at q1 q2
      exact ⟨p, dx, l, n, a, ws, .non, rfl, L, (fun _ => q1 rfl), fun z => absurd rfl z⟩
theorem same_nxt {H H' : Hp} {p dx l : Addr} {n : Int} {a : Nat} (s : Same H H') : Same (nxt C H p dx l n a) (nxt C H' p dx l n a) := fun b o e => by
  by_cases hb : b = p
  · subst hb
    rw [show nxt C H b dx l n a b = _ from upd_same] at e
    rw [show nxt C H' b dx l n a b = _ from upd_same]
    exact e
  · rw [show nxt C H p dx l n a b = H b from upd_ne hb] at e
    rw [show nxt C H' p dx l n a b = H' b from upd_ne hb]
    exact s b o e
theorem BadX.same {E : XK} {H H' : Hp} {n : Int} {a : Nat} (b : BadX CB E H n a) (s : Same H H') : BadX CB E H' n a := fun H2 d s2 nd => b H2 d (s.trans s2) nd
theorem at_no {ws : List Str} {a : Nat} (h : ¬ a < ws.length) : at_ ws a = Str.empty := by
  unfold at_
  rw [List.getD_eq_getElem?_getD, List.getElem?_eq_none (by omega)]
  rfl
theorem word_no : isWordB Str.empty = false := by decide +kernel
theorem num_no : numIn Str.empty = none := by decide +kernel
theorem path_no (m : Nat) : pathIn Str.empty m = none := by
  unfold pathIn
  rw [if_neg (by decide +kernel), show (Txt.split Str.empty sSl).all isWordB = false by decide +kernel, Bool.and_false]
  rfl
theorem wds_at {ws : List Str} {a : Nat} (h : Wds ws) (ha : a < ws.length) : (at_ ws a).length + 2 ≤ sizeLine := by
  refine h.2 _ ?_
  unfold at_
  rw [List.getD_eq_getElem?_getD, List.getElem?_eq_getElem ha]
  exact List.getElem_mem ha
def spNextWord (C CB : Addr) : Sp := fun vs H Q E => ∃ (p dx l : Addr) (n : Int) (a : Nat) (ws : List Str), vs = [.ref p] ∧ LA C H p dx l n a ws ∧ Tk C CB Q E H p dx l n a (if isWordB (at_ ws a) = true then some (.str (at_ ws a)) else none)
theorem sc_lself (i : Nat) (h : i = 5 ∨ i = 6 ∨ i = 8) : FnScope ["self"] ["self"] (defScope (lineM i)) := by
  rcases h with rfl | rfl | rfl
  · exact ⟨rfl, rfl, rfl, by decide +kernel, rfl, by decide +kernel, by decide +kernel⟩
  · exact ⟨rfl, rfl, rfl, by decide +kernel, rfl, by decide +kernel, by decide +kernel⟩
  · exact ⟨rfl, rfl, rfl, by decide +kernel, rfl, by decide +kernel, by decide +kernel⟩
theorem ok_lnextword (X : Tx mg) (T : LC K mg C) (cW : Ca CX0 P w K mg base 1 "is_word" ["value"] spWord) (cM : Me CX0 P w K mg base 1 C "has_more" ["self"] (spMore C)) (cT : Me (L2.CX P w) P w K mg base 4 C "taken" ["self", "worth"] (spTaken C CB)) (F : Fun K "next_word" "Line.next_word" (lineM 5) f fd) :
    FnOk P w K mg base (L2.CX P w) 5 f fd ["self"] (spNextWord C CB) := by
  refine F.okX (sc_lself 5 (by decide)) (fun vs H Q E h => ?_) (fun cdv A outer s H vs Q E hr h => ?_)
  · obtain ⟨p, dx, l, n, a, ws, rfl, _⟩ := h
    rfl
  · obtain ⟨p, dx, l, n, a, ws, rfl, L, q1, q2⟩ := h
    have hr1 : Room 1 _ := hr.mono (by decide)
    refine ⟨_, pss_one (ps_ret (pe_me cT (pv 0) T.cl hr (passes_call (takes_of rfl rfl rfl rfl) (fun _ _ _ _ h => h)) (pa_cons (pe_ifExp (PW.pt (pw_and (pt_val (pe_me0 cM (pv 0) T.cl hr1 pass0)) (pw_and1 (pt_val (pe_ca cW hr1 (by rfl) (pa_cons (pe_ix ix_list (pe_fld (pv 0) rfl) (pe_fld (pv 0) rfl) (fun _ _ => rfl)) pa_nil))))))
      (pe_ix ix_list (pe_fld (pv 0) rfl) (pe_fld (pv 0) rfl) (fun _ _ => rfl)) pe_non) pa_nil))), ?_⟩
    refine ⟨_, rfl, p, dx, _, rfl, L.ins, k_ne _ (by decide +kernel), ?_⟩
    refine ⟨_, rfl, p, dx, _, rfl, L.ins, k_ne _ (by decide +kernel), p, dx, l, n, a, ws, rfl, L, _, rfl, ?_⟩
    refine ited (fun h1 => ?_) (fun h1 => ?_)
    · have hz := wds_at L.ok h1
      refine ⟨_, rfl, p, C, dx, _, _, rfl, L.ins, T.cl, T.nW, lf_w, _, rfl, p, C, dx, _, _, rfl, L.ins, T.cl, T.nA, lf_a, l, _, _, _, rfl, rfl, SqL.of L.lst, atI_nat (at_get h1), at_ ws a, rfl, by omega, fun H1 s1 => ?_⟩
      have L1 := L.same s1
      refine ⟨_, rfl, itek (fun h2 => ?_) (fun h2 => ?_)⟩
      · refine ⟨_, rfl, p, C, dx, _, _, rfl, L1.ins, T.cl, T.nW, lf_w, _, rfl, p, C, dx, _, _, rfl, L1.ins, T.cl, T.nA, lf_a, l, _, _, _, rfl, rfl, SqL.of L1.lst, atI_nat (at_get h1), ?_⟩
        rw [if_pos h2] at q1 q2
        exact ⟨p, dx, l, n, a, ws, _, rfl, L1, (fun z => by cases z), fun _ => q2 _ rfl _ (same_nxt s1)⟩
      · rw [if_neg (by rw [h2]; exact Bool.false_ne_true)] at q1 q2
        exact ⟨p, dx, l, n, a, ws, .non, rfl, L1, (fun _ => (q1 rfl).same s1), fun z => absurd rfl z⟩
    · rw [if_neg (by rw [at_no h1, word_no]; exact Bool.false_ne_true)] at q1 q2
      exact ⟨p, dx, l, n, a, ws, .non, rfl, L, (fun _ => q1 rfl), fun z => absurd rfl z⟩
def spNextNum (C CB : Addr) : Sp := fun vs H Q E => ∃ (p dx l : Addr) (n : Int) (a : Nat) (ws : List Str), vs = [.ref p] ∧ LA C H p dx l n a ws ∧ Tk C CB Q E H p dx l n a ((numIn (at_ ws a)).map V.int)
theorem ok_lnextnum (X : Tx mg) (T : LC K mg C) (cN : Ca CX0 P w K mg base 1 "number_in" ["word"] spNumIn) (cM : Me CX0 P w K mg base 1 C "has_more" ["self"] (spMore C)) (cT : Me (L2.CX P w) P w K mg base 4 C "taken" ["self", "worth"] (spTaken C CB)) (F : Fun K "next_number" "Line.next_number" (lineM 6) f fd) :
    FnOk P w K mg base (L2.CX P w) 5 f fd ["self"] (spNextNum C CB) := by
  refine F.okX (sc_lself 6 (by decide)) (fun vs H Q E h => ?_) (fun cdv A outer s H vs Q E hr h => ?_)
  · obtain ⟨p, dx, l, n, a, ws, rfl, _⟩ := h
    rfl
  · obtain ⟨p, dx, l, n, a, ws, rfl, L, q1, q2⟩ := h
    have hr1 : Room 1 _ := hr.mono (by decide)
    refine ⟨_, pss_one (ps_ret (pe_me cT (pv 0) T.cl hr (passes_call (takes_of rfl rfl rfl rfl) (fun _ _ _ _ h => h)) (pa_cons (pe_ifExp (pt_val (pe_me0 cM (pv 0) T.cl hr1 pass0))
      (pe_ca cN hr1 (by rfl) (pa_cons (pe_ix ix_list (pe_fld (pv 0) rfl) (pe_fld (pv 0) rfl) (fun _ _ => rfl)) pa_nil)) pe_non) pa_nil))), ?_⟩
    refine ⟨_, rfl, p, dx, _, rfl, L.ins, k_ne _ (by decide +kernel), ?_⟩
    refine ⟨_, rfl, p, dx, _, rfl, L.ins, k_ne _ (by decide +kernel), p, dx, l, n, a, ws, rfl, L, _, rfl, ?_⟩
    refine ited (fun h1 => ?_) (fun h1 => ?_)
    · have hz := wds_at L.ok h1
      refine ⟨_, rfl, p, C, dx, _, _, rfl, L.ins, T.cl, T.nW, lf_w, _, rfl, p, C, dx, _, _, rfl, L.ins, T.cl, T.nA, lf_a, l, _, _, _, rfl, rfl, SqL.of L.lst, atI_nat (at_get h1), at_ ws a, rfl, by omega, fun H1 s1 => ?_⟩
      refine ⟨p, dx, l, n, a, ws, _, rfl, L.same s1, fun z => ?_, fun z => ?_⟩
      · cases e : numIn (at_ ws a) with
        | none =>
          rw [e] at q1
          exact (q1 rfl).same s1
        | some m =>
          rw [e] at z
          cases z
      · cases e : numIn (at_ ws a) with
        | none =>
          rw [e] at z
          exact absurd rfl z
        | some m =>
          rw [e] at q2
          exact q2 _ rfl _ (same_nxt s1)
    · rw [at_no h1, num_no] at q1 q2
      exact ⟨p, dx, l, n, a, ws, .non, rfl, L, (fun _ => q1 rfl), fun z => absurd rfl z⟩
def spNextPath (C CB : Addr) : Sp := fun vs H Q E => ∃ (p dx l : Addr) (n : Int) (a : Nat) (ws : List Str) (m : Nat), vs = [.ref p, .int m] ∧ LA C H p dx l n a ws ∧ (pathIn (at_ ws a) m = none → BadX CB E H n a) ∧
  ∀ ps, pathIn (at_ ws a) m = some ps → ∀ H' t, Same (nxt C H p dx l n a) H' → H t = none → H' t = some (.tup (ps.map V.str)) → Q (.ref t) H'
theorem sc_lnextpath : FnScope ["self", "most"] ["self", "most"] (defScope (lineM 7)) := ⟨rfl, rfl, rfl, by decide +kernel, rfl, by decide +kernel, by decide +kernel⟩
theorem ok_lnextpath {dvs : List V} (X : Tx mg) (T : LC K mg C) (cP : Ca CX0 P w K mg base 2 "path_in" ["word", "most"] spPathIn) (cM : Me CX0 P w K mg base 1 C "has_more" ["self"] (spMore C)) (cT : Me (L2.CX P w) P w K mg base 4 C "taken" ["self", "worth"] (spTaken C CB)) (F : FunD K "next_path" "Line.next_path" (defArgs (lineM 7)) (defBody (lineM 7)) (defScope (lineM 7)) dvs [] f fd) :
    FnOk P w K mg base (L2.CX P w) 5 f fd ["self", "most"] (spNextPath C CB) := by
  refine F.ok (CX := L2.CX P w) sc_lnextpath (fun vs H Q E h => ?_) (fun cdv A outer s H vs Q E hr h => ?_)
  · obtain ⟨p, dx, l, n, a, ws, m, rfl, _⟩ := h
    rfl
  · obtain ⟨p, dx, l, n, a, ws, m, rfl, L, q1, q2⟩ := h
    have hr1 : Room 1 _ := hr.mono (by decide)
    have hr2 : Room 2 _ := hr.mono (by decide)
    refine ⟨_, pss_one (ps_ret (pe_me cT (pv 0) T.cl hr (passes_call (takes_of rfl rfl rfl rfl) (fun _ _ _ _ h => h)) (pa_cons (pe_ifExp (pt_val (pe_me0 cM (pv 0) T.cl hr1 pass0))
      (pe_ca cP hr2 (by rfl) (pa_cons (pe_ix ix_list (pe_fld (pv 0) rfl) (pe_fld (pv 0) rfl) (fun _ _ => rfl)) (pa_cons (pv 1) pa_nil))) pe_non) pa_nil))), ?_⟩
    refine ⟨_, rfl, p, dx, _, rfl, L.ins, k_ne _ (by decide +kernel), ?_⟩
    refine ⟨_, rfl, p, dx, _, rfl, L.ins, k_ne _ (by decide +kernel), p, dx, l, n, a, ws, rfl, L, _, rfl, ?_⟩
    refine ited (fun h1 => ?_) (fun h1 => ?_)
    · have hz := wds_at L.ok h1
      refine ⟨_, rfl, p, C, dx, _, _, rfl, L.ins, T.cl, T.nW, lf_w, _, rfl, p, C, dx, _, _, rfl, L.ins, T.cl, T.nA, lf_a, l, _, _, _, rfl, rfl, SqL.of L.lst, atI_nat (at_get h1), _, rfl, at_ ws a, m, rfl, hz, fun e H1 s1 => ?_, fun ps e H1 t s1 nt et => ?_⟩
      · exact ⟨p, dx, l, n, a, ws, .non, rfl, L.same s1, (fun _ => (q1 e).same s1), fun z => absurd rfl z⟩
      · have npt : t ≠ p := fun z => by
          have y := L.ins
          rw [← z, nt] at y
          cases y
        exact ⟨p, dx, l, n, a, ws, .ref t, rfl, L.same s1, (fun z => by cases z), fun _ => q2 ps e _ t (same_nxt s1) nt ((upd_ne npt).trans et)⟩
    · exact ⟨p, dx, l, n, a, ws, .non, rfl, L, (fun _ => q1 (by rw [at_no h1, path_no])), fun z => absurd rfl z⟩
def spEnd (C CB : Addr) : Sp := fun vs H Q E => ∃ (p dx l : Addr) (n : Int) (a : Nat) (ws : List Str), vs = [.ref p] ∧ LA C H p dx l n a ws ∧ (a < ws.length → BadX CB E H n a) ∧ (¬ a < ws.length → Q .non H)
theorem ok_lend (T : LC K mg C) (cM : Me CX0 P w K mg base 1 C "has_more" ["self"] (spMore C)) (cR : Me (L2.CX P w) P w K mg base 3 C "refuse" ["self"] (spRefuse C CB)) (F : Fun K "need_end" "Line.need_end" (lineM 8) f fd) :
    FnOk P w K mg base (L2.CX P w) 4 f fd ["self"] (spEnd C CB) := by
  refine F.okX (sc_lself 8 (by decide)) (fun vs H Q E h => ?_) (fun cdv A outer s H vs Q E hr h => ?_)
  · obtain ⟨p, dx, l, n, a, ws, rfl, _⟩ := h
    rfl
  · obtain ⟨p, dx, l, n, a, ws, rfl, L, q1, q2⟩ := h
    have hr1 : Room 1 _ := hr.mono (by decide)
    refine ⟨_, pss_one (ps_if (pt_val (pe_me0 cM (pv 0) T.cl hr1 pass0)) (pss_one (ps_expr (pe_me0 cR (pv 0) T.cl hr (passes_call (takes_of rfl rfl rfl rfl) (fun _ _ _ _ h => h))))) pss_nil), ?_⟩
    refine ⟨_, rfl, p, dx, _, rfl, L.ins, k_ne _ (by decide +kernel), p, dx, l, n, a, ws, rfl, L, _, rfl, ?_⟩
    refine ited (fun h1 => ?_) (fun h1 => ?_)
    · exact ⟨_, rfl, p, dx, _, rfl, L.ins, k_ne _ (by decide +kernel), p, dx, l, n, a, ws, rfl, L, fun d nd => q1 h1 H d (Same.refl _) nd⟩
    · exact q2 h1
end
end KD9
end L2
set_option Elab.async false
set_option linter.all false
set_option maxRecDepth 100000
set_option maxHeartbeats 4000000
/-! k92: Reader: its state in the heap -/
namespace L2
namespace KD10
open PySem PySem.Spec PyProof.Rows LamX NdefX KB KN KH KL KM KX KD1 KD2 KD3 KD4 KD5 KD6 KD7 KMa KD8 KD9
abbrev rdM (i : Nat) : Stmt := inClass (top 44) i
/-! ### the plain state -/
def lastOf (q : Path) : Str := q.getLastD Str.empty
def entOf (p : Path) : Ev → Option (Str × Option Int)
  | .file q n => if q ≠ [] ∧ q.dropLast = p then some (lastOf q, some n) else none
  | .folder q => if q ≠ [] ∧ q.dropLast = p then some (lastOf q, none) else none
  | .word _ _ => none
def entsR (evs : List Ev) (p : Path) : List (Str × Option Int) := evs.filterMap (entOf p)
def pairOf : Ev → Option (Int × Str)
  | .word n z => some (n, z)
  | _ => none
def psOf (evs : List Ev) : Pairs := evs.filterMap pairOf
theorem ents_snoc (evs : List Ev) (e : Ev) (p : Path) : entsR (evs ++ [e]) p = entsR evs p ++ (entOf p e).toList := by
  unfold entsR
  rw [List.filterMap_append]
  cases h : entOf p e <;> simp [List.filterMap, h]
theorem ps_snoc (evs : List Ev) (e : Ev) : psOf (evs ++ [e]) = psOf evs ++ (pairOf e).toList := by
  unfold psOf
  rw [List.filterMap_append]
  cases h : pairOf e <;> simp [List.filterMap, h]
theorem ents_len (evs : List Ev) (p : Path) : (entsR evs p).length ≤ evs.length := List.length_filterMap_le _ _
theorem ps_len (evs : List Ev) : (psOf evs).length ≤ evs.length := List.length_filterMap_le _ _
/-! ### keys -/
def keyP (p : Path) : List Key := p.map Sum.inr
theorem key_v (p : Path) : (keyP p).map kV = p.map V.str := by
  unfold keyP
  rw [List.map_map]
  rfl
theorem key_inj {p q : Path} (h : keyP p = keyP q) : p = q := by
  induction p generalizing q with
  | nil =>
    cases q with
    | nil => rfl
    | cons b r => cases h
  | cons a l ih =>
    cases q with
    | nil => cases h
    | cons b r =>
      have h' : (Sum.inr a : Key) :: keyP l = Sum.inr b :: keyP r := h
      injection h' with h1 h2
      injection h1 with h1
      rw [h1, ih h2]
/-! ### the fields -/
abbrev kF : Str := "folders"
abbrev kM : Str := "marks"
abbrev kL : Str := "last"
abbrev kP : Str := "pairs"
def rf (fd md la pd : Addr) : List (Str × V) := [(kF, .ref fd), (kM, .ref md), (kL, .ref la), (kP, .ref pd)]
theorem ne_fm : ¬ kF = kM := by decide +kernel
theorem ne_fl : ¬ kF = kL := by decide +kernel
theorem ne_fp : ¬ kF = kP := by decide +kernel
theorem ne_ml : ¬ kM = kL := by decide +kernel
theorem ne_mp : ¬ kM = kP := by decide +kernel
theorem ne_lp : ¬ kL = kP := by decide +kernel
section
variable {fd md la pd x : Addr}
theorem rf_f : (rf fd md la pd).lookup kF = some (.ref fd) := by
  unfold rf
  rw [List.lookup_cons, beq_yes]
theorem rf_m : (rf fd md la pd).lookup kM = some (.ref md) := by
  unfold rf
  rw [List.lookup_cons, beq_no (Ne.symm ne_fm), List.lookup_cons, beq_yes]
theorem rf_l : (rf fd md la pd).lookup kL = some (.ref la) := by
  unfold rf
  rw [List.lookup_cons, beq_no (Ne.symm ne_fl), List.lookup_cons, beq_no (Ne.symm ne_ml), List.lookup_cons, beq_yes]
theorem rf_p : (rf fd md la pd).lookup kP = some (.ref pd) := by
  unfold rf
  rw [List.lookup_cons, beq_no (Ne.symm ne_fp), List.lookup_cons, beq_no (Ne.symm ne_mp), List.lookup_cons, beq_no (Ne.symm ne_lp), List.lookup_cons, beq_yes]
theorem rf_no {m : Str} (h : decide (m = kF) = false ∧ decide (m = kM) = false ∧ decide (m = kL) = false ∧ decide (m = kP) = false) : (rf fd md la pd).lookup m = none := by
  unfold rf
  rw [List.lookup_cons, beq_no (of_decide_eq_false h.1), List.lookup_cons, beq_no (of_decide_eq_false h.2.1), List.lookup_cons, beq_no (of_decide_eq_false h.2.2.1), List.lookup_cons, beq_no (of_decide_eq_false h.2.2.2)]
  rfl
theorem rf_put : putF kL (.ref x) (rf fd md la pd) = rf fd md x pd := by
  unfold rf
  show (if kF = kL then _ else (kF, V.ref fd) :: (if kM = kL then _ else (kM, V.ref md) :: (if kL = kL then (kL, V.ref x) :: [(kP, V.ref pd)] else _))) = _
  rw [if_neg ne_fl, if_neg ne_ml, if_pos rfl]
theorem put2 : putF kM (.ref md) [(kF, V.ref fd)] = [(kF, .ref fd), (kM, .ref md)] := by
  show (if kF = kM then _ else (kF, V.ref fd) :: [(kM, V.ref md)]) = _
  rw [if_neg ne_fm]
theorem put3 : putF kL (.ref la) [(kF, V.ref fd), (kM, V.ref md)] = [(kF, .ref fd), (kM, .ref md), (kL, .ref la)] := by
  show (if kF = kL then _ else (kF, V.ref fd) :: (if kM = kL then _ else (kM, V.ref md) :: [(kL, V.ref la)])) = _
  rw [if_neg ne_fl, if_neg ne_ml]
theorem put4 : putF kP (.ref pd) [(kF, V.ref fd), (kM, V.ref md), (kL, V.ref la)] = rf fd md la pd := by
  show (if kF = kP then _ else (kF, V.ref fd) :: (if kM = kP then _ else (kM, V.ref md) :: (if kL = kP then _ else (kL, V.ref la) :: [(kP, V.ref pd)]))) = _
  rw [if_neg ne_fp, if_neg ne_mp, if_neg ne_lp]
  rfl
end
structure RC (K : PySem.W.Frag) (mg : Str → Option Value) (C : Addr) : Prop where
  cl : Cls K C
  nF : NoAttr K C kF
  nM : NoAttr K C kM
  nL : NoAttr K C kL
  nP : NoAttr K C kP
  gl : mg "Reader" = some (.ref C)
/-! ### where it stands -/
/-- all but what F names is kept -/
def Bt (F : List Addr) (H H' : Hp) : Prop := ∀ b o, H b = some o → b ∉ F → H' b = some o
theorem Bt.refl (F : List Addr) (H : Hp) : Bt F H H := fun _ _ h _ => h
theorem Bt.trans {F G : List Addr} {H H1 H2 : Hp} (a : Bt F H H1) (b : Bt G H1 H2) (h : ∀ x ∈ G, x ∈ F ∨ H x = none) : Bt F H H2 := fun c o e n =>
  b c o (a c o e n) fun z => (h c z).elim n fun y => by
    rw [y] at e
    cases e
theorem bt_same {F : List Addr} {H H' : Hp} (s : Same H H') : Bt F H H' := fun b o e _ => s b o e
theorem Bt.mono {F G : List Addr} {H H' : Hp} (a : Bt F H H') (h : ∀ x ∈ F, x ∈ G) : Bt G H H' := fun b o e n => a b o e fun z => n (h b z)
/-- an entry's worth -/
def EnV (H : Hp) : V → Option Int → Prop := fun v o => match o with
  | none => v = .non
  | some n => ∃ u : Addr, v = .ref u ∧ H u = some (.tup [.str sFile, .int n])
theorem EnV.keep {H H' : Hp} (k : TupK H H') {v : V} : ∀ {o : Option Int}, EnV H v o → EnV H' v o
  | none, h => h
  | some n, ⟨u, h1, h2⟩ => ⟨u, h1, k _ _ h2⟩
inductive EntL (H : Hp) : List V → List (Str × Option Int) → Prop where
  | nil : EntL H [] []
  | cons {t : Addr} {x : Str} {v : V} {o : Option Int} {vs : List V} {es : List (Str × Option Int)} : H t = some (.tup [.str x, v]) → EnV H v o → EntL H vs es → EntL H (.ref t :: vs) ((x, o) :: es)
theorem EntL.keep {H H' : Hp} (k : TupK H H') : ∀ {vs : List V} {es : List (Str × Option Int)}, EntL H vs es → EntL H' vs es
  | _, _, .nil => .nil
  | _, _, .cons e a r => .cons (k _ _ e) (a.keep k) (r.keep k)
theorem EntL.len {H : Hp} : ∀ {vs : List V} {es : List (Str × Option Int)}, EntL H vs es → vs.length = es.length
  | _, _, .nil => rfl
  | _, _, .cons _ _ r => by
    show _ + 1 = _ + 1
    rw [EntL.len r]
theorem EntL.at_ {H : Hp} : ∀ {vs : List V} {es : List (Str × Option Int)}, EntL H vs es → ∀ {i : Nat} {v : V}, vs[i]? = some v → ∃ (t : Addr) (x : Str) (u : V) (o : Option Int), v = .ref t ∧ es[i]? = some (x, o) ∧ H t = some (.tup [.str x, u]) ∧ EnV H u o
  | _, _, .nil, i, v, h => by simp at h
  | _, _, @EntL.cons _ t x u o _ _ e a r, 0, v, h => by
    cases h
    exact ⟨t, x, u, o, rfl, rfl, e, a⟩
  | _, _, .cons e a r, i + 1, v, h => r.at_ (i := i) h
theorem EntL.snoc {H : Hp} {t : Addr} {x : Str} {u : V} {o : Option Int} (e : H t = some (.tup [.str x, u])) (a : EnV H u o) : ∀ {vs : List V} {l : List (Str × Option Int)}, EntL H vs l → EntL H (vs ++ [.ref t]) (l ++ [(x, o)])
  | _, _, .nil => .cons e a .nil
  | _, _, .cons e1 a1 r => .cons e1 a1 (r.snoc e a)
abbrev Fl := List (Path × Addr)
abbrev sJoins : Str := "joins"
abbrev sIndex : Str := "index"
def fdk (fl : Fl) : List (List Key × V) := fl.map fun f => (keyP f.1, .ref f.2)
def mdk (fl : Fl) : List (List Key × V) := fl.map fun f => (keyP f.1, .str sJoins)
theorem val_fdk {fl : Fl} {f : Path × Addr} (hn : (fl.map (·.1)).Nodup) (h : f ∈ fl) : valV (fdk fl) (keyP f.1) = some (.ref f.2) := by
  induction fl with
  | nil => cases h
  | cons g r ih =>
    rw [List.map_cons, List.nodup_cons] at hn
    show valV ((keyP g.1, V.ref g.2) :: fdk r) (keyP f.1) = _
    rcases List.mem_cons.mp h with rfl | h
    · exact valV_pos rfl
    · rw [valV_neg (fun z => hn.1 (by
        rw [key_inj z]
        exact List.mem_map_of_mem h))]
      exact ih hn.2 h
theorem val_mdk {fl : Fl} {p : Path} (h : p ∈ fl.map (·.1)) : valV (mdk fl) (keyP p) = some (.str sJoins) := by
  induction fl with
  | nil => cases h
  | cons g r ih =>
    show valV ((keyP g.1, V.str sJoins) :: mdk r) (keyP p) = _
    by_cases e : g.1 = p
    · exact valV_pos (by rw [e])
    · rw [valV_neg (fun z => e (key_inj z))]
      rcases List.mem_cons.mp h with z | h
      · exact absurd z.symm e
      · exact ih h
theorem val_no {α : Type} {fl : Fl} {g : Path × Addr → V} {p : Path} (h : p ∉ fl.map (·.1)) : valV (fl.map fun f => (keyP f.1, g f)) (keyP p) = none := by
  induction fl with
  | nil => rfl
  | cons a r ih =>
    show valV ((keyP a.1, g a) :: r.map fun f => (keyP f.1, g f)) (keyP p) = _
    rw [valV_neg (fun z => h (by rw [← key_inj z]; exact List.mem_cons_self))]
    exact ih fun z => h (List.mem_cons_of_mem _ z)
theorem put_new {kvs : List (List Key × V)} {k : List Key} {v : V} (h : valV kvs k = none) : putK kvs k v = kvs ++ [(k, v)] := by
  unfold putK
  rw [valV_any, h]
  rfl
theorem is_some {fl : Fl} {p : Path} (hn : (fl.map (·.1)).Nodup) : (valV (fdk fl) (keyP p)).isSome = decide (p ∈ fl.map (·.1)) := by
  by_cases h : p ∈ fl.map (·.1)
  · obtain ⟨f, hf, rfl⟩ := List.mem_map.mp h
    rw [val_fdk hn hf, decide_eq_true h] <;> rfl
  · rw [show valV (fdk fl) (keyP p) = none from val_no (α := Unit) h, decide_eq_false h] <;> rfl
/-- a Reader at r -/
structure RA (C : Addr) (H : Hp) (r dx fd md la pd wl xl : Addr) (fl : Fl) (last : Path) (evs : List Ev) : Prop where
  ins : H r = some (.ins C dx (rf fd md la pd))
  fds : H fd = some (.dT (fdk fl))
  mds : H md = some (.dT (mdk fl))
  las : H la = some (.tup (last.map V.str))
  pds : H pd = some (.dK [(.inr sWord, .ref wl), (.inr sIndex, .ref xl)])
  prs : ∃ vs, H wl = some (.lst vs) ∧ PairsAt H vs (psOf evs)
  ents : ∀ f ∈ fl, ∃ vs, H f.2 = some (.lst vs) ∧ EntL H vs (entsR evs f.1)
  nda : (fl.map (·.2)).Nodup
  ndp : (fl.map (·.1)).Nodup
  nw : wl ∉ fl.map (·.2)
  nfm : fd ≠ md
  par : ∀ p, p ∉ fl.map (·.1) → entsR evs p = []
  sz : evs.length + fl.length < 8000000
  wds : ∀ f ∈ fl, ∀ s ∈ f.1, isWordB s = true
  lwd : ∀ s ∈ last, isWordB s = true
  pwd : ∀ q ∈ psOf evs, isWordB q.2 = true
abbrev foot (r fd md wl : Addr) (fl : Fl) : List Addr := r :: fd :: md :: wl :: fl.map (·.2)
section
variable {C : Addr} {H H' : Hp} {r dx fd md la pd wl xl : Addr} {fl : Fl} {last : Path} {evs : List Ev}
theorem RA.bt {F : List Addr} (R : RA C H r dx fd md la pd wl xl fl last evs) (h : Bt F H H') (hF : ∀ x ∈ F, x ∉ foot r fd md wl fl ∧ x ≠ pd ∧ ∀ xs, H x ≠ some (.tup xs)) : RA C H' r dx fd md la pd wl xl fl last evs := by
  have nin : ∀ x ∈ foot r fd md wl fl, x ∉ F := fun x hx hf => (hF x hf).1 hx
  have tk : TupK H H' := fun b xs e => h b _ e fun z => (hF b z).2.2 xs e
  obtain ⟨vs, w1, w2⟩ := R.prs
  exact { R with
    ins := h _ _ R.ins (nin _ List.mem_cons_self)
    fds := h _ _ R.fds (nin _ (List.mem_cons_of_mem _ List.mem_cons_self))
    mds := h _ _ R.mds (nin _ (List.mem_cons_of_mem _ (List.mem_cons_of_mem _ List.mem_cons_self)))
    las := tk _ _ R.las
    pds := h _ _ R.pds fun z => (hF pd z).2.1 rfl
    prs := ⟨vs, h _ _ w1 (nin _ (List.mem_cons_of_mem _ (List.mem_cons_of_mem _ (List.mem_cons_of_mem _ List.mem_cons_self)))), w2.keep tk⟩
    ents := fun f hf => by
      obtain ⟨us, u1, u2⟩ := R.ents f hf
      exact ⟨us, h _ _ u1 (nin _ (List.mem_cons_of_mem _ (List.mem_cons_of_mem _ (List.mem_cons_of_mem _ (List.mem_cons_of_mem _ (List.mem_map_of_mem hf)))))), u2.keep tk⟩ }
theorem RA.same (R : RA C H r dx fd md la pd wl xl fl last evs) (s : Same H H') : RA C H' r dx fd md la pd wl xl fl last evs := R.bt (F := []) (bt_same s) fun x hx => by cases hx
end
section
variable {P : Program} {w : World} {K : PySem.W.Frag} {mg : Str → Option Value} {base : Heap} {f : Addr} {fd : FuncData} {C CB CL : Addr}
theorem merge2 {a b : V} : mergeK [] [((.inr sWord : Key), a), (.inr sIndex, b)] = [(.inr sWord, a), (.inr sIndex, b)] := by
  have h : valV [((.inr sWord : Key), a)] (.inr sIndex) = none := valV_neg (fun z => absurd (Sum.inr.inj z) (by decide +kernel))
  show putK [((.inr sWord : Key), a)] ((.inr sIndex : Key)) b = _
  unfold putK
  rw [valV_any, h]
  rfl
def spRInit (C : Addr) : Sp := fun vs H Q _ => ∃ (p dx : Addr), vs = [.ref p] ∧ H p = some (.ins C dx []) ∧ ∀ H' fd md la pd wl xl l0, Bt [p] H H' → RA C H' p dx fd md la pd wl xl [([], l0)] [] [] → (∀ x ∈ [fd, md, wl, l0, pd], H x = none) → Q .non H'
theorem sc_rinit : FnScope ["self"] ["self"] (defScope (rdM 0)) := ⟨rfl, rfl, rfl, by decide +kernel, rfl, by decide +kernel, by decide +kernel⟩
theorem ok_rinit (X : Tx mg) (T : RC K mg C) (F : Fun K "__init__" "Reader.__init__" (rdM 0) f fd) : FnOk P w K mg base CX0 1 f fd ["self"] (spRInit C) := by
  refine F.ok sc_rinit (fun vs H Q E h => ?_) (fun cdv A outer s H vs Q E hr h => ?_)
  · obtain ⟨p, dx, rfl, _⟩ := h
    rfl
  · obtain ⟨p, dx, rfl, hp, q⟩ := h
    have hu := hu_of hr
    refine ⟨_, pss_cons (ps_fld (pv 0) (pe_disp1T hu (pe_tup pa_nil) (pe_lst pa_nil)) rfl) (pss_cons (ps_fld (pv 0) (pe_disp1T hu (pe_tup pa_nil) (pe_gs X (by rfl) (z := sJoins) (by decide +kernel))) rfl)
      (pss_cons (ps_fld (pv 0) (pe_tup pa_nil) rfl) (pss_one (ps_fld (pv 0) (pe_disp (pps_cons (pe_gs X (by rfl) (z := sWord) (by decide +kernel)) (pe_lst pa_nil) (pps_cons (pe_gs X (by rfl) (z := sIndex) (by decide +kernel)) (pe_lst pa_nil) pps_nil)) (by rfl) (by rfl) (fun z => by cases z) (by decide)) rfl)))), ?_⟩
    intro d1 nd1
    refine ⟨Nat.zero_le _, fun t1 nt1 => ⟨Nat.zero_le _, fun l0 nl0 => ?_⟩⟩
    have s1 := ((same_upd (o := .dT []) nd1).upd (o := .tup []) nt1).upd (o := .lst []) nl0
    have a1 : upd (upd (upd H d1 (.dT [])) t1 (.tup [])) l0 (.lst []) t1 = some (.tup []) := same_upd nl0 _ _ upd_same
    have a2 : upd (upd (upd H d1 (.dT [])) t1 (.tup [])) l0 (.lst []) d1 = some (.dT []) := same_upd nl0 _ _ (same_upd nt1 _ _ upd_same)
    have n0 : l0 ≠ d1 := (ne_of_none (same_upd (o := .tup []) nt1 _ _ (upd_same (H := H) (a := d1) (o := .dT []))) nl0).symm
    have fl0 : H l0 = none := ((same_upd (o := .dT []) nd1).upd (o := .tup []) nt1).free nl0
    refine ⟨t1, [], rfl, a1, a2, ?_⟩
    have s2 : Same H (upd (upd (upd (upd H d1 (.dT [])) t1 (.tup [])) l0 (.lst [])) d1 (.dT [([], .ref l0)])) := same_putD nd1 s1
    have b1 : upd (upd (upd (upd H d1 (.dT [])) t1 (.tup [])) l0 (.lst [])) d1 (.dT [([], .ref l0)]) d1 = some (.dT [([], .ref l0)]) := upd_same
    have b2 : upd (upd (upd (upd H d1 (.dT [])) t1 (.tup [])) l0 (.lst [])) d1 (.dT [([], .ref l0)]) l0 = some (.lst []) := (upd_ne n0).trans upd_same
    generalize upd (upd (upd (upd H d1 (.dT [])) t1 (.tup [])) l0 (.lst [])) d1 (.dT [([], .ref l0)]) = H1 at *
    refine ⟨_, rfl, p, C, dx, _, rfl, s2 _ _ hp, T.cl, T.nF, (by show 0 < 1000; decide), ?_⟩
    have c0 : Bt [p] H (upd H1 p (.ins C dx (putF "folders" (.ref d1) []))) := fun b o e n => by
      rw [upd_ne (fun z => n (by rw [z]; exact List.mem_cons_self))]
      exact s2 b o e
    have c1 := (upd_ne (H := H1) (o := .ins C dx (putF "folders" (.ref d1) [])) (ne_of b1 (s2 _ _ hp) fun z => by cases z)).trans b1
    have c2 := (upd_ne (H := H1) (o := .ins C dx (putF "folders" (.ref d1) [])) (ne_of b2 (s2 _ _ hp) fun z => by cases z)).trans b2
    have c3 : upd H1 p (.ins C dx (putF "folders" (.ref d1) [])) p = some (.ins C dx [(kF, .ref d1)]) := upd_same
    generalize upd H1 p (.ins C dx (putF "folders" (.ref d1) [])) = H2 at *
    intro d2 nd2
    refine ⟨Nat.zero_le _, fun t2 nt2 => ?_⟩
    have s3 := (same_upd (o := .dT []) nd2).upd (o := .tup []) nt2
    have a3 : upd (upd H2 d2 (.dT [])) t2 (.tup []) d2 = some (.dT []) := same_upd nt2 _ _ upd_same
    refine ⟨t2, [], rfl, upd_same, a3, ?_⟩
    have s4 : Same H2 (upd (upd (upd H2 d2 (.dT [])) t2 (.tup [])) d2 (.dT [([], .str sJoins)])) := same_putD nd2 s3
    have b3 : upd (upd (upd H2 d2 (.dT [])) t2 (.tup [])) d2 (.dT [([], .str sJoins)]) d2 = some (.dT [([], .str sJoins)]) := upd_same
    have n12 : d1 ≠ d2 := ne_of_none c1 nd2
    have n02 : l0 ≠ d2 := ne_of_none c2 nd2
    generalize upd (upd (upd H2 d2 (.dT [])) t2 (.tup [])) d2 (.dT [([], .str sJoins)]) = H3 at *
    refine ⟨_, rfl, p, C, dx, _, rfl, s4 _ _ c3, T.cl, T.nM, (by show 1 < 1000; decide), ?_⟩
    rw [show putF "marks" (.ref d2) [(kF, .ref d1)] = [(kF, .ref d1), (kM, .ref d2)] from put2]
    have hH3 := s4 _ _ c3
    have g0 : Bt [p] H (upd H3 p (.ins C dx [(kF, .ref d1), (kM, .ref d2)])) := fun b o e n => by
      rw [upd_ne (fun z => n (by rw [z]; exact List.mem_cons_self))]
      exact s4 _ _ (c0 b o e n)
    have g1 := (upd_ne (H := H3) (o := .ins C dx [(kF, .ref d1), (kM, .ref d2)]) (ne_of (s4 _ _ c1) hH3 fun z => by cases z)).trans (s4 _ _ c1)
    have g2 := (upd_ne (H := H3) (o := .ins C dx [(kF, .ref d1), (kM, .ref d2)]) (ne_of (s4 _ _ c2) hH3 fun z => by cases z)).trans (s4 _ _ c2)
    have g3 := (upd_ne (H := H3) (o := .ins C dx [(kF, .ref d1), (kM, .ref d2)]) (ne_of b3 hH3 fun z => by cases z)).trans b3
    have g4 : upd H3 p (.ins C dx [(kF, .ref d1), (kM, .ref d2)]) p = some (.ins C dx [(kF, .ref d1), (kM, .ref d2)]) := upd_same
    generalize upd H3 p (.ins C dx [(kF, .ref d1), (kM, .ref d2)]) = H4 at *
    refine ⟨Nat.zero_le _, fun la nla => ?_⟩
    have s5 := same_upd (o := .tup []) nla
    have hla : upd H4 la (.tup []) la = some (.tup []) := upd_same
    generalize upd H4 la (.tup []) = H5 at *
    refine ⟨_, rfl, p, C, dx, _, rfl, s5 _ _ g4, T.cl, T.nL, (by show 2 < 1000; decide), ?_⟩
    rw [show putF "last" (.ref la) [(kF, .ref d1), (kM, .ref d2)] = [(kF, .ref d1), (kM, .ref d2), (kL, .ref la)] from put3]
    have hH5 := s5 _ _ g4
    have j0 : Bt [p] H (upd H5 p (.ins C dx [(kF, .ref d1), (kM, .ref d2), (kL, .ref la)])) := fun b o e n => by
      rw [upd_ne (fun z => n (by rw [z]; exact List.mem_cons_self))]
      exact s5 _ _ (g0 b o e n)
    have j1 := (upd_ne (H := H5) (o := .ins C dx [(kF, .ref d1), (kM, .ref d2), (kL, .ref la)]) (ne_of (s5 _ _ g1) hH5 fun z => by cases z)).trans (s5 _ _ g1)
    have j2 := (upd_ne (H := H5) (o := .ins C dx [(kF, .ref d1), (kM, .ref d2), (kL, .ref la)]) (ne_of (s5 _ _ g2) hH5 fun z => by cases z)).trans (s5 _ _ g2)
    have j3 := (upd_ne (H := H5) (o := .ins C dx [(kF, .ref d1), (kM, .ref d2), (kL, .ref la)]) (ne_of (s5 _ _ g3) hH5 fun z => by cases z)).trans (s5 _ _ g3)
    have j4 := (upd_ne (H := H5) (o := .ins C dx [(kF, .ref d1), (kM, .ref d2), (kL, .ref la)]) (ne_of hla hH5 fun z => by cases z)).trans hla
    have j5 : upd H5 p (.ins C dx [(kF, .ref d1), (kM, .ref d2), (kL, .ref la)]) p = some (.ins C dx [(kF, .ref d1), (kM, .ref d2), (kL, .ref la)]) := upd_same
    generalize upd H5 p (.ins C dx [(kF, .ref d1), (kM, .ref d2), (kL, .ref la)]) = H6 at *
    intro pd npd
    refine ⟨Nat.zero_le _, fun wl nwl => ⟨Nat.zero_le _, fun xl nxl => ?_⟩⟩
    have s6 := ((same_upd (o := .dK []) npd).upd (o := .lst []) nwl).upd (o := .lst []) nxl
    have a6 : upd (upd (upd H6 pd (.dK [])) wl (.lst [])) xl (.lst []) pd = some (.dK []) := same_upd nxl _ _ (same_upd nwl _ _ upd_same)
    have a7 : upd (upd (upd H6 pd (.dK [])) wl (.lst [])) xl (.lst []) wl = some (.lst []) := same_upd nxl _ _ upd_same
    refine ⟨a6, [(.inr sWord, .ref wl), (.inr sIndex, .ref xl)], rfl, (by show 2 ≤ 15; decide), ?_⟩
    rw [merge2]
    have s7 : Same H6 (upd (upd (upd (upd H6 pd (.dK [])) wl (.lst [])) xl (.lst [])) pd (.dK [(.inr sWord, .ref wl), (.inr sIndex, .ref xl)])) := same_putD npd s6
    have b7 : upd (upd (upd (upd H6 pd (.dK [])) wl (.lst [])) xl (.lst [])) pd (.dK [(.inr sWord, .ref wl), (.inr sIndex, .ref xl)]) pd = some (.dK [(.inr sWord, .ref wl), (.inr sIndex, .ref xl)]) := upd_same
    have b8 : upd (upd (upd (upd H6 pd (.dK [])) wl (.lst [])) xl (.lst [])) pd (.dK [(.inr sWord, .ref wl), (.inr sIndex, .ref xl)]) wl = some (.lst []) := (upd_ne (ne_of a7 a6 fun z => by cases z)).trans a7
    have nwl6 : H6 wl = none := (same_upd (o := .dK []) npd).free nwl
    generalize upd (upd (upd (upd H6 pd (.dK [])) wl (.lst [])) xl (.lst [])) pd (.dK [(.inr sWord, .ref wl), (.inr sIndex, .ref xl)]) = H7 at *
    refine ⟨_, rfl, p, C, dx, _, rfl, s7 _ _ j5, T.cl, T.nP, (by show 3 < 1000; decide), ?_⟩
    rw [show putF "pairs" (.ref pd) [(kF, .ref d1), (kM, .ref d2), (kL, .ref la)] = rf d1 d2 la pd from put4]
    have hH7 := s7 _ _ j5
    have none_of : ∀ {x : Addr}, H6 x = none → x ≠ p → H x = none := fun {x} h n => by
      cases e : H x with
      | none => rfl
      | some o =>
        have z := j0 x o e (by simpa using n)
        rw [h] at z
        cases z
    have ne_p : ∀ {x : Addr}, H x = none → x ≠ p := fun {x} h z => by
      rw [z, hp] at h
      cases h
    have ke : ∀ {x : Addr} {o : HO}, H7 x = some o → x ≠ p → upd H7 p (.ins C dx (rf d1 d2 la pd)) x = some o := fun {x o} h n => (upd_ne n).trans h
    have np6 : ∀ {x : Addr}, H6 x = none → x ≠ p := fun {x} h z => by
      rw [z, j5] at h
      cases h
    have d2p : d2 ≠ p := ne_of j3 j5 fun z => by cases z
    have d1p : d1 ≠ p := ne_of j1 j5 fun z => by cases z
    have l0p : l0 ≠ p := ne_of j2 j5 fun z => by cases z
    have fd2 : H d2 = none := by
      cases e : H d2 with
      | none => rfl
      | some o =>
        have z := c0 d2 o e (by simpa using d2p)
        rw [nd2] at z
        cases z
    refine q _ d1 d2 la pd wl xl l0 (fun b o e n => ?_) ⟨upd_same, ke (s7 _ _ j1) d1p, ke (s7 _ _ j3) d2p, ke (s7 _ _ j4) (ne_of j4 j5 fun z => by cases z), ke b7 (np6 npd), ⟨[], ke b8 (np6 nwl6), .nil⟩, ?_, by simp, by simp, ?_, n12, fun _ _ => rfl, (by show 1 < 8000000; decide), ?_, (fun s hs => by cases hs), fun q hq => by cases hq⟩ ?_
    · rw [upd_ne (fun z => n (by rw [z]; exact List.mem_cons_self))]
      exact s7 _ _ (j0 b o e n)
    · intro f hf
      rcases List.mem_cons.mp hf with rfl | hf
      · exact ⟨[], ke (s7 _ _ j2) l0p, .nil⟩
      · cases hf
    · intro z
      have z' : wl = l0 := by simpa using z
      rw [z', j2] at nwl6
      cases nwl6
    · intro f hf s hs
      rcases List.mem_cons.mp hf with rfl | hf
      · cases hs
      · cases hf
    · intro x hx
      simp only [List.mem_cons, List.not_mem_nil, or_false] at hx
      rcases hx with rfl | rfl | rfl | rfl | rfl
      · exact nd1
      · exact fd2
      · exact none_of nwl6 (np6 nwl6)
      · exact fl0
      · exact none_of npd (np6 npd)
end
end KD10
end L2
set_option Elab.async false
set_option linter.all false
set_option maxRecDepth 100000
set_option maxHeartbeats 4000000
/-! k92: Reader.place_in -/
namespace L2
namespace KD11
open PySem PySem.Spec PyProof.Rows LamX NdefX KB KN KH KL KM KX KD1 KD2 KD3 KD4 KD5 KD6 KD7 KMa KD8 KD9 KD10
theorem cut_last {xs : List V} (h : xs ≠ []) : cutV xs none (some (-1)) = xs.dropLast ∧ ¬ (HT.sIx xs.length 0 none = 0 ∧ HT.sIx xs.length xs.length (some (-1)) = xs.length) := by
  have hl : 0 < xs.length := List.length_pos_iff.mpr h
  have e : HT.sIx xs.length xs.length (some (-1)) = xs.length - 1 := by
    show (if (-1 : Int) < 0 then ((-1 : Int) + (xs.length : Int)).toNat else min (-1 : Int).toNat xs.length) = _
    rw [if_pos (show (-1 : Int) < 0 by decide)]
    omega
  refine ⟨?_, fun z => ?_⟩
  · unfold cutV
    rw [e, HT.sIx_none, List.drop_zero, Nat.sub_zero, List.dropLast_eq_take]
  · rw [e] at z
    omega
/-- line n is wrong at its word a; F may have changed -/
def BadF (CB : Addr) (E : XK) (F : List Addr) (H : Hp) (n : Int) (a : Nat) : Prop := ∀ H' d, Bt F H H' → H' d = none → E (.ref CB) (some d) (upd H' d (xT a (.int n)))
theorem BadF.x {CB : Addr} {E : XK} {F : List Addr} {H H1 : Hp} {n : Int} {a : Nat} (b : BadF CB E F H n a) (h : Bt F H H1) : BadX CB E H1 n a := fun H' d s nd => b H' d (h.trans (bt_same (F := []) s) fun x hx => by cases hx) nd
theorem BadF.bt {CB : Addr} {E : XK} {F G : List Addr} {H H1 : Hp} {n : Int} {a : Nat} (b : BadF CB E F H n a) (h : Bt F H H1) (g : ∀ x ∈ G, x ∈ F ∨ H x = none) : BadF CB E G H1 n a := fun H' d s nd => b H' d (h.trans s g) nd
theorem bt_nxt {CL : Addr} {H H' : Hp} {p dx l : Addr} {n : Int} {a : Nat} (s : Same (nxt CL H p dx l n a) H') : Bt [p] H H' := fun b o e hb => s b o ((upd_ne (fun z => hb (by rw [z]; exact List.mem_cons_self))).trans e)
section
variable {C CL : Addr} {H : Hp} {r dx fd md la pd wl xl p dxl l : Addr} {fl : Fl} {last : Path} {evs : List Ev} {n : Int} {a : Nat} {ws : List Str}
/-- the line is none of the reader's own things -/
theorem line_out (R : RA C H r dx fd md la pd wl xl fl last evs) (hi : ∃ fs, H p = some (.ins CL dxl fs) ∧ fs.length = 3) : ∀ x ∈ [p], x ∉ foot r fd md wl fl ∧ x ≠ pd ∧ ∀ xs, H x ≠ some (.tup xs) := by
  obtain ⟨fs, hp, h3⟩ := hi
  intro x hx
  have e : x = p := by simpa using hx
  subst e
  refine ⟨fun z => ?_, fun z => ?_, fun xs z => ?_⟩
  · rcases List.mem_cons.mp z with z | z
    · have y := R.ins
      rw [← z, hp] at y
      injection y with y
      injection y with y1 y2 y3
      rw [y3] at h3
      exact absurd h3 (by show ¬ 4 = 3; decide)
    rcases List.mem_cons.mp z with z | z
    · have y := R.fds
      rw [← z, hp] at y
      cases y
    rcases List.mem_cons.mp z with z | z
    · have y := R.mds
      rw [← z, hp] at y
      cases y
    rcases List.mem_cons.mp z with z | z
    · obtain ⟨vs, y, _⟩ := R.prs
      rw [← z, hp] at y
      cases y
    · obtain ⟨f, hf, e⟩ := List.mem_map.mp z
      obtain ⟨vs, y, _⟩ := R.ents f hf
      rw [e, hp] at y
      cases y
  · have y := R.pds
    rw [← z, hp] at y
    cases y
  · rw [hp] at z
    cases z
theorem RA.nxt (R : RA C H r dx fd md la pd wl xl fl last evs) (L : LA CL H p dxl l n a ws) {H' : Hp} (s : Same (KD9.nxt CL H p dxl l n a) H') : RA C H' r dx fd md la pd wl xl fl last evs :=
  R.bt (bt_nxt s) (line_out R ⟨_, L.ins, rfl⟩)
theorem ra_last {q : Path} {t : Addr} (R : RA C H r dx fd md la pd wl xl fl last evs) (ht : H t = some (.tup (q.map V.str))) (hw : ∀ s ∈ q, isWordB s = true) : RA C (upd H r (.ins C dx (rf fd md t pd))) r dx fd md t pd wl xl fl q evs := by
  have ke : ∀ {x : Addr} {o : HO}, H x = some o → (∀ fs, o ≠ .ins C dx fs) → upd H r (.ins C dx (rf fd md t pd)) x = some o := fun {x o} h n => (upd_ne (ne_of h R.ins fun z => n _ z)).trans h
  have tk : TupK H (upd H r (.ins C dx (rf fd md t pd))) := fun b xs e => ke e fun _ z => by cases z
  obtain ⟨vs, w1, w2⟩ := R.prs
  exact { ins := upd_same, fds := ke R.fds (fun _ z => by cases z), mds := ke R.mds (fun _ z => by cases z), las := tk _ _ ht, pds := ke R.pds (fun _ z => by cases z), prs := ⟨vs, ke w1 (fun _ z => by cases z), w2.keep tk⟩,
          ents := fun f hf => by
            obtain ⟨us, u1, u2⟩ := R.ents f hf
            exact ⟨us, ke u1 (fun _ z => by cases z), u2.keep tk⟩
          nda := R.nda, ndp := R.ndp, nw := R.nw, nfm := R.nfm, par := R.par, sz := R.sz, wds := R.wds, lwd := hw, pwd := R.pwd }
end
/-- a path that has no place -/
def badP (fl : Fl) (last q : Path) : Prop := q = [] ∨ q.dropLast ∉ fl.map (·.1) ∨ ltP last q = false
section
variable {P : Program} {w : World} {K : PySem.W.Frag} {mg : Str → Option Value} {base : Heap} {f : Addr} {fd0 : FuncData} {C CB CL : Addr}
def spPlace (C CB CL : Addr) : Sp := fun vs H Q E => ∃ (r dx fd md la pd wl xl p dxl l : Addr) (fl : Fl) (last : Path) (evs : List Ev) (n : Int) (a : Nat) (ws : List Str), vs = [.ref r, .ref p, .int 6] ∧ RA C H r dx fd md la pd wl xl fl last evs ∧ LA CL H p dxl l n a ws ∧
  ((pathIn (at_ ws a) 6 = none ∨ ∃ q, pathIn (at_ ws a) 6 = some q ∧ badP fl last q) → BadF CB E (p :: foot r fd md wl fl) H n a) ∧
  ∀ q, pathIn (at_ ws a) 6 = some q → ¬ badP fl last q → ∀ H' t, RA C H' r dx fd md t pd wl xl fl q evs → LA CL H' p dxl l n (a + 1) ws → H' t = some (.tup (q.map V.str)) → Bt (p :: foot r fd md wl fl) H H' → Q (.ref t) H'
theorem sc_place : FnScope ["self", "line", "most", "at", "path"] ["self", "line", "most"] (defScope (rdM 1)) := ⟨rfl, rfl, rfl, by decide +kernel, rfl, by decide +kernel, by decide +kernel⟩
theorem ok_place (T : RC K mg C) (TL : LC K mg CL) (M : MkX P w K mg base "BadText" CB ["self", "line", "word"] (spBX CB)) (cN : Me (L2.CX P w) P w K mg base 5 CL "next_path" ["self", "most"] (spNextPath CL CB)) (F : Fun K "place_in" "Reader.place_in" (rdM 1) f fd0) :
    FnOk P w K mg base (L2.CX P w) 6 f fd0 ["self", "line", "most"] (spPlace C CB CL) := by
  refine F.okX sc_place (fun vs H Q E h => ?_) (fun cdv A outer s H vs Q E hr h => ?_)
  · obtain ⟨r, dx, fd, md, la, pd, wl, xl, p, dxl, l, fl, last, evs, n, a, ws, rfl, _⟩ := h
    rfl
  · obtain ⟨r, dx, fd, md, la, pd, wl, xl, p, dxl, l, fl, last, evs, n, a, ws, rfl, R, L, q1, q2⟩ := h
    have hr2 : Room 2 _ := hr.mono (by decide)
    have hu := hu_of hr
    have nd := sc_place.nd
    refine ⟨_, pss_cons (ps_set (i := 3) nd rfl (Or.inl rfl) (pe_fld (pv 1) rfl)) (pss_cons (ps_set (i := 4) nd rfl (Or.inl rfl) (pe_me cN (pv 1) TL.cl hr (passes_call (takes_of rfl rfl rfl rfl) (fun _ _ _ _ h => h)) (pa_cons (pv 2) pa_nil)))
      (pss_cons (ps_if (PW.pt (pw_or (pt_cmpR (op_eqD hr.units) (pv 4) (pe_tup pa_nil) (nomark _)) (pw_or (pt_cmp (pc_dnotin hu (pe_slice sl_tupA (pv 4) po_none (po_some (pe_un un_neg pe_int))) (pe_fld (pv 0) rfl))) (pw_or1 (pt_not (pt_cmpR (op_ltS hr.units0) (pe_fld (pv 0) rfl) (pv 4) (nomark _)))))))
        (pss_one (ps_raise rfl (takes_of rfl rfl rfl rfl) (pmk_x M hr2 (by rfl) (pa_cons (pe_fld (pv 1) rfl) (pa_cons (pv 3) pa_nil))))) pss_nil)
      (pss_cons (ps_fld (pv 0) (pv 4) rfl) (pss_one (ps_ret (pv 4)))))), ?_⟩
    refine ⟨_, rfl, p, CL, dxl, _, _, rfl, L.ins, TL.cl, TL.nA, lf_a, ?_⟩
    refine ⟨_, rfl, p, dxl, _, rfl, L.ins, k_ne _ (by decide +kernel), _, rfl, p, dxl, l, n, a, ws, 6, rfl, L, fun e => ?_, fun q e H1 t s1 nt et => ?_⟩
    · exact (q1 (.inl e)).x fun b o e _ => e
    have R1 := RA.nxt R L s1
    have L1 : LA CL H1 p dxl l n (a + 1) ws := (L.next).same s1
    have B1 : Bt (p :: foot r fd md wl fl) H H1 := (bt_nxt s1).mono fun x hx => by
      rw [List.mem_singleton.mp hx]
      exact List.mem_cons_self
    have wq := (pathIn_words e).2
    refine ⟨_, rfl, Nat.zero_le _, fun t2 nt2 => ?_⟩
    have s2 := same_upd (o := .tup []) nt2
    have et2 := s2 _ _ et
    have R2 := R1.same s2
    have L2' := L1.same s2
    have B2 : Bt (p :: foot r fd md wl fl) H (upd H1 t2 (.tup [])) := B1.trans (bt_same (F := []) s2) fun x hx => by cases hx
    refine ⟨_, _, strsT (SqT.of et2), .tup (SqT.of upd_same) .nil, shaped_strs wq, shaped_strs (ss := []) (fun s hs => by cases hs), _, rfl, ?_⟩
    generalize upd H1 t2 (.tup []) = H2 at *
    rw [show PyData.eqv (.tuple (q.map PyData.str)) (.tuple []) = decide (q = []) from eqv_strs q []]
    have bad : ∀ (H5 : Hp), badP fl last q → Bt (p :: foot r fd md wl fl) H H5 → [V.int n, V.int a].length ≤ 1000 ∧ ∀ b, H5 b = none → spBX CB (.ref b :: ([V.int n, V.int a] ++ [])) (upd H5 b (exo b CB none))
        (fun v H6 => v = .non ∧ ∃ (d : Addr) (fs : List (Str × V)), H6 b = some (exo b CB (some d)) ∧ H6 d = some (exd d fs) ∧ H5 d = none ∧ E (.ref CB) (some d) (upd (del H6 b) d (.xd fs))) (fun _ _ _ => False) :=
      fun H5 hb B5 => text_made (l := .int n) (v := .int a) (Q := E) fun d nd => q1 (.inr ⟨q, e, hb⟩) H5 d B5 nd
    refine ited (fun h1 => ?_) (fun h1 => ?_)
    · exact iteT ⟨_, rfl, p, CL, dxl, _, _, rfl, L2'.ins, TL.cl, TL.nN, lf_n, _, rfl, bad H2 (.inl h1) B2⟩
    have h1' : q.map V.str ≠ [] := fun z => h1 (List.map_eq_nil_iff.mp z)
    obtain ⟨c1, c2⟩ := cut_last h1'
    refine ⟨_, rfl, _, rfl, _, rfl, t, _, rfl, SqT.of et2, fun z => absurd z c2, fun _ t3 nt3 => ?_⟩
    have s3 := same_upd (o := .tup (cutV (q.map V.str) none (some (-1)))) nt3
    have et3 : upd H2 t3 (.tup (cutV (q.map V.str) none (some (-1)))) t3 = some (.tup ((keyP q.dropLast).map kV)) := by
      rw [upd_same, c1, key_v, List.map_dropLast]
    have R3 := R2.same s3
    have L3 := L2'.same s3
    have et3' := s3 _ _ et2
    have B3 : Bt (p :: foot r fd md wl fl) H (upd H2 t3 (.tup (cutV (q.map V.str) none (some (-1))))) := B2.trans (bt_same (F := []) s3) fun x hx => by cases hx
    generalize upd H2 t3 (.tup (cutV (q.map V.str) none (some (-1)))) = H3 at *
    refine ⟨_, rfl, r, C, dx, _, _, rfl, R3.ins, T.cl, T.nF, rf_f, fd, _, rfl, DGet.t R3.fds et3, _, rfl, ?_⟩
    rw [is_some R3.ndp]
    refine iteN (fun h2 => ?_) (fun h2 => ?_)
    · exact iteT ⟨_, rfl, p, CL, dxl, _, _, rfl, L3.ins, TL.cl, TL.nN, lf_n, _, rfl, bad H3 (.inr (.inl (of_decide_eq_false h2))) B3⟩
    refine ⟨_, rfl, r, C, dx, _, _, rfl, R3.ins, T.cl, T.nL, rf_l, _, rfl, la, t, last, q, rfl, rfl, SqT.of R3.las, SqT.of et3', _, rfl, ?_⟩
    refine iteN (fun h3 => ?_) (fun h3 => ?_)
    · exact ⟨_, rfl, p, CL, dxl, _, _, rfl, L3.ins, TL.cl, TL.nN, lf_n, _, rfl, bad H3 (.inr (.inr h3)) B3⟩
    refine ⟨_, rfl, _, rfl, r, C, dx, _, rfl, R3.ins, T.cl, T.nL, (by show 4 < 1000; decide), ?_⟩
    rw [show putF "last" (.ref t) (rf fd md la pd) = rf fd md t pd from rf_put]
    have nb : ¬ badP fl last q := fun z => by
      rcases z with z | z | z
      · exact h1 z
      · exact z (of_decide_eq_true h2)
      · rw [h3] at z
        cases z
    have npr : ¬ p = r := fun z => by
      have := (line_out R3 ⟨_, L3.ins, rfl⟩ p List.mem_cons_self).1
      exact this (by rw [z]; exact List.mem_cons_self)
    refine ⟨_, rfl, q2 q e nb _ t (ra_last R3 et3' wq) ⟨(upd_ne npr).trans L3.ins, (upd_ne (ne_of L3.lst R3.ins fun z => by cases z)).trans L3.lst, L3.ok⟩ ((upd_ne (ne_of et3' R3.ins fun z => by cases z)).trans et3') fun b o eb hb => ?_⟩
    rw [upd_ne (fun z => hb (by rw [z]; exact List.mem_cons_of_mem _ List.mem_cons_self))]
    exact B3 b o eb hb
end
end KD11
end L2
set_option Elab.async false
set_option linter.all false
set_option maxRecDepth 100000
set_option maxHeartbeats 4000000
/-! k92: Reader.put, begin_folder -/
namespace L2
namespace KD12
open PySem PySem.Spec PyProof.Rows LamX NdefX KB KN KH KL KM KX KD1 KD2 KD3 KD4 KD5 KD6 KD7 KMa KD8 KD9 KD10 KD11
/-- the event of an entry -/
def evOf (q : Path) : Option Int → Ev
  | none => .folder q
  | some n => .file q n
theorem ent_ev {q p : Path} {o : Option Int} (h : q ≠ []) : entOf p (evOf q o) = if q.dropLast = p then some (lastOf q, o) else none := by
  cases o with
  | none =>
    show (if q ≠ [] ∧ q.dropLast = p then _ else _) = _
    by_cases e : q.dropLast = p
    · rw [if_pos ⟨h, e⟩, if_pos e]
    · rw [if_neg (fun z => e z.2), if_neg e]
  | some n =>
    show (if q ≠ [] ∧ q.dropLast = p then _ else _) = _
    by_cases e : q.dropLast = p
    · rw [if_pos ⟨h, e⟩, if_pos e]
    · rw [if_neg (fun z => e z.2), if_neg e]
theorem pair_ev {q : Path} {o : Option Int} : pairOf (evOf q o) = none := by
  cases o <;> rfl
theorem at_last {q : Path} (h : q ≠ []) : atI (q.map V.str) (-1) = some (.str (lastOf q)) := by
  have hl : 0 < q.length := List.length_pos_iff.mpr h
  have e : ixN (q.map V.str).length (-1) = some (q.length - 1) := by
    unfold ixN
    rw [List.length_map, if_neg (by decide), if_pos (by omega)]
    congr 1
    omega
  unfold atI
  rw [e]
  show (q.map V.str)[q.length - 1]? = _
  rw [List.getElem?_map, List.getElem?_eq_getElem (by omega)]
  show some (V.str _) = some (V.str _)
  congr 2
  unfold lastOf
  rw [List.getLastD_eq_getLast?, List.getLast?_eq_getElem?, List.getElem?_eq_getElem (by omega)]
  rfl
section
variable {C CL : Addr} {H : Hp} {r dx fd md la pd wl xl p dxl l : Addr} {fl : Fl} {last : Path} {evs : List Ev} {n : Int} {a : Nat} {ws : List Str}
theorem nda_eq {f g : Path × Addr} (hn : (fl.map (·.2)).Nodup) (hf : f ∈ fl) (hg : g ∈ fl) (e : g.2 = f.2) : g = f := by
  induction fl with
  | nil => cases hf
  | cons b r ih =>
    rw [List.map_cons, List.nodup_cons] at hn
    rcases List.mem_cons.mp hf with rfl | hf'
    · rcases List.mem_cons.mp hg with rfl | hg'
      · rfl
      · exact absurd (by rw [← e]; exact List.mem_map_of_mem hg') hn.1
    · rcases List.mem_cons.mp hg with rfl | hg'
      · exact absurd (by rw [e]; exact List.mem_map_of_mem hf') hn.1
      · exact ih hn.2 hf' hg'
theorem ndp_eq {f g : Path × Addr} (hn : (fl.map (·.1)).Nodup) (hf : f ∈ fl) (hg : g ∈ fl) (e : g.1 = f.1) : g = f := by
  induction fl with
  | nil => cases hf
  | cons b r ih =>
    rw [List.map_cons, List.nodup_cons] at hn
    rcases List.mem_cons.mp hf with rfl | hf'
    · rcases List.mem_cons.mp hg with rfl | hg'
      · rfl
      · exact absurd (by rw [← e]; exact List.mem_map_of_mem hg') hn.1
    · rcases List.mem_cons.mp hg with rfl | hg'
      · exact absurd (by rw [e]; exact List.mem_map_of_mem hf') hn.1
      · exact ih hn.2 hf' hg'
theorem ra_put {f : Path × Addr} {q : Path} {o : Option Int} {t : Addr} {v : V} {vs : List V} (R : RA C H r dx fd md la pd wl xl fl last evs) (hf : f ∈ fl) (ef : f.1 = q.dropLast) (hq : q ≠ []) (ht : H t = some (.tup [.str (lastOf q), v])) (hv : EnV H v o)
    (h1 : H f.2 = some (.lst vs)) (h2 : EntL H vs (entsR evs f.1)) (hz : evs.length + fl.length + 1 < 8000000) : RA C (upd H f.2 (.lst (vs ++ [.ref t]))) r dx fd md la pd wl xl fl last (evs ++ [evOf q o]) := by
  have ke : ∀ {x : Addr} {u : HO}, H x = some u → (∀ ys, u ≠ .lst ys) → upd H f.2 (.lst (vs ++ [.ref t])) x = some u := fun {x u} h n => (upd_ne (ne_of h h1 fun z => n _ z)).trans h
  have tk : TupK H (upd H f.2 (.lst (vs ++ [.ref t]))) := fun b xs e => ke e fun _ z => by cases z
  obtain ⟨us, w1, w2⟩ := R.prs
  have nwf : wl ≠ f.2 := fun z => R.nw (by rw [z]; exact List.mem_map_of_mem hf)
  have eps : psOf (evs ++ [evOf q o]) = psOf evs := by
    rw [ps_snoc, pair_ev]
    exact List.append_nil _
  exact {
    ins := ke R.ins fun _ z => by cases z
    fds := ke R.fds fun _ z => by cases z
    mds := ke R.mds fun _ z => by cases z
    las := tk _ _ R.las
    pds := ke R.pds fun _ z => by cases z
    prs := ⟨us, (upd_ne nwf).trans w1, by rw [eps]; exact w2.keep tk⟩
    ents := fun g hg => by
      rw [ents_snoc, ent_ev hq]
      by_cases e : g.2 = f.2
      · have egf := nda_eq R.nda hf hg e
        subst egf
        rw [if_pos ef.symm]
        exact ⟨_, upd_same, (h2.keep tk).snoc (tk _ _ ht) (hv.keep tk)⟩
      · have e1 : ¬ q.dropLast = g.1 := fun z => e (by rw [ndp_eq R.ndp hf hg (z.symm.trans ef.symm)])
        rw [if_neg e1]
        obtain ⟨ys, y1, y2⟩ := R.ents g hg
        exact ⟨ys, (upd_ne e).trans y1, by rw [show (none : Option (Str × Option Int)).toList = [] from rfl, List.append_nil]; exact y2.keep tk⟩
    nda := R.nda
    ndp := R.ndp
    nw := R.nw
    nfm := R.nfm
    par := fun p hp => by
      rw [ents_snoc, ent_ev hq, R.par p hp, if_neg (fun z => hp (by rw [← z, ← ef]; exact List.mem_map_of_mem hf))]
      rfl
    sz := by
      rw [List.length_append]
      show evs.length + 1 + fl.length < 8000000
      omega
    wds := R.wds
    lwd := R.lwd
    pwd := by
      rw [eps]
      exact R.pwd }
end
section
variable {P : Program} {w : World} {K : PySem.W.Frag} {mg : Str → Option Value} {base : Heap} {f : Addr} {fd0 : FuncData} {C CB CL : Addr}
def spPut (C : Addr) : Sp := fun vs H Q _ => ∃ (r dx fd md la pd wl xl t : Addr) (fl : Fl) (last : Path) (evs : List Ev) (q : Path) (v : V) (o : Option Int), vs = [.ref r, .ref t, v] ∧ RA C H r dx fd md la pd wl xl fl last evs ∧ H t = some (.tup (q.map V.str)) ∧ q ≠ [] ∧ q.dropLast ∈ fl.map (·.1) ∧ EnV H v o ∧
  evs.length + fl.length + 1 < 8000000 ∧ ∀ H', RA C H' r dx fd md la pd wl xl fl last (evs ++ [evOf q o]) → Bt (fl.map (·.2)) H H' → Q .non H'
theorem sc_put : FnScope ["self", "path", "entry"] ["self", "path", "entry"] (defScope (rdM 2)) := ⟨rfl, rfl, rfl, by decide +kernel, rfl, by decide +kernel, by decide +kernel⟩
theorem ok_put (T : RC K mg C) (F : Fun K "put" "Reader.put" (rdM 2) f fd0) : FnOk P w K mg base CX0 1 f fd0 ["self", "path", "entry"] (spPut C) := by
  refine F.ok sc_put (fun vs H Q E h => ?_) (fun cdv A outer s H vs Q E hr h => ?_)
  · obtain ⟨r, dx, fd, md, la, pd, wl, xl, t, fl, last, evs, q, v, o, rfl, _⟩ := h
    rfl
  · obtain ⟨r, dx, fd, md, la, pd, wl, xl, t, fl, last, evs, q, v, o, rfl, R, ht, hq, hin, hv, hz, k⟩ := h
    have hu := hu_of hr
    refine ⟨_, pss_one (ps_expr (pe_bm PySem.F.plainAttrs_list PySem.F.slot_list_append PySem.F.type_list_append mt_append (pe_dget hu (pe_fld (pv 0) rfl) (pe_slice sl_tupA (pv 1) po_none (po_some (pe_un un_neg pe_int))) (fun _ _ => rfl))
      (pa_cons (pe_tup (pa_cons (pe_ix ix_tup (pv 1) (pe_un un_neg pe_int) (fun _ _ => rfl)) (pa_cons (pv 2) pa_nil))) pa_nil))), ?_⟩
    obtain ⟨c1, c2⟩ := cut_last (xs := q.map V.str) (fun z => hq (List.map_eq_nil_iff.mp z))
    obtain ⟨g, hg, eg⟩ := List.mem_map.mp hin
    refine ⟨_, rfl, r, C, dx, _, _, rfl, R.ins, T.cl, T.nF, rf_f, _, rfl, _, rfl, _, rfl, t, _, rfl, SqT.of ht, fun z => absurd z c2, fun _ t3 nt3 => ?_⟩
    have s3 := same_upd (o := .tup (cutV (q.map V.str) none (some (-1)))) nt3
    have et3 : upd H t3 (.tup (cutV (q.map V.str) none (some (-1)))) t3 = some (.tup ((keyP g.1).map kV)) := by
      rw [upd_same, c1, key_v, eg, List.map_dropLast]
    have R3 := R.same s3
    have ht3 := s3 _ _ ht
    have hv3 := hv.keep (tupK_same s3)
    generalize upd H t3 (.tup (cutV (q.map V.str) none (some (-1)))) = H3 at *
    have dg := DGet.t R3.fds et3
    rw [val_fdk R3.ndp hg] at dg
    obtain ⟨vs, v1, v2⟩ := R3.ents g hg
    refine ⟨fd, _, rfl, dg, .inl ⟨rfl, _, SqL.of v1⟩, ?_⟩
    refine ⟨_, rfl, _, rfl, t, _, _, _, rfl, rfl, SqT.of ht3, at_last hq, _, rfl, (by show 2 ≤ sizeLine; decide), fun t4 nt4 => ?_⟩
    have s4 := same_upd (o := .tup [.str (lastOf q), v]) nt4
    have ht4 : upd H3 t4 (.tup [.str (lastOf q), v]) t4 = some (.tup [.str (lastOf q), v]) := upd_same
    have R4 := R3.same s4
    have v1' := s4 _ _ v1
    have v2' := v2.keep (tupK_same s4)
    have hv4 := hv3.keep (tupK_same s4)
    have s34 := s3.trans s4
    generalize upd H3 t4 (.tup [.str (lastOf q), v]) = H4 at *
    refine ⟨g.2, _, _, rfl, rfl, v1', ?_, ?_⟩
    · rw [v2'.len]
      have h1 := ents_len evs g.1
      exact Nat.lt_of_le_of_lt h1 (by have e := sizeLine_eq; omega)
    · refine k _ (ra_put R4 hg eg hq ht4 hv4 v1' v2' hz) fun b ob e hb => ?_
      rw [upd_ne (fun z => hb (by rw [z]; exact List.mem_map_of_mem hg))]
      exact s34 b ob e
end
end KD12
end L2
set_option Elab.async false
set_option linter.all false
set_option maxRecDepth 100000
set_option maxHeartbeats 4000000
/-! k92: Reader.begin_folder, take_pair -/
namespace L2
namespace KD13
open PySem PySem.Spec PyProof.Rows LamX NdefX KB KN KH KL KM KX KD1 KD2 KD3 KD4 KD5 KD6 KD7 KMa KD8 KD9 KD10 KD11 KD12
section
variable {C CL : Addr} {H : Hp} {r dx fd md la pd wl xl p dxl l : Addr} {fl : Fl} {last : Path} {evs : List Ev} {n : Int} {a : Nat} {ws : List Str}
theorem fdk_snoc {q : Path} (h : q ∉ fl.map (·.1)) : putK (fdk fl) (keyP q) (.ref l) = fdk (fl ++ [(q, l)]) := by
  rw [put_new (show valV (fdk fl) (keyP q) = none from val_no (α := Unit) h)]
  unfold fdk
  rw [List.map_append]
  rfl
theorem mdk_snoc {q : Path} (h : q ∉ fl.map (·.1)) : putK (mdk fl) (keyP q) (.str sJoins) = mdk (fl ++ [(q, l)]) := by
  rw [put_new (show valV (mdk fl) (keyP q) = none from val_no (α := Unit) h)]
  unfold mdk
  rw [List.map_append]
  rfl
theorem ra_begin {q : Path} (R : RA C H r dx fd md la pd wl xl fl last evs) (hq : q ∉ fl.map (·.1)) (hw : ∀ s ∈ q, isWordB s = true) (nl : H l = none) (hz : evs.length + fl.length + 1 < 8000000) :
    RA C (upd (upd (upd H l (.lst [])) fd (.dT (fdk (fl ++ [(q, l)])))) md (.dT (mdk (fl ++ [(q, l)])))) r dx fd md la pd wl xl (fl ++ [(q, l)]) last evs := by
  have ke : ∀ {x : Addr} {u : HO}, H x = some u → (∀ ks, u ≠ .dT ks) → upd (upd (upd H l (.lst [])) fd (.dT (fdk (fl ++ [(q, l)])))) md (.dT (mdk (fl ++ [(q, l)]))) x = some u := fun {x u} h n =>
    (upd_ne (ne_of h R.mds fun z => n _ z)).trans ((upd_ne (ne_of h R.fds fun z => n _ z)).trans ((upd_ne (ne_of_none h nl)).trans h))
  have tk : TupK H (upd (upd (upd H l (.lst [])) fd (.dT (fdk (fl ++ [(q, l)])))) md (.dT (mdk (fl ++ [(q, l)])))) := fun b xs e => ke e fun _ z => by cases z
  obtain ⟨us, w1, w2⟩ := R.prs
  have lfd : l ≠ fd := fun z => by
    have y := R.fds
    rw [← z, nl] at y
    cases y
  have lmd : l ≠ md := fun z => by
    have y := R.mds
    rw [← z, nl] at y
    cases y
  exact {
    ins := ke R.ins fun _ z => by cases z
    fds := (upd_ne R.nfm).trans upd_same
    mds := upd_same
    las := tk _ _ R.las
    pds := ke R.pds fun _ z => by cases z
    prs := ⟨us, ke w1 (fun _ z => by cases z), w2.keep tk⟩
    ents := fun g hg => by
      rcases List.mem_append.mp hg with hg | hg
      · obtain ⟨ys, y1, y2⟩ := R.ents g hg
        exact ⟨ys, ke y1 (fun _ z => by cases z), y2.keep tk⟩
      · rw [List.mem_singleton.mp hg, R.par q hq]
        exact ⟨[], (upd_ne lmd).trans ((upd_ne lfd).trans upd_same), .nil⟩
    nda := by
      rw [List.map_append, List.nodup_append]
      refine ⟨R.nda, by simp, fun x hx y hy e => ?_⟩
      obtain ⟨g, hg, rfl⟩ := List.mem_map.mp hx
      have e2 : y = l := by simpa using hy
      obtain ⟨ys, y1, _⟩ := R.ents g hg
      rw [e, e2, nl] at y1
      cases y1
    ndp := by
      rw [List.map_append, List.nodup_append]
      refine ⟨R.ndp, by simp, fun x hx y hy e => ?_⟩
      have e2 : y = q := by simpa using hy
      exact hq (by rw [← e2, ← e]; exact hx)
    nw := fun z => by
      rw [List.map_append] at z
      rcases List.mem_append.mp z with z | z
      · exact R.nw z
      · have e2 : wl = l := by simpa using z
        rw [e2, nl] at w1
        cases w1
    nfm := R.nfm
    par := fun p hp => R.par p fun z => hp (by rw [List.map_append]; exact List.mem_append_left _ z)
    sz := by
      rw [List.length_append]
      show evs.length + (fl.length + 1) < 8000000
      omega
    wds := fun g hg => by
      rcases List.mem_append.mp hg with hg | hg
      · exact R.wds g hg
      · rw [List.mem_singleton.mp hg]
        exact hw
    lwd := R.lwd
    pwd := R.pwd }
end
section
variable {P : Program} {w : World} {K : PySem.W.Frag} {mg : Str → Option Value} {base : Heap} {f : Addr} {fd0 : FuncData} {C CB CL : Addr}
def spBegin (C : Addr) : Sp := fun vs H Q _ => ∃ (r dx fd md la pd wl xl t : Addr) (fl : Fl) (last : Path) (evs : List Ev) (q : Path), vs = [.ref r, .ref t, .str sJoins] ∧ RA C H r dx fd md la pd wl xl fl last evs ∧ H t = some (.tup (q.map V.str)) ∧ q ≠ [] ∧ q.dropLast ∈ fl.map (·.1) ∧ q ∉ fl.map (·.1) ∧ (∀ s ∈ q, isWordB s = true) ∧
  evs.length + fl.length + 2 < 8000000 ∧ ∀ H' l, RA C H' r dx fd md la pd wl xl (fl ++ [(q, l)]) last (evs ++ [.folder q]) → H l = none → Bt (foot r fd md wl fl) H H' → Q .non H'
theorem sc_begin : FnScope ["self", "path", "mark"] ["self", "path", "mark"] (defScope (rdM 3)) := ⟨rfl, rfl, rfl, by decide +kernel, rfl, by decide +kernel, by decide +kernel⟩
theorem ok_begin (T : RC K mg C) (cP : Me CX0 P w K mg base 1 C "put" ["self", "path", "entry"] (spPut C)) (F : Fun K "begin_folder" "Reader.begin_folder" (rdM 3) f fd0) : FnOk P w K mg base CX0 2 f fd0 ["self", "path", "mark"] (spBegin C) := by
  refine F.ok sc_begin (fun vs H Q E h => ?_) (fun cdv A outer s H vs Q E hr h => ?_)
  · obtain ⟨r, dx, fd, md, la, pd, wl, xl, t, fl, last, evs, q, rfl, _⟩ := h
    rfl
  · obtain ⟨r, dx, fd, md, la, pd, wl, xl, t, fl, last, evs, q, rfl, R, ht, hq, hin, hnin, hw, hz, k⟩ := h
    have hu := hu_of hr
    refine ⟨_, pss_cons (ps_expr (pe_me cP (pv 0) T.cl hr pass0 (pa_cons (pv 1) (pa_cons pe_non pa_nil)))) (pss_cons (ps_dput hu (pe_fld (pv 0) rfl) (pv 1) (pe_lst pa_nil) rfl) (pss_one (ps_dput hu (pe_fld (pv 0) rfl) (pv 1) (pv 2) rfl))), ?_⟩
    refine ⟨_, rfl, r, dx, _, rfl, R.ins, rf_no (by decide +kernel), _, rfl, r, dx, fd, md, la, pd, wl, xl, t, fl, last, evs, q, .non, none, rfl, R, ht, hq, hin, rfl, by omega, fun H1 R1 B1 => ?_⟩
    have tk1 : H1 t = some (.tup (q.map V.str)) := B1 _ _ ht fun z => by
      obtain ⟨g, hg, e⟩ := List.mem_map.mp z
      obtain ⟨vs, v1, _⟩ := R.ents g hg
      rw [e, ht] at v1
      cases v1
    refine ⟨Nat.zero_le _, fun l nl => ?_⟩
    have s2 := same_upd (o := .lst []) nl
    have ht2 : upd H1 l (.lst []) t = some (.tup ((keyP q).map kV)) := by
      rw [key_v]
      exact s2 _ _ tk1
    have R2 := R1.same s2
    have sz1 : (fdk fl).length < sizeLine := by
      unfold fdk
      rw [List.length_map]
      have e := sizeLine_eq
      omega
    have sz2 : (mdk fl).length < sizeLine := by
      unfold mdk
      rw [List.length_map]
      have e := sizeLine_eq
      omega
    refine ⟨_, rfl, r, C, dx, _, _, rfl, R2.ins, T.cl, T.nF, rf_f, _, rfl, fd, _, rfl, DPut.t R2.fds ht2 sz1, ?_⟩
    have nfr : ¬ r = fd := ne_of R2.ins R2.fds fun z => by cases z
    have R3i := (upd_ne (o := .dT (putK (fdk fl) (keyP q) (.ref l))) nfr).trans R2.ins
    have ht3 : upd (upd H1 l (.lst [])) fd (.dT (putK (fdk fl) (keyP q) (.ref l))) t = some (.tup ((keyP q).map kV)) := (upd_ne (ne_of ht2 R2.fds fun z => by cases z)).trans ht2
    have R3m := (upd_ne (o := .dT (putK (fdk fl) (keyP q) (.ref l))) (Ne.symm R2.nfm)).trans R2.mds
    refine ⟨_, rfl, _, rfl, r, C, dx, _, _, rfl, R3i, T.cl, T.nM, rf_m, _, rfl, md, _, rfl, DPut.t R3m ht3 sz2, ?_⟩
    rw [fdk_snoc hnin, mdk_snoc (l := l) hnin]
    refine k _ l (ra_begin R1 hnin hw nl (by rw [List.length_append]; show evs.length + 1 + fl.length + 1 < 8000000; omega)) ?_ fun b o e hb => ?_
    · cases e : H l with
      | none => rfl
      | some o =>
        have z : l ∈ fl.map (·.2) := Classical.byContradiction fun z => by
          rw [B1 _ _ e z] at nl
          cases nl
        obtain ⟨g, hg, eg⟩ := List.mem_map.mp z
        obtain ⟨vs, v1, _⟩ := R1.ents g hg
        rw [eg, nl] at v1
        cases v1
    · have hb1 : b ∉ fl.map (·.2) := fun z => hb (List.mem_cons_of_mem _ (List.mem_cons_of_mem _ (List.mem_cons_of_mem _ (List.mem_cons_of_mem _ z))))
      have e1 := B1 _ _ e hb1
      rw [upd_ne (fun z => hb (by rw [z]; exact List.mem_cons_of_mem _ (List.mem_cons_of_mem _ List.mem_cons_self))), upd_ne (fun z => hb (by rw [z]; exact List.mem_cons_of_mem _ List.mem_cons_self)), upd_ne (ne_of_none e1 nl)]
      exact e1
end
end KD13
end L2
set_option Elab.async false
set_option linter.all false
set_option maxRecDepth 100000
set_option maxHeartbeats 4000000
/-! k92: Reader.take_pair -/
namespace L2
namespace KD14
open PySem PySem.Spec PyProof.Rows LamX NdefX KB KN KH KL KM KX KD1 KD2 KD3 KD4 KD5 KD6 KD7 KMa KD8 KD9 KD10 KD11 KD12 KD13
theorem ix_last {xs : List V} {v : V} (h : xs.getLast? = some v) : atI xs (-1) = some v := by
  have hl : 0 < xs.length := by
    cases xs with
    | nil => cases h
    | cons a r => exact Nat.succ_pos _
  have e : ixN xs.length (-1) = some (xs.length - 1) := by
    unfold ixN
    rw [if_neg (by decide), if_pos (by omega)]
    congr 1
    omega
  unfold atI
  rw [e]
  show xs[xs.length - 1]? = some v
  rw [← List.getLast?_eq_getElem?]
  exact h
theorem lay_pairs : ∀ {ps : Pairs}, (∀ q ∈ ps, isWordB q.2 = true) → PyData.canLayAll0 (ps.map pairData) = true
  | [], _ => rfl
  | q :: r, h => by
    show ((true && (PyData.strOk q.2 && true)) && PyData.canLayAll0 (r.map pairData)) = true
    rw [lay_pairs fun s hs => h s (List.mem_cons_of_mem _ hs), word_ok (h q List.mem_cons_self)]
    rfl
theorem depth_pairs : ∀ ps : Pairs, PyData.depthAll (ps.map pairData) ≤ 1
  | [] => by simp [PyData.depthAll]
  | q :: r => by
    have ih := depth_pairs r
    simp [PyData.depthAll, pairData, PyData.depth, depth_pairs r]
theorem shaped_pairs {ps : Pairs} (h : ∀ q ∈ ps, isWordB q.2 = true) : SeqAt.shaped (.list (ps.map pairData)) = true := by
  have h1 := depth_pairs ps
  simp [SeqAt.shaped, PyData.canLay0, PyData.depth, lay_pairs h]
  omega
theorem eqv_empty (ps : Pairs) : PyData.eqv (.list (ps.map pairData)) (.list []) = decide (ps = []) := by
  rw [PyData.eqv]
  cases ps with
  | nil => simp [PyData.eqvAll]
  | cons a r => simp [PyData.eqvAll]
/-- a number that does not rise -/
def badN (evs : List Ev) (k : Int) : Prop := ∃ q, (psOf evs).getLast? = some q ∧ k ≤ q.1
section
variable {C CL : Addr} {H : Hp} {r dx fd md la pd wl xl p dxl l : Addr} {fl : Fl} {last : Path} {evs : List Ev} {n : Int} {a : Nat} {ws : List Str}
theorem ra_pair {t : Addr} {k : Int} {z : Str} {vs : List V} (R : RA C H r dx fd md la pd wl xl fl last evs) (ht : H t = some (.tup [.int k, .str z])) (h1 : H wl = some (.lst vs)) (h2 : PairsAt H vs (psOf evs)) (hw : isWordB z = true)
    (hz : evs.length + fl.length + 1 < 8000000) : RA C (upd H wl (.lst (vs ++ [.ref t]))) r dx fd md la pd wl xl fl last (evs ++ [.word k z]) := by
  have ke : ∀ {x : Addr} {u : HO}, H x = some u → (∀ ys, u ≠ .lst ys) → upd H wl (.lst (vs ++ [.ref t])) x = some u := fun {x u} h n => (upd_ne (ne_of h h1 fun z => n _ z)).trans h
  have tk : TupK H (upd H wl (.lst (vs ++ [.ref t]))) := fun b xs e => ke e fun _ z => by cases z
  have ent0 : ∀ p, entsR (evs ++ [.word k z]) p = entsR evs p := fun p => by
    rw [ents_snoc]
    exact List.append_nil _
  exact {
    ins := ke R.ins fun _ z => by cases z
    fds := ke R.fds fun _ z => by cases z
    mds := ke R.mds fun _ z => by cases z
    las := tk _ _ R.las
    pds := ke R.pds fun _ z => by cases z
    prs := ⟨_, upd_same, by rw [ps_snoc]; exact (h2.keep tk).snoc (tk _ _ ht)⟩
    ents := fun g hg => by
      obtain ⟨ys, y1, y2⟩ := R.ents g hg
      rw [ent0]
      exact ⟨ys, (upd_ne (fun z => R.nw (by rw [← z]; exact List.mem_map_of_mem hg))).trans y1, y2.keep tk⟩
    nda := R.nda
    ndp := R.ndp
    nw := R.nw
    nfm := R.nfm
    par := fun p hp => by rw [ent0, R.par p hp]
    sz := by
      rw [List.length_append]
      show evs.length + 1 + fl.length < 8000000
      omega
    wds := R.wds
    lwd := R.lwd
    pwd := fun q hq => by
      rw [ps_snoc] at hq
      rcases List.mem_append.mp hq with hq | hq
      · exact R.pwd q hq
      · have e : q = (k, z) := by simpa [pairOf] using hq
        rw [e]
        exact hw }
end
section
variable {P : Program} {w : World} {K : PySem.W.Frag} {mg : Str → Option Value} {base : Heap} {f : Addr} {fd0 : FuncData} {C CB CL : Addr}
def spPair (C CB CL : Addr) : Sp := fun vs H Q E => ∃ (r dx fd md la pd wl xl p dxl l : Addr) (fl : Fl) (last : Path) (evs : List Ev) (n : Int) (a : Nat) (ws : List Str), vs = [.ref r, .str sWord, .ref p] ∧ RA C H r dx fd md la pd wl xl fl last evs ∧ LA CL H p dxl l n a ws ∧ l ≠ wl ∧ evs.length + fl.length + 1 < 8000000 ∧
  ((numIn (at_ ws a) = none ∨ ∃ k, numIn (at_ ws a) = some k ∧ badN evs k) → BadF CB E (p :: foot r fd md wl fl) H n a) ∧
  (∀ k, numIn (at_ ws a) = some k → ¬ badN evs k → isWordB (at_ ws (a + 1)) = false → BadF CB E (p :: foot r fd md wl fl) H n (a + 1)) ∧
  ∀ k, numIn (at_ ws a) = some k → ¬ badN evs k → isWordB (at_ ws (a + 1)) = true → ∀ H', RA C H' r dx fd md la pd wl xl fl last (evs ++ [.word k (at_ ws (a + 1))]) → LA CL H' p dxl l n (a + 2) ws → Bt (p :: foot r fd md wl fl) H H' → Q .non H'
theorem sc_pair : FnScope ["self", "word", "line", "at", "number", "some"] ["self", "word", "line"] (defScope (rdM 4)) := ⟨rfl, rfl, rfl, by decide +kernel, rfl, by decide +kernel, by decide +kernel⟩
theorem ok_pair (X : Tx mg) (T : RC K mg C) (TL : LC K mg CL) (M : MkX P w K mg base "BadText" CB ["self", "line", "word"] (spBX CB)) (cN : Me (L2.CX P w) P w K mg base 5 CL "next_number" ["self"] (spNextNum CL CB)) (cW : Me (L2.CX P w) P w K mg base 5 CL "next_word" ["self"] (spNextWord CL CB))
    (F : Fun K "take_pair" "Reader.take_pair" (rdM 4) f fd0) : FnOk P w K mg base (L2.CX P w) 6 f fd0 ["self", "word", "line"] (spPair C CB CL) := by
  refine F.okX sc_pair (fun vs H Q E h => ?_) (fun cdv A outer s H vs Q E hr h => ?_)
  · obtain ⟨r, dx, fd, md, la, pd, wl, xl, p, dxl, l, fl, last, evs, n, a, ws, rfl, _⟩ := h
    rfl
  · obtain ⟨r, dx, fd, md, la, pd, wl, xl, p, dxl, l, fl, last, evs, n, a, ws, rfl, R, L, hlw, hz, q1, q2, q3⟩ := h
    have hr2 : Room 2 _ := hr.mono (by decide)
    have hu := hu_of hr
    have nd := sc_pair.nd
    refine ⟨_, pss_cons (ps_set (i := 3) nd rfl (Or.inl rfl) (pe_fld (pv 2) rfl)) (pss_cons (ps_set (i := 4) nd rfl (Or.inl rfl) (pe_me0 cN (pv 2) TL.cl hr (passes_call (takes_of rfl rfl rfl rfl) (fun _ _ _ _ h => h))))
      (pss_cons (ps_set (i := 5) nd rfl (Or.inl rfl) (pe_dget hu (pe_fld (pv 0) rfl) (pv 1) (fun _ _ => rfl)))
      (pss_cons (ps_if (PW.pt (pw_and (pt_cmpR (op_neD hr.units) (pv 5) (pe_lst pa_nil) (nomark _)) (pw_and1 (pt_cmpR op_ge (pe_ix ix_tup (pe_ix ix_list (pv 5) (pe_un un_neg pe_int) (fun _ _ => rfl)) pe_int (fun _ _ => rfl)) (pv 4) (nomark _)))))
        (pss_one (ps_raise rfl (takes_of rfl rfl rfl rfl) (pmk_x M hr2 (by rfl) (pa_cons (pe_fld (pv 2) rfl) (pa_cons (pv 3) pa_nil))))) pss_nil)
      (pss_one (ps_expr (pe_bm PySem.F.plainAttrs_list PySem.F.slot_list_append PySem.F.type_list_append mt_append (pv 5) (pa_cons (pe_tup (pa_cons (pv 4) (pa_cons (pe_ifExp (pt_cmpR op_eq (pv 1) (pe_gs X (by rfl) (z := sWord) (by decide +kernel)) (nomark _))
        (pe_me0 cW (pv 2) TL.cl hr (passes_call (takes_of rfl rfl rfl rfl) (fun _ _ _ _ h => h))) (pe_me0 cN (pv 2) TL.cl hr (passes_call (takes_of rfl rfl rfl rfl) (fun _ _ _ _ h => h)))) pa_nil))) pa_nil))))))), ?_⟩
    refine ⟨_, rfl, p, CL, dxl, _, _, rfl, L.ins, TL.cl, TL.nA, lf_a, ?_⟩
    refine ⟨_, rfl, p, dxl, _, rfl, L.ins, k_ne _ (by decide +kernel), p, dxl, l, n, a, ws, rfl, L, fun e => ?_, fun v e H1 s1 => ?_⟩
    · refine (q1 (.inl ?_)).x fun b o e _ => e
      cases e2 : numIn (at_ ws a) with
      | none => rfl
      | some k =>
        rw [e2] at e
        cases e
    obtain ⟨k, ek, rfl⟩ : ∃ k, numIn (at_ ws a) = some k ∧ v = .int k := by
      cases e2 : numIn (at_ ws a) with
      | none =>
        rw [e2] at e
        cases e
      | some k =>
        rw [e2] at e
        exact ⟨k, rfl, (Option.some.inj e).symm⟩
    have R1 := RA.nxt R L s1
    have L1 : LA CL H1 p dxl l n (a + 1) ws := (L.next).same s1
    have B1 : Bt (p :: foot r fd md wl fl) H H1 := (bt_nxt s1).mono fun x hx => by
      rw [List.mem_singleton.mp hx]
      exact List.mem_cons_self
    have dg := DGet.k (k := .inr sWord) R1.pds
    rw [show valV [((.inr sWord : Key), V.ref wl), (.inr sIndex, .ref xl)] (.inr sWord) = some (.ref wl) from valV_pos rfl] at dg
    obtain ⟨us, w1, w2⟩ := R1.prs
    refine ⟨_, rfl, r, C, dx, _, _, rfl, R1.ins, T.cl, T.nP, rf_p, _, rfl, pd, _, rfl, dg, ?_⟩
    refine ⟨_, rfl, Nat.zero_le _, fun t2 nt2 => ?_⟩
    have s2 := same_upd (o := .lst []) nt2
    have et2 : upd H1 t2 (.lst []) t2 = some (.lst []) := upd_same
    have R2 := R1.same s2
    have L2' := L1.same s2
    have w1' := s2 _ _ w1
    have w2' := w2.keep (tupK_same s2)
    have B2 : Bt (p :: foot r fd md wl fl) H (upd H1 t2 (.lst [])) := B1.trans (bt_same (F := []) s2) fun x hx => by cases hx
    refine ⟨_, _, .lst (SqL.of w1') w2'.dp, .lst (SqL.of et2) .nil, shaped_pairs R.pwd, shaped_pairs (ps := []) (fun s hs => by cases hs), _, rfl, ?_⟩
    generalize upd H1 t2 (.lst []) = H2 at *
    rw [eqv_empty]
    refine iteN (fun h1 => ?_) (fun h1 => ?_)
    · have ne : psOf evs ≠ [] := of_decide_eq_false h1
      obtain ⟨q0, hq0⟩ : ∃ q0, (psOf evs).getLast? = some q0 := by
        cases e : (psOf evs).getLast? with
        | none => exact absurd (List.getLast?_eq_none_iff.mp e) ne
        | some q0 => exact ⟨q0, rfl⟩
      obtain ⟨t5, g1, g2⟩ := w2'.last hq0
      refine ⟨_, rfl, _, rfl, wl, us, _, _, rfl, rfl, SqL.of w1', ix_last g1, t5, _, _, _, rfl, rfl, SqT.of g2, at0, _, rfl, _, _, rfl, rfl, _, rfl, ?_⟩
      refine ited (fun h2 => ?_) (fun h2 => ?_)
      · refine ⟨_, rfl, p, CL, dxl, _, _, rfl, L2'.ins, TL.cl, TL.nN, lf_n, _, rfl, ?_⟩
        exact text_made (l := .int n) (v := .int a) (Q := E) fun d nd => q1 (.inr ⟨k, ek, q0, hq0, h2⟩) H2 d B2 nd
      have hnb : ¬ badN evs k := fun ⟨q', h3, h4⟩ => by
        rw [hq0] at h3
        cases h3
        exact h2 h4
      refine ⟨_, rfl, .inl ⟨rfl, _, SqL.of w1'⟩, _, rfl, _, rfl, rfl, _, rfl, ?_⟩
      refine iteT ?_
      refine ⟨_, rfl, p, dxl, _, rfl, L2'.ins, k_ne _ (by decide +kernel), p, dxl, l, n, a + 1, ws, rfl, L2', fun e => ?_, fun v e H3 s3 => ?_⟩
      · refine (q2 k ek hnb ?_).x B2
        cases e2 : isWordB (at_ ws (a + 1)) with
        | false => rfl
        | true =>
          rw [if_pos e2] at e
          cases e
      cases ew : isWordB (at_ ws (a + 1)) with
      | false =>
        rw [if_neg (by rw [ew]; exact Bool.false_ne_true)] at e
        cases e
      | true =>
        rw [if_pos ew] at e
        obtain rfl := (Option.some.inj e).symm
        have R3 := RA.nxt R2 L2' s3
        have L3 : LA CL H3 p dxl l n (a + 1 + 1) ws := (L2'.next).same s3
        have B3 : Bt (p :: foot r fd md wl fl) H H3 := B2.trans (bt_nxt s3) fun x hx => .inl (by rw [List.mem_singleton.mp hx]; exact List.mem_cons_self)
        have w1'' : H3 wl = some (.lst us) := s3 _ _ ((upd_ne (ne_of w1' L2'.ins fun z => by cases z)).trans w1')
        have w2'' : PairsAt H3 us (psOf evs) := w2'.keep fun b xs e => s3 _ _ ((upd_ne (ne_of e L2'.ins fun z => by cases z)).trans e)
        refine ⟨(by show 2 ≤ sizeLine; decide), fun t4 nt4 => ?_⟩
        have s4 := same_upd (o := .tup [.int k, .str (at_ ws (a + 1))]) nt4
        have et4 : upd H3 t4 (.tup [.int k, .str (at_ ws (a + 1))]) t4 = some (.tup [.int k, .str (at_ ws (a + 1))]) := upd_same
        have R4 := R3.same s4
        have L4 := L3.same s4
        have w1f := s4 _ _ w1''
        have w2f := w2''.keep (tupK_same s4)
        have B4 : Bt (p :: foot r fd md wl fl) H (upd H3 t4 (.tup [.int k, .str (at_ ws (a + 1))])) := B3.trans (bt_same (F := []) s4) fun x hx => by cases hx
        generalize upd H3 t4 (.tup [.int k, .str (at_ ws (a + 1))]) = H4 at *
        have lus : us.length < sizeLine := by
          rw [w2f.len]
          have h1 := ps_len evs
          have e := sizeLine_eq
          omega
        refine ⟨wl, _, _, rfl, rfl, w1f, lus, ?_⟩
        have npw : ¬ p = wl := ne_of L4.ins w1f fun z => by cases z
        have nlw : ¬ l = wl := hlw
        refine q3 k ek hnb ew _ (ra_pair R4 et4 w1f w2f ew hz) ⟨(upd_ne npw).trans L4.ins, (upd_ne nlw).trans L4.lst, L4.ok⟩ fun b o eb hb => ?_
        rw [upd_ne (fun z => hb (by rw [z]; exact List.mem_cons_of_mem _ (List.mem_cons_of_mem _ (List.mem_cons_of_mem _ (List.mem_cons_of_mem _ List.mem_cons_self)))))]
        exact B4 b o eb hb
    have hnb : ¬ badN evs k := fun ⟨q', h3, h4⟩ => by
      rw [of_decide_eq_true h1] at h3
      cases h3
    refine ⟨_, rfl, .inl ⟨rfl, _, SqL.of w1'⟩, _, rfl, _, rfl, rfl, _, rfl, ?_⟩
    refine iteT ?_
    refine ⟨_, rfl, p, dxl, _, rfl, L2'.ins, k_ne _ (by decide +kernel), p, dxl, l, n, a + 1, ws, rfl, L2', fun e => ?_, fun v e H3 s3 => ?_⟩
    · refine (q2 k ek hnb ?_).x B2
      cases e2 : isWordB (at_ ws (a + 1)) with
      | false => rfl
      | true =>
        rw [if_pos e2] at e
        cases e
    cases ew : isWordB (at_ ws (a + 1)) with
    | false =>
      rw [if_neg (by rw [ew]; exact Bool.false_ne_true)] at e
      cases e
    | true =>
      rw [if_pos ew] at e
      obtain rfl := (Option.some.inj e).symm
      have R3 := RA.nxt R2 L2' s3
      have L3 : LA CL H3 p dxl l n (a + 1 + 1) ws := (L2'.next).same s3
      have B3 : Bt (p :: foot r fd md wl fl) H H3 := B2.trans (bt_nxt s3) fun x hx => .inl (by rw [List.mem_singleton.mp hx]; exact List.mem_cons_self)
      have w1'' : H3 wl = some (.lst us) := s3 _ _ ((upd_ne (ne_of w1' L2'.ins fun z => by cases z)).trans w1')
      have w2'' : PairsAt H3 us (psOf evs) := w2'.keep fun b xs e => s3 _ _ ((upd_ne (ne_of e L2'.ins fun z => by cases z)).trans e)
      refine ⟨(by show 2 ≤ sizeLine; decide), fun t4 nt4 => ?_⟩
      have s4 := same_upd (o := .tup [.int k, .str (at_ ws (a + 1))]) nt4
      have et4 : upd H3 t4 (.tup [.int k, .str (at_ ws (a + 1))]) t4 = some (.tup [.int k, .str (at_ ws (a + 1))]) := upd_same
      have R4 := R3.same s4
      have L4 := L3.same s4
      have w1f := s4 _ _ w1''
      have w2f := w2''.keep (tupK_same s4)
      have B4 : Bt (p :: foot r fd md wl fl) H (upd H3 t4 (.tup [.int k, .str (at_ ws (a + 1))])) := B3.trans (bt_same (F := []) s4) fun x hx => by cases hx
      generalize upd H3 t4 (.tup [.int k, .str (at_ ws (a + 1))]) = H4 at *
      have lus : us.length < sizeLine := by
        rw [w2f.len]
        have h1 := ps_len evs
        have e := sizeLine_eq
        omega
      refine ⟨wl, _, _, rfl, rfl, w1f, lus, ?_⟩
      have npw : ¬ p = wl := ne_of L4.ins w1f fun z => by cases z
      have nlw : ¬ l = wl := hlw
      refine q3 k ek hnb ew _ (ra_pair R4 et4 w1f w2f ew hz) ⟨(upd_ne npw).trans L4.ins, (upd_ne nlw).trans L4.lst, L4.ok⟩ fun b o eb hb => ?_
      rw [upd_ne (fun z => hb (by rw [z]; exact List.mem_cons_of_mem _ (List.mem_cons_of_mem _ (List.mem_cons_of_mem _ (List.mem_cons_of_mem _ List.mem_cons_self)))))]
      exact B4 b o eb hb
end
end KD14
end L2
set_option Elab.async false
set_option linter.all false
set_option maxRecDepth 100000
set_option maxHeartbeats 4000000
/-! k92: Reader.entries -/
namespace L2
namespace KD15
open PySem PySem.Spec PyProof.Rows LamX NdefX KB KN KH KL KM KX KD1 KD2 KD3 KD4 KD5 KD6 KD7 KMa KD8 KD9 KD10 KD11 KD12 KD13 KD14
/-- the folder at p, from the events -/
def nodeE : Nat → List Ev → Path → Node
  | 0, _, _ => .folder .nil
  | k + 1, evs, p => .folder (Ents.ofList ((entsR evs p).map fun e => (e.1, match e.2 with
    | some n => .file n
    | none => nodeE k evs (p ++ [e.1]))))
def stepE (k : Nat) (evs : List Ev) (p : Path) (e : Str × Option Int) : Str × Node := (e.1, match e.2 with
    | some n => .file n
    | none => nodeE k evs (p ++ [e.1]))
theorem nodeE_succ (k : Nat) (evs : List Ev) (p : Path) : nodeE (k + 1) evs p = .folder (Ents.ofList ((entsR evs p).map (stepE k evs p))) := rfl
section
variable {P : Program} {w : World} {K : PySem.W.Frag} {mg : Str → Option Value} {base : Heap} {f : Addr} {fd0 : FuncData} {C CB CL : Addr} {D k : Nat}
def spEntries (C : Addr) (D : Nat) : Sp := fun vs H Q _ => ∃ (r dx fd md la pd wl xl t : Addr) (fl : Fl) (last : Path) (evs : List Ev) (p : Path), vs = [.ref r, .ref t, .bl false] ∧ RA C H r dx fd md la pd wl xl fl last evs ∧ H t = some (.tup (p.map V.str)) ∧ p ∈ fl.map (·.1) ∧ p.length + D = 7 ∧ (∀ g ∈ fl, g.1.length ≤ 6) ∧
  (∀ p x, (x, none) ∈ entsR evs p → p ++ [x] ∈ fl.map (·.1)) ∧ ∀ H' v, Same H H' → NodeAt H' v (nodeE D evs p) → Q v H'
theorem sc_entries : FnScope ["self", "path", "has_marks", "found", "name", "entry"] ["self", "path", "has_marks"] (defScope (rdM 5)) := ⟨rfl, rfl, rfl, by decide +kernel, rfl, by decide +kernel, by decide +kernel⟩
theorem ok_entries_step (X : Tx mg) (T : RC K mg C) (cE : Me CX0 P w K mg base k C "entries" ["self", "path", "has_marks"] (spEntries C D)) (F : Fun K "entries" "Reader.entries" (rdM 5) f fd0) : FnOk P w K mg base CX0 (k + 1) f fd0 ["self", "path", "has_marks"] (spEntries C (D + 1)) := by
  refine F.ok sc_entries (fun vs H Q E h => ?_) (fun cdv A outer s H vs Q E hr h => ?_)
  · obtain ⟨r, dx, fd, md, la, pd, wl, xl, t, fl, last, evs, p, rfl, _⟩ := h
    rfl
  · obtain ⟨r, dx, fd, md, la, pd, wl, xl, t, fl, last, evs, p, rfl, R, ht, hin, hD, h6, hsub, q⟩ := h
    have hu := hu_of hr
    have nd := sc_entries.nd
    refine ⟨_, pss_cons (ps_set (i := 3) nd rfl (Or.inl rfl) (pe_lst pa_nil)) (pss_cons (ps_for PassesOwn.never rfl (pi_list (pe_dget hu (pe_fld (pv 0) rfl) (pv 1) (fun _ _ => rfl))) (pg_tup rfl (pgs_cons (pg_name (i := 4) nd rfl (Or.inl rfl)) (pgs_cons (pg_name (i := 5) nd rfl (Or.inl rfl)) pgs_nil)))
      (pss_one (ps_expr (pe_bm PySem.F.plainAttrs_list PySem.F.slot_list_append PySem.F.type_list_append mt_append (pv 3) (pa_cons (pe_tup (pa_cons (pv 4) (pa_cons (pe_ifExp (pt_cmpR op_isN (pv 5) pe_non (nomark _))
        (pe_me cE (pv 0) T.cl hr pass0 (pa_cons (pe_tup (StX.pa_star (pv 1) (pa_cons (pv 4) pa_nil))) (pa_cons (pv 2) pa_nil))) (pv 5)) pa_nil))) pa_nil)))))
      (pss_one (ps_ret (pe_ifExp (pt_val (pv 2)) (pe_tup (pa_cons (pe_gs X (by rfl) (z := sFolder) (by decide +kernel)) (pa_cons (pe_dget hu (pe_fld (pv 0) rfl) (pv 1) (fun _ _ => rfl)) (pa_cons (pe_callTy call_tuple_of (by rfl) (X.b "tuple") (by decide +kernel) (pa_cons (pv 3) pa_nil)) pa_nil))))
        (pe_tup (pa_cons (pe_gs X (by rfl) (z := sFolder) (by decide +kernel)) (pa_cons (pe_callTy call_tuple_of (by rfl) (X.b "tuple") (by decide +kernel) (pa_cons (pv 3) pa_nil)) pa_nil))))))), ?_⟩
    obtain ⟨g, hg, eg⟩ := List.mem_map.mp hin
    refine ⟨Nat.zero_le _, fun lp nlp => ?_⟩
    have s1 := same_upd (o := .lst []) nlp
    have R1 := R.same s1
    have dg := DGet.t (k := keyP g.1) R1.fds (b := t) (by rw [key_v, eg]; exact s1 _ _ ht)
    rw [val_fdk R1.ndp hg] at dg
    obtain ⟨vs, v1, v2⟩ := R.ents g hg
    rw [eg] at v2
    have lvs : vs.length < sizeLine := by
      rw [v2.len]
      have h1 := ents_len evs p
      have e := sizeLine_eq
      have := R.sz
      omega
    refine ⟨_, rfl, r, C, dx, _, _, rfl, R1.ins, T.cl, T.nF, rf_f, _, rfl, fd, _, rfl, dg, g.2, rfl, ⟨_, SqL.of (s1 _ _ v1)⟩, ?_⟩
    refine for_it (walk_list (K := K) (a := g.2) (xs := vs)) (fun i σ H' => ∃ (x4 x5 : Option V) (us : List V), σ = [some (.ref r), some (.ref t), some (.bl false), some (.ref lp), x4, x5] ∧ Same H H' ∧ H' lp = some (.lst us) ∧ EntsAt H' us (Ents.ofList (((entsR evs p).take i).map (stepE D evs p))) ∧ us.length = min i vs.length)
      ⟨none, none, [], rfl, s1, upd_same, .nil, by simp⟩ (fun i σ H' _ ⟨_, _, _, _, s2, _⟩ => SqL.of (s2 _ _ v1)) ?_ ?_
    · rintro i x σ H2 H3 hi ⟨x4, x5, us, rfl, s2, e2, a2, n2⟩ ⟨rfl, hx⟩
      obtain ⟨tt, y, u, o, rfl, hm, htt, hen⟩ := v2.at_ hx
      have mem := List.mem_of_getElem? hm
      have R2 := R.same s2
      refine ⟨tt, _, rfl, SqT.of (s2 _ _ htt), rfl, _, _, rfl, _, _, rfl, rfl, ?_⟩
      refine ⟨_, rfl, .inl ⟨rfl, _, SqL.of e2⟩, _, rfl, _, rfl, rfl, _, rfl, ?_⟩
      have fin : ∀ (H5 : Hp) (w : V), Same H3 H5 → NodeAt H5 w (stepE D evs p (y, o)).2 → ∀ t5, H5 t5 = none → ∃ (l : Addr) (a : List V) (b : V), V.ref lp = .ref l ∧ [V.ref t5] = [b] ∧ upd H5 t5 (.tup [.str y, w]) l = some (.lst a) ∧ a.length < sizeLine ∧
          (∃ (x4 x5 : Option V) (us : List V), [some (V.ref r), some (.ref t), some (.bl false), some (.ref lp), some (.str y), some u] = [some (V.ref r), some (.ref t), some (.bl false), some (.ref lp), x4, x5] ∧ Same H (upd (upd H5 t5 (.tup [.str y, w])) l (.lst (a ++ [b]))) ∧
            upd (upd H5 t5 (.tup [.str y, w])) l (.lst (a ++ [b])) lp = some (.lst us) ∧ EntsAt (upd (upd H5 t5 (.tup [.str y, w])) l (.lst (a ++ [b]))) us (Ents.ofList (((entsR evs p).take (i + 1)).map (stepE D evs p))) ∧ us.length = min (i + 1) vs.length) := fun H5 w s5 hw t5 nt5 => by
        have s6 := same_upd (o := .tup [.str y, w]) nt5
        have e6 := s6 _ _ (s5 _ _ e2)
        have sF : Same H (upd (upd H5 t5 (.tup [.str y, w])) lp (.lst (us ++ [.ref t5]))) := same_putD nlp ((s2.trans s5).trans s6)
        have tk : TupK (upd H5 t5 (.tup [.str y, w])) (upd (upd H5 t5 (.tup [.str y, w])) lp (.lst (us ++ [.ref t5]))) := fun b xs e => (upd_ne (ne_of e e6 fun z => by cases z)).trans e
        refine ⟨lp, us, .ref t5, rfl, rfl, e6, by rw [n2]; omega, _, _, us ++ [.ref t5], rfl, sF, upd_same, ?_, ?_⟩
        · rw [take_more hm, List.map_append]
          exact EntsAt.snoc (x := y) (u := w) (n := (stepE D evs p (y, o)).2) (tk _ _ upd_same) (hw.keep ((tupK_same s6).trans tk)) (a2.keep ((tupK_same (s5.trans s6)).trans tk))
        · rw [List.length_append, n2]
          show min i vs.length + 1 = _
          omega
      cases o with
      | some m =>
        obtain ⟨u', rfl, hu'⟩ := hen
        refine iteF ⟨_, rfl, (by show 2 ≤ sizeLine; decide), fun t5 nt5 => fin H3 _ (Same.refl _) (.file (s2 _ _ hu')) t5 nt5⟩
      | none =>
        have eu : u = .non := hen
        subst eu
        refine iteT ⟨_, rfl, r, dx, _, rfl, R2.ins, rf_no (by decide +kernel), _, rfl, t, _, rfl, .inl (SqT.of (s2 _ _ ht)), _, rfl, ?_, fun t4 nt4 => ?_⟩
        · rw [List.length_append, List.length_map]
          exact big16 (k := 8) (by show p.length + 1 ≤ 8; omega) (by decide)
        have s4 := same_upd (o := .tup (p.map V.str ++ [.str y])) nt4
        refine ⟨_, rfl, r, dx, fd, md, la, pd, wl, xl, t4, fl, last, evs, p ++ [y], rfl, R2.same s4, ?_, hsub p y mem, ?_, h6, hsub, fun H5 w s5 hw => ⟨(by show 2 ≤ sizeLine; decide), fun t5 nt5 => fin H5 w (s4.trans s5) hw t5 nt5⟩⟩
        · rw [upd_same, List.map_append]
          rfl
        · rw [List.length_append]
          show p.length + 1 + D = 7
          omega
    · rintro σ H2 ⟨x4, x5, us, rfl, s2, e2, a2, n2⟩
      refine ⟨_, rfl, _, rfl, iteF ?_⟩
      refine ⟨_, rfl, lp, _, rfl, .inl ⟨SqL.of e2, fun p2 np2 => ?_⟩⟩
      have s3 := same_upd (o := .tup us) np2
      refine ⟨(by show 2 ≤ sizeLine; decide), fun p3 np3 => ?_⟩
      have s4 := same_upd (o := .tup [.str sFolder, .ref p2]) np3
      have e5 : upd (upd H2 p2 (.tup us)) p3 (.tup [.str sFolder, .ref p2]) p2 = some (.tup us) := s4 _ _ upd_same
      refine q _ _ ((s2.trans s3).trans s4) ?_
      rw [nodeE_succ]
      refine .folder upd_same e5 ?_
      rw [v2.len, List.take_length] at a2
      exact a2.keep (tupK_same (s3.trans s4))
theorem ok_entries (X : Tx mg) (T : RC K mg C) (F : Fun K "entries" "Reader.entries" (rdM 5) f fd0) (hm : Meth K C "entries" f) (b : Binds K fd0 ["self", "path", "has_marks"] []) : ∀ D, FnOk P w K mg base CX0 (D + 1) f fd0 ["self", "path", "has_marks"] (spEntries C D)
  | 0 => ⟨fun vs H Q E h => by
      obtain ⟨r, dx, fd, md, la, pd, wl, xl, t, fl, last, evs, p, rfl, _⟩ := h
      rfl, fun A outer s H args us vs Q E _ _ _ _ h => by
      obtain ⟨r, dx, fd, md, la, pd, wl, xl, t, fl, last, evs, p, rfl, R, ht, hin, hD, h6, _⟩ := h
      obtain ⟨g, hg, eg⟩ := List.mem_map.mp hin
      have := h6 g hg
      rw [eg] at this
      omega⟩
  | D + 1 => ok_entries_step X T ⟨f, fd0, ok_entries X T F hm b D, hm, b⟩ F
end
end KD15
end L2
set_option Elab.async false
set_option linter.all false
set_option maxRecDepth 100000
set_option maxHeartbeats 4000000
/-! k92: the plain reader, further: order of paths, one line without its end -/
namespace L2
namespace KMb
open PySem PySem.Spec PyProof.Rows LamX NdefX KB KN KH KL KM KX KD1 KD2 KD3 KD4 KD5 KD6 KD7 KMa KD8 KD9 KD10 KD11 KD12 KD13 KD14 KD15
theorem ltS_irr (x : Str) : ltS x x = false := decide_eq_false (List.lt_irrefl _)
theorem ltS_trans {x y z : Str} (h1 : ltS x y = true) (h2 : ltS y z = true) : ltS x z = true := decide_eq_true (List.lt_trans (of_decide_eq_true h1) (of_decide_eq_true h2))
theorem ltP_irr : ∀ p : Path, ltP p p = false
  | [] => rfl
  | x :: r => by
    show (if x = x then ltP r r else _) = false
    rw [if_pos rfl, ltP_irr r]
theorem ltP_trans : ∀ {p q r : Path}, ltP p q = true → ltP q r = true → ltP p r = true
  | [], [], _, h, _ => by cases h
  | [], _ :: _, [], _, h => by cases h
  | [], _ :: _, _ :: _, _, _ => rfl
  | _ :: _, [], _, h, _ => by cases h
  | _ :: _, _ :: _, [], _, h => by cases h
  | x :: p, y :: q, z :: r, h1, h2 => by
    have h1' : (if x = y then ltP p q else ltS x y) = true := h1
    have h2' : (if y = z then ltP q r else ltS y z) = true := h2
    show (if x = z then ltP p r else ltS x z) = true
    by_cases e1 : x = y
    · rw [if_pos e1] at h1'
      by_cases e2 : y = z
      · rw [if_pos e2] at h2'
        rw [if_pos (e1.trans e2)]
        exact ltP_trans h1' h2'
      · rw [if_neg e2] at h2'
        rw [if_neg (by rw [e1]; exact e2), e1]
        exact h2'
    · rw [if_neg e1] at h1'
      by_cases e2 : y = z
      · rw [← e2, if_neg e1]
        exact h1'
      · rw [if_neg e2] at h2'
        have h3 := ltS_trans h1' h2'
        by_cases e3 : x = z
        · rw [e3, ltS_irr] at h3
          cases h3
        · rw [if_neg e3]
          exact h3
/-- a line behind its first word, without its end: the event, the state, the place -/
def takeA (s : RS) (ws : List Str) : Except Nat (Ev × RS × Nat) :=
  if at_ ws 0 = sWord then
    match numIn (at_ ws 1) with
    | none => .error 1
    | some n => if n ≤ s.num.getD (-1) then .error 1 else
        if isWordB (at_ ws 2) = false then .error 2 else .ok (.word n (at_ ws 2), { s with num := some n }, 3)
  else match pathIn (at_ ws 1) 6 with
    | none => .error 1
    | some p => if p = [] ∨ p.dropLast ∉ s.folders ∨ ltP s.last p = false then .error 1 else
        if at_ ws 0 = sFolder then .ok (.folder p, { s with folders := s.folders ++ [p], last := p }, 2) else
        match numIn (at_ ws 2) with
        | none => .error 2
        | some n => .ok (.file p n, { s with last := p }, 3)
/-- a first word that may not stand -/
def badK (s : RS) (ws : List Str) : Prop := ¬ (at_ ws 0 = sWord ∨ (s.num = none ∧ (at_ ws 0 = sFile ∨ at_ ws 0 = sFolder)))
instance (s : RS) (ws : List Str) : Decidable (badK s ws) := by
  unfold badK
  infer_instance
theorem stepA_eq (s : RS) (ws : List Str) : stepA s ws = if badK s ws then .error 0 else match takeA s ws with
    | .error e => .error e
    | .ok (ev, s', a) => if a < ws.length then .error a else .ok (ev, s') := by
  unfold stepA takeA
  by_cases h0 : at_ ws 0 = sWord
  · rw [if_pos h0, if_neg (show ¬ badK s ws from fun z => z (.inl h0)), if_pos h0]
    cases numIn (at_ ws 1) with
    | none => rfl
    | some n =>
      by_cases h1 : n ≤ s.num.getD (-1)
      · simp only [if_pos h1]
      · simp only [if_neg h1]
        by_cases h2 : isWordB (at_ ws 2) = false
        · simp only [if_pos h2]
        · simp only [if_neg h2]
  · rw [if_neg h0, if_neg h0]
    by_cases hk : badK s ws
    · rw [if_pos hk]
      have : s.num.isSome = true ∨ ¬ (at_ ws 0 = sFile ∨ at_ ws 0 = sFolder) := by
        cases hn : s.num with
        | none => exact .inr fun z => hk (.inr ⟨hn, z⟩)
        | some n => exact .inl rfl
      rw [if_pos this]
    · rw [if_neg hk]
      have : ¬ (s.num.isSome = true ∨ ¬ (at_ ws 0 = sFile ∨ at_ ws 0 = sFolder)) := fun z => hk fun y => by
        rcases y with y | ⟨y1, y2⟩
        · exact h0 y
        · rw [y1] at z
          rcases z with z | z
          · cases z
          · exact z y2
      rw [if_neg this]
      cases pathIn (at_ ws 1) 6 with
      | none => rfl
      | some p =>
        by_cases h1 : p = [] ∨ p.dropLast ∉ s.folders ∨ ltP s.last p = false
        · simp only [if_pos h1]
        · simp only [if_neg h1]
          by_cases h2 : at_ ws 0 = sFolder
          · simp only [if_pos h2]
          · simp only [if_neg h2]
            cases numIn (at_ ws 2) with
            | none => rfl
            | some n => rfl
/-- what the state and the events have in common -/
structure GoodS (s : RS) (evs : List Ev) : Prop where
  len : ∀ p ∈ s.folders, p.length ≤ 6
  sub : ∀ p x, (x, none) ∈ entsR evs p → p ++ [x] ∈ s.folders
  ord : ∀ q ∈ s.folders, q = s.last ∨ ltP q s.last = true
  num : s.num = (psOf evs).getLast?.map (·.1)
  root : [] ∈ s.folders
theorem good0 : GoodS RS.init [] where
  len := fun p hp => by
    rw [show RS.init.folders = [[]] from rfl] at hp
    rw [List.mem_singleton.mp hp]
    exact Nat.zero_le _
  sub := fun p x h => by cases h
  ord := fun q hq => Or.inl (List.mem_singleton.mp hq)
  num := rfl
  root := List.mem_cons_self
theorem join_last {q : Path} (h : q ≠ []) : q.dropLast ++ [lastOf q] = q := by
  have e := List.dropLast_concat_getLast h
  have e2 : lastOf q = q.getLast h := by
    unfold lastOf
    rw [List.getLastD_eq_getLast?, List.getLast?_eq_some_getLast h]
    rfl
  rw [e2]
  exact e
theorem GoodS.new {s : RS} {evs : List Ev} {p : Path} (g : GoodS s evs) (h : ltP s.last p = true) : p ∉ s.folders := fun z => by
  rcases g.ord p z with e | e
  · rw [e, ltP_irr] at h
    cases h
  · have y := ltP_trans h e
    rw [ltP_irr] at y
    cases y
theorem take_good {s s' : RS} {evs : List Ev} {ws : List Str} {ev : Ev} {a : Nat} (g : GoodS s evs) (h : takeA s ws = .ok (ev, s', a)) : GoodS s' (evs ++ [ev]) := by
  unfold takeA at h
  by_cases h0 : at_ ws 0 = sWord
  · rw [if_pos h0] at h
    cases hn : numIn (at_ ws 1) with
    | none =>
      rw [hn] at h
      cases h
    | some n =>
      rw [hn] at h
      simp only at h
      by_cases h1 : n ≤ s.num.getD (-1)
      · rw [if_pos h1] at h
        cases h
      · rw [if_neg h1] at h
        by_cases h2 : isWordB (at_ ws 2) = false
        · rw [if_pos h2] at h
          cases h
        · rw [if_neg h2] at h
          cases h
          refine ⟨g.len, fun p x hx => g.sub p x ?_, g.ord, ?_, g.root⟩
          · rw [ents_snoc] at hx
            rcases List.mem_append.mp hx with hx | hx
            · exact hx
            · cases hx
          · show some n = ((psOf (evs ++ [.word n (at_ ws 2)])).getLast?.map (·.1))
            rw [ps_snoc]
            show some n = ((psOf evs ++ [(n, at_ ws 2)]).getLast?.map (·.1))
            rw [List.getLast?_append]
            rfl
  · rw [if_neg h0] at h
    cases hp : pathIn (at_ ws 1) 6 with
    | none =>
      rw [hp] at h
      cases h
    | some p =>
      rw [hp] at h
      simp only at h
      by_cases h1 : p = [] ∨ p.dropLast ∉ s.folders ∨ ltP s.last p = false
      · rw [if_pos h1] at h
        cases h
      · rw [if_neg h1] at h
        have h1a : p ≠ [] := fun z => h1 (.inl z)
        have h1c : ltP s.last p = true := by
          cases e : ltP s.last p with
          | true => rfl
          | false => exact absurd (.inr (.inr e)) h1
        have ord' : ∀ q ∈ s.folders, ltP q p = true := fun q hq => by
          rcases g.ord q hq with e | e
          · rw [e]
            exact h1c
          · exact ltP_trans e h1c
        have h6 := (pathIn_words hp).1
        by_cases h2 : at_ ws 0 = sFolder
        · rw [if_pos h2] at h
          cases h
          refine ⟨fun q hq => ?_, fun q x hx => ?_, fun q hq => ?_, ?_, List.mem_append_left _ g.root⟩
          · rcases List.mem_append.mp hq with hq | hq
            · exact g.len q hq
            · rw [List.mem_singleton.mp hq]
              exact h6
          · rw [show evs ++ [Ev.folder p] = evs ++ [evOf p none] from rfl, ents_snoc, ent_ev h1a] at hx
            rcases List.mem_append.mp hx with hx | hx
            · exact List.mem_append_left _ (g.sub q x hx)
            · by_cases e : p.dropLast = q
              · rw [if_pos e] at hx
                have e2 : x = lastOf p := by
                  have := List.mem_singleton.mp hx
                  exact congrArg Prod.fst this
                rw [← e, e2, join_last h1a]
                exact List.mem_append_right _ List.mem_cons_self
              · rw [if_neg e] at hx
                cases hx
          · rcases List.mem_append.mp hq with hq | hq
            · exact .inr (ord' q hq)
            · exact .inl (List.mem_singleton.mp hq)
          · show s.num = _
            rw [ps_snoc, g.num]
            show _ = (List.getLast? (psOf evs ++ [])).map Prod.fst
            rw [List.append_nil]
        · rw [if_neg h2] at h
          cases hn : numIn (at_ ws 2) with
          | none =>
            rw [hn] at h
            cases h
          | some n =>
            rw [hn] at h
            cases h
            refine ⟨g.len, fun q x hx => ?_, fun q hq => .inr (ord' q hq), ?_, g.root⟩
            · rw [show evs ++ [Ev.file p n] = evs ++ [evOf p (some n)] from rfl, ents_snoc, ent_ev h1a] at hx
              rcases List.mem_append.mp hx with hx | hx
              · exact g.sub q x hx
              · by_cases e : p.dropLast = q
                · rw [if_pos e] at hx
                  have := List.mem_singleton.mp hx
                  cases this
                · rw [if_neg e] at hx
                  cases hx
            · show s.num = _
              rw [ps_snoc, g.num]
              show _ = (List.getLast? (psOf evs ++ [])).map Prod.fst
              rw [List.append_nil]
end KMb
end L2
set_option Elab.async false
set_option linter.all false
set_option maxRecDepth 100000
set_option maxHeartbeats 4000000
/-! k92: take_node -/
namespace L2
namespace KD16
open PySem PySem.Spec PyProof.Rows LamX NdefX KB KN KH KL KM KX KD1 KD2 KD3 KD4 KD5 KD6 KD7 KMa KD8 KD9 KD10 KD11 KD12 KD13 KD14 KD15 KMb
abbrev s_take_node : Stmt := top 46
section
variable {P : Program} {w : World} {K : PySem.W.Frag} {mg : Str → Option Value} {base : Heap} {f : Addr} {fd0 : FuncData} {C CB CL : Addr}
def spTake (C CB CL : Addr) : Sp := fun vs H Q E => ∃ (r dx fd md la pd wl xl p dxl l : Addr) (fl : Fl) (s : RS) (evs : List Ev) (n : Int) (ws : List Str), vs = [.ref r, .str (at_ ws 0), .ref p] ∧ RA C H r dx fd md la pd wl xl fl s.last evs ∧ fl.map (·.1) = s.folders ∧ GoodS s evs ∧ LA CL H p dxl l n 1 ws ∧ l ∉ foot r fd md wl fl ∧
  evs.length + fl.length + 2 < 8000000 ∧ (at_ ws 0 = sWord ∨ at_ ws 0 = sFile ∨ at_ ws 0 = sFolder) ∧
  (∀ e, takeA s ws = .error e → BadF CB E (p :: foot r fd md wl fl) H n e) ∧
  ∀ ev s' a', takeA s ws = .ok (ev, s', a') → ∀ H' la' fl', RA C H' r dx fd md la' pd wl xl fl' s'.last (evs ++ [ev]) → fl'.map (·.1) = s'.folders → LA CL H' p dxl l n a' ws → Bt (p :: foot r fd md wl fl) H H' → (∀ x ∈ foot r fd md wl fl', x ∈ foot r fd md wl fl ∨ H x = none) → fl'.length ≤ fl.length + 1 → Q .non H'
theorem sc_take : FnScope ["reader", "word", "line", "path"] ["reader", "word", "line"] (defScope s_take_node) := ⟨rfl, rfl, rfl, by decide +kernel, rfl, by decide +kernel, by decide +kernel⟩
theorem badN_iff {s : RS} {evs : List Ev} {k : Int} (g : GoodS s evs) (h0 : 0 ≤ k) : badN evs k ↔ k ≤ s.num.getD (-1) := by
  unfold badN
  rw [g.num]
  cases e : (psOf evs).getLast? with
  | none =>
    refine ⟨(fun ⟨q, h, _⟩ => by cases h), fun z => ?_⟩
    have z' : k ≤ -1 := z
    omega
  | some q =>
    exact ⟨(fun ⟨q', h, h2⟩ => by cases h; exact h2), fun z => ⟨q, rfl, z⟩⟩
theorem wd_ne_fold : ¬ sWord = sFolder := by decide +kernel
theorem wd_ne_file : ¬ sWord = sFile := by decide +kernel
theorem dec_str {a b : Str} : decide (V.str a = V.str b) = decide (a = b) := decide_eq_decide.mpr ⟨fun z => V.str.inj z, fun z => by rw [z]⟩
theorem ok_take (X : Tx mg) (T : RC K mg C) (TL : LC K mg CL) (cPair : Me (L2.CX P w) P w K mg base 6 C "take_pair" ["self", "word", "line"] (spPair C CB CL)) (cPl : Me (L2.CX P w) P w K mg base 6 C "place_in" ["self", "line", "most"] (spPlace C CB CL))
    (cB : Me CX0 P w K mg base 2 C "begin_folder" ["self", "path", "mark"] (spBegin C)) (cPut : Me CX0 P w K mg base 1 C "put" ["self", "path", "entry"] (spPut C)) (cN : Me (L2.CX P w) P w K mg base 5 CL "next_number" ["self"] (spNextNum CL CB))
    (F : Fun K "take_node" "take_node" s_take_node f fd0) : FnOk P w K mg base (L2.CX P w) 7 f fd0 ["reader", "word", "line"] (spTake C CB CL) := by
  refine F.okX sc_take (fun vs H Q E h => ?_) (fun cdv A outer s H vs Q E hr h => ?_)
  · obtain ⟨r, dx, fd, md, la, pd, wl, xl, p, dxl, l, fl, s, evs, n, ws, rfl, _⟩ := h
    rfl
  · obtain ⟨r, dx, fd, md, la, pd, wl, xl, p, dxl, l, fl, s, evs, n, ws, rfl, R, efl, g, L, hl, hz, hk, q1, q2⟩ := h
    have hr1 : Room 1 _ := hr.mono (by decide)
    have hr2 : Room 2 _ := hr.mono (by decide)
    have hr5 : Room 5 _ := hr.mono (by decide)
    have nd := sc_take.nd
    refine ⟨_, pss_cons (ps_if (pt_cmpR op_eq (pv 1) (pe_gs X (by rfl) (z := sWord) (by decide +kernel)) (nomark _)) (pss_cons (ps_expr (pe_me cPair (pv 0) T.cl hr (passes_call (takes_of rfl rfl rfl rfl) (fun _ _ _ _ h => h)) (pa_cons (pv 1) (pa_cons (pv 2) pa_nil)))) (pss_one ps_retN)) pss_nil)
      (pss_cons (ps_set (i := 3) nd rfl (Or.inl rfl) (pe_me cPl (pv 0) T.cl hr (passes_call (takes_of rfl rfl rfl rfl) (fun _ _ _ _ h => h)) (pa_cons (pv 2) (pa_cons (pe_gi X (by rfl) (n := 6) (by decide +kernel)) pa_nil))))
      (pss_one (ps_if (pt_cmpR op_eq (pv 1) (pe_gs X (by rfl) (z := sFolder) (by decide +kernel)) (nomark _)) (pss_one (ps_expr (pe_me cB (pv 0) T.cl hr2 pass0 (pa_cons (pv 3) (pa_cons (pe_gs X (by rfl) (z := sJoins) (by decide +kernel)) pa_nil)))))
        (pss_one (ps_expr (pe_me cPut (pv 0) T.cl hr1 pass0 (pa_cons (pv 3) (pa_cons (pe_tup (pa_cons (pe_gs X (by rfl) (z := sFile) (by decide +kernel)) (pa_cons (pe_me0 cN (pv 2) TL.cl hr5 (passes_call (takes_of rfl rfl rfl rfl) (fun _ _ _ _ h => h))) pa_nil))) pa_nil)))))))), ?_⟩
    refine ⟨_, rfl, rfl, _, rfl, ?_⟩
    rw [dec_str]
    refine ited (fun h0 => ?_) (fun h0 => ?_)
    · -- word
      have e1 : takeA s ws = match numIn (at_ ws 1) with
          | none => .error 1
          | some n => if n ≤ s.num.getD (-1) then .error 1 else if isWordB (at_ ws 2) = false then .error 2 else .ok (.word n (at_ ws 2), { s with num := some n }, 3) := by
        unfold takeA
        rw [if_pos h0] <;> rfl
      refine ⟨_, rfl, r, dx, _, rfl, R.ins, rf_no (by decide +kernel), _, rfl, _, rfl, r, dx, fd, md, la, pd, wl, xl, p, dxl, l, fl, s.last, evs, n, 1, ws, by rw [h0]; rfl, R, L, fun z => hl (by rw [z]; exact List.mem_cons_of_mem _ (List.mem_cons_of_mem _ (List.mem_cons_of_mem _ List.mem_cons_self))), by omega, fun hb => ?_, fun k ek hnb hw => ?_, fun k ek hnb hw H' R' L' B' => ?_⟩
      · refine q1 1 ?_
        rw [e1]
        rcases hb with hb | ⟨k, ek, hb⟩
        · rw [hb]
        · rw [ek]
          exact if_pos ((badN_iff g (numIn_some ek).2.2.1).mp hb)
      · refine q1 2 ?_
        rw [e1, ek]
        show (if k ≤ s.num.getD (-1) then _ else _) = _
        rw [if_neg (fun z => hnb ((badN_iff g (numIn_some ek).2.2.1).mpr z)), if_pos hw]
      · refine q2 (.word k (at_ ws 2)) { s with num := some k } 3 ?_ H' la fl R' efl L' B' (fun x hx => .inl hx) (by omega)
        rw [e1, ek]
        show (if k ≤ s.num.getD (-1) then _ else _) = _
        rw [if_neg (fun z => hnb ((badN_iff g (numIn_some ek).2.2.1).mpr z)), if_neg (by rw [show isWordB (at_ ws 2) = true from hw]; decide)]
    have e1 : takeA s ws = match pathIn (at_ ws 1) 6 with
        | none => .error 1
        | some p => if p = [] ∨ p.dropLast ∉ s.folders ∨ ltP s.last p = false then .error 1 else
            if at_ ws 0 = sFolder then .ok (.folder p, { s with folders := s.folders ++ [p], last := p }, 2) else
            match numIn (at_ ws 2) with
            | none => .error 2
            | some n => .ok (.file p n, { s with last := p }, 3) := by
      unfold takeA
      rw [if_neg h0] <;> rfl
    refine ⟨_, rfl, r, dx, _, rfl, R.ins, rf_no (by decide +kernel), _, rfl, r, dx, fd, md, la, pd, wl, xl, p, dxl, l, fl, s.last, evs, n, 1, ws, rfl, R, L, fun hb => ?_, fun q eq hnb H1 t R1 L1 ht B1 => ?_⟩
    · refine q1 1 ?_
      rw [e1]
      rcases hb with hb | ⟨q, ek, hb⟩
      · rw [hb]
      · rw [ek]
        unfold badP at hb
        rw [efl] at hb
        exact if_pos hb
    unfold badP at hnb
    rw [efl] at hnb
    rw [eq] at e1
    replace e1 := e1.trans (if_neg hnb)
    have nq : q ≠ [] := fun z => hnb (.inl z)
    have inq : q.dropLast ∈ s.folders := Classical.byContradiction fun z => hnb (.inr (.inl z))
    have ltq : ltP s.last q = true := by
      cases e : ltP s.last q with
      | true => rfl
      | false => exact absurd (.inr (.inr e)) hnb
    have wq := (pathIn_words eq).2
    have lo := line_out R1 ⟨_, L1.ins, rfl⟩ p List.mem_cons_self
    refine ⟨_, rfl, rfl, _, rfl, ?_⟩
    rw [dec_str]
    refine ited (fun h2 => ?_) (fun h2 => ?_)
    · rw [if_pos h2] at e1
      refine ⟨_, rfl, r, dx, _, rfl, R1.ins, rf_no (by decide +kernel), _, rfl, r, dx, fd, md, t, pd, wl, xl, t, fl, q, evs, q, rfl, R1, ht, nq, by rw [efl]; exact inq, by rw [efl]; exact g.new ltq, wq, by omega, fun H2 l2 R2 nl2 B2 => ?_⟩
      have L2' : LA CL H2 p dxl l n 2 ws := ⟨B2 _ _ L1.ins lo.1, B2 _ _ L1.lst hl, L1.ok⟩
      refine q2 _ _ _ e1 H2 t (fl ++ [(q, l2)]) R2 (by rw [List.map_append, efl]; rfl) L2' (B1.trans B2 fun x hx => .inl (List.mem_cons_of_mem _ hx)) (fun x hx => ?_) (by rw [List.length_append]; exact Nat.le_refl _)
      rcases List.mem_cons.mp hx with z | hx
      · exact .inl (by rw [z]; exact List.mem_cons_self)
      rcases List.mem_cons.mp hx with z | hx
      · exact .inl (by rw [z]; exact List.mem_cons_of_mem _ List.mem_cons_self)
      rcases List.mem_cons.mp hx with z | hx
      · exact .inl (by rw [z]; exact List.mem_cons_of_mem _ (List.mem_cons_of_mem _ List.mem_cons_self))
      rcases List.mem_cons.mp hx with z | hx
      · exact .inl (by rw [z]; exact List.mem_cons_of_mem _ (List.mem_cons_of_mem _ (List.mem_cons_of_mem _ List.mem_cons_self)))
      rw [List.map_append] at hx
      rcases List.mem_append.mp hx with hx | hx
      · exact .inl (List.mem_cons_of_mem _ (List.mem_cons_of_mem _ (List.mem_cons_of_mem _ (List.mem_cons_of_mem _ hx))))
      · have ex : x = l2 := by simpa using hx
        subst ex
        cases e : H x with
        | none => exact .inr rfl
        | some o =>
          by_cases hm : x ∈ p :: foot r fd md wl fl
          · rcases List.mem_cons.mp hm with z | z
            · rw [z, L1.ins] at nl2
              cases nl2
            · exact .inl z
          · rw [B1 _ _ e hm] at nl2
            cases nl2
    · rw [if_neg h2] at e1
      refine ⟨_, rfl, r, dx, _, rfl, R1.ins, rf_no (by decide +kernel), _, rfl, ?_⟩
      refine ⟨_, rfl, p, dxl, _, rfl, L1.ins, k_ne _ (by decide +kernel), p, dxl, l, n, 2, ws, rfl, L1, fun e => ?_, fun v e H2 s2 => ?_⟩
      · have e2 : numIn (at_ ws 2) = none := by
          cases e2 : numIn (at_ ws 2) with
          | none => rfl
          | some k =>
            rw [e2] at e
            cases e
        rw [e2] at e1
        exact (q1 2 e1).x B1
      obtain ⟨k, ek, rfl⟩ : ∃ k, numIn (at_ ws 2) = some k ∧ v = .int k := by
        cases e2 : numIn (at_ ws 2) with
        | none =>
          rw [e2] at e
          cases e
        | some k =>
          rw [e2] at e
          exact ⟨k, rfl, (Option.some.inj e).symm⟩
      rw [ek] at e1
      have R2 := RA.nxt R1 L1 s2
      have L2' : LA CL H2 p dxl l n 3 ws := (L1.next).same s2
      have ht2 : H2 t = some (.tup (q.map V.str)) := R2.las
      have B2 : Bt (p :: foot r fd md wl fl) H H2 := B1.trans (bt_nxt s2) fun x hx => .inl (by rw [List.mem_singleton.mp hx]; exact List.mem_cons_self)
      refine ⟨(by show 2 ≤ sizeLine; decide), fun t4 nt4 => ?_⟩
      have s4 := same_upd (o := .tup [.str sFile, .int k]) nt4
      have et4 : upd H2 t4 (.tup [.str sFile, .int k]) t4 = some (.tup [.str sFile, .int k]) := upd_same
      have R4 := R2.same s4
      have L4 := L2'.same s4
      have ht4 := s4 _ _ ht2
      have B4 : Bt (p :: foot r fd md wl fl) H (upd H2 t4 (.tup [.str sFile, .int k])) := B2.trans (bt_same (F := []) s4) fun x hx => by cases hx
      generalize upd H2 t4 (.tup [.str sFile, .int k]) = H4 at *
      refine ⟨r, dx, fd, md, t, pd, wl, xl, t, fl, q, evs, q, .ref t4, some k, rfl, R4, ht4, nq, by rw [efl]; exact inq, ⟨t4, rfl, et4⟩, by omega, fun H5 R5 B5 => ?_⟩
      have lo4 := line_out R4 ⟨_, L4.ins, rfl⟩ p List.mem_cons_self
      have sub : ∀ x ∈ fl.map (·.2), x ∈ foot r fd md wl fl := fun x hx => List.mem_cons_of_mem _ (List.mem_cons_of_mem _ (List.mem_cons_of_mem _ (List.mem_cons_of_mem _ hx)))
      exact q2 _ _ _ e1 H5 t fl R5 efl ⟨B5 _ _ L4.ins fun z => lo4.1 (sub _ z), B5 _ _ L4.lst fun z => hl (sub _ z), L4.ok⟩ (B4.trans B5 fun x hx => .inl (List.mem_cons_of_mem _ (sub x hx))) (fun x hx => .inl hx) (by omega)
end
end KD16
end L2
set_option Elab.async false
set_option linter.all false
set_option maxRecDepth 100000
set_option maxHeartbeats 4000000
/-! k92: read_lines -/
namespace L2
namespace KD17
open PySem PySem.Spec PyProof.Rows LamX NdefX KB KN KH KL KM KX KD1 KD2 KD3 KD4 KD5 KD6 KD7 KMa KD8 KD9 KD10 KD11 KD12 KD13 KD14 KD15 KMb KD16
abbrev s_read_lines : Stmt := top 45
/-! ### the plain reading of all lines -/
def foldA : List (List Str) → Nat → RS → List Ev → Except (Nat × Nat) (RS × List Ev)
  | [], _, s, evs => .ok (s, evs)
  | ws :: r, k, s, evs => match stepA s ws with
    | .error e => .error (k, e)
    | .ok (ev, s') => foldA r (k + 1) s' (evs ++ [ev])
def linesOf (z : Str) : List Str := if z = Str.empty then [] else Txt.split z "\n"
def wordsOf (z : Str) : List (List Str) := (linesOf z).map fun l => Txt.split l " "
/-- what is left to be read behind i lines -/
def Left (all : List (List Str)) (i : Nat) (s : RS) (evs : List Ev) : Prop := foldA all 0 RS.init [] = foldA (all.drop i) i s evs
theorem left0 (all : List (List Str)) : Left all 0 RS.init [] := rfl
theorem left_step {all : List (List Str)} {i : Nat} {s s' : RS} {evs : List Ev} {ws : List Str} {ev : Ev} (h : Left all i s evs) (hi : all[i]? = some ws) (e : stepA s ws = .ok (ev, s')) : Left all (i + 1) s' (evs ++ [ev]) := by
  unfold Left at h ⊢
  rw [h]
  obtain ⟨h1, h2⟩ := List.getElem?_eq_some_iff.mp hi
  rw [List.drop_eq_getElem_cons h1, h2]
  show (match stepA s ws with
    | .error e => (.error (i, e) : Except (Nat × Nat) (RS × List Ev))
    | .ok (ev, s') => foldA (all.drop (i + 1)) (i + 1) s' (evs ++ [ev])) = _
  rw [e]
theorem left_err {all : List (List Str)} {i : Nat} {s : RS} {evs : List Ev} {ws : List Str} {e : Nat} (h : Left all i s evs) (hi : all[i]? = some ws) (he : stepA s ws = .error e) : foldA all 0 RS.init [] = .error (i, e) := by
  unfold Left at h
  rw [h]
  obtain ⟨h1, h2⟩ := List.getElem?_eq_some_iff.mp hi
  rw [List.drop_eq_getElem_cons h1, h2]
  show (match stepA s ws with
    | .error e => (.error (i, e) : Except (Nat × Nat) (RS × List Ev))
    | .ok (ev, s') => foldA (all.drop (i + 1)) (i + 1) s' (evs ++ [ev])) = _
  rw [he]
theorem left_end {all : List (List Str)} {s : RS} {evs : List Ev} (h : Left all all.length s evs) : foldA all 0 RS.init [] = .ok (s, evs) := by
  unfold Left at h
  rw [h, List.drop_length]
  rfl
/-- which sort of lines one is among -/
def placeOf (s : RS) : Nat := if s.num = none then 0 else 1
def tab2 : List (List Str) := [[sFolder, sFile], [sWord]]
theorem take_num {s s' : RS} {ws : List Str} {ev : Ev} {a : Nat} (hk : ¬ badK s ws) (h : takeA s ws = .ok (ev, s', a)) : placeOf s' = if at_ ws 0 = sWord then 1 else 0 := by
  unfold takeA at h
  by_cases h0 : at_ ws 0 = sWord
  · rw [if_pos h0] at h ⊢
    cases hn : numIn (at_ ws 1) with
    | none =>
      rw [hn] at h
      cases h
    | some n =>
      rw [hn] at h
      simp only at h
      by_cases h1 : n ≤ s.num.getD (-1)
      · rw [if_pos h1] at h
        cases h
      · rw [if_neg h1] at h
        by_cases h2 : isWordB (at_ ws 2) = false
        · rw [if_pos h2] at h
          cases h
        · rw [if_neg h2] at h
          cases h
          rfl
  · rw [if_neg h0] at h ⊢
    have hn0 : s.num = none := by
      cases e : s.num with
      | none => rfl
      | some n => exact absurd (fun z => by
          rcases z with z | ⟨z, _⟩
          · exact h0 z
          · rw [e] at z
            cases z) hk
    have fin : s'.num = s.num → placeOf s' = 0 := fun e => by
      unfold placeOf
      rw [e, hn0]
      rfl
    cases hp : pathIn (at_ ws 1) 6 with
    | none =>
      rw [hp] at h
      cases h
    | some p =>
      rw [hp] at h
      simp only at h
      by_cases h1 : p = [] ∨ p.dropLast ∉ s.folders ∨ ltP s.last p = false
      · rw [if_pos h1] at h
        cases h
      · rw [if_neg h1] at h
        by_cases h2 : at_ ws 0 = sFolder
        · rw [if_pos h2] at h
          cases h
          exact fin rfl
        · rw [if_neg h2] at h
          cases hn : numIn (at_ ws 2) with
          | none =>
            rw [hn] at h
            cases h
          | some n =>
            rw [hn] at h
            cases h
            exact fin rfl
theorem tif_lists {b : Bool} {σ : L2.St} {H1 : Hp} {ta tb : TE} {Q : VK} (R : Hp → Addr → Prop) (ha : b = true → ∀ Q : VK, (∀ H2 p, R H2 p → Q (.ref p) H2) → ta σ H1 Q) (hb : b = false → ∀ Q : VK, (∀ H2 p, R H2 p → Q (.ref p) H2) → tb σ H1 Q)
    (k : ∀ H2 p, R H2 p → Q (.ref p) H2) : if b = true then ta σ H1 Q else tb σ H1 Q := by
  cases b with
  | true => exact iteT (ha rfl Q k)
  | false => exact iteF (hb rfl Q k)
/-- the first words that may stand -/
def kinds (s : RS) : List Str := (tab2.drop (placeOf s)).flatten
theorem kinds_in (s : RS) (ws : List Str) (h : 0 < ws.length) : (0 < ws.length ∧ at_ ws 0 ∈ kinds s) ↔ ¬ badK s ws := by
  unfold badK kinds placeOf tab2
  rw [Classical.not_not]
  cases e : s.num with
  | none =>
    simp only [if_true]
    show (0 < ws.length ∧ at_ ws 0 ∈ [sFolder, sFile, sWord]) ↔ _
    simp only [List.mem_cons, List.not_mem_nil, or_false, h, true_and]
    constructor
    · rintro (z | z | z)
      · exact .inr (.inr z)
      · exact .inr (.inl z)
      · exact .inl z
    · rintro (z | z | z)
      · exact .inr (.inr z)
      · exact .inr (.inl z)
      · exact .inl z
  | some n =>
    simp only [reduceCtorEq, if_false]
    show (0 < ws.length ∧ at_ ws 0 ∈ [sWord]) ↔ _
    simp only [List.mem_cons, List.not_mem_nil, or_false, h, true_and, false_and]
section
variable {P : Program} {w : World} {K : PySem.W.Frag} {mg : Str → Option Value} {base : Heap} {f fT : Addr} {fd0 fdT : FuncData} {C CB CL : Addr}
theorem foot_in {H : Hp} {r dx fd md la pd wl xl : Addr} {fl : Fl} {last : Path} {evs : List Ev} (R : RA C H r dx fd md la pd wl xl fl last evs) : ∀ x ∈ foot r fd md wl fl, H x ≠ none := by
  intro x hx e
  rcases List.mem_cons.mp hx with z | hx
  · rw [z, R.ins] at e
    cases e
  rcases List.mem_cons.mp hx with z | hx
  · rw [z, R.fds] at e
    cases e
  rcases List.mem_cons.mp hx with z | hx
  · rw [z, R.mds] at e
    cases e
  rcases List.mem_cons.mp hx with z | hx
  · obtain ⟨vs, y, _⟩ := R.prs
    rw [z, y] at e
    cases e
  · obtain ⟨f, hf, ef⟩ := List.mem_map.mp hx
    obtain ⟨vs, y, _⟩ := R.ents f hf
    rw [← ef, y] at e
    cases e
abbrev SA := List (Addr × List Str)
def prsOf (s0 s1 : Addr) (pl : Nat) : SA := ([(s0, [sFolder, sFile]), (s1, [sWord])] : SA).drop pl
theorem prs_cut (s0 s1 : Addr) (s : RS) : cutV [V.ref s0, V.ref s1] (some ((placeOf s : Nat) : Int)) none = (prsOf s0 s1 (placeOf s)).map fun q => V.ref q.1 := by
  unfold placeOf
  by_cases h : s.num = none
  · rw [if_pos h]
    rfl
  · rw [if_neg h]
    rfl
theorem prs_kinds (s0 s1 : Addr) (s : RS) : (prsOf s0 s1 (placeOf s)).flatMap (·.2) = kinds s := by
  unfold placeOf kinds placeOf
  by_cases h : s.num = none
  · rw [if_pos h]
    rfl
  · rw [if_neg h]
    rfl
theorem prs_small (s0 s1 : Addr) (s : RS) {i : Nat} {q : Addr × List Str} (h : (prsOf s0 s1 (placeOf s))[i]? = some q) : (((prsOf s0 s1 (placeOf s)).take i).flatMap (·.2)).length + q.2.length ≤ 3 := by
  unfold placeOf at h ⊢
  by_cases hn : s.num = none
  · rw [if_pos hn] at h ⊢
    match i, h with
    | 0, h =>
      cases h
      show 0 + 2 ≤ 3
      decide
    | 1, h =>
      cases h
      show 2 + 1 ≤ 3
      decide
    | i + 2, h => cases h
  · rw [if_neg hn] at h ⊢
    match i, h with
    | 0, h =>
      cases h
      show 0 + 1 ≤ 3
      decide
    | i + 1, h => cases h
theorem prs_mem {s0 s1 : Addr} {s : RS} {q : Addr × List Str} (h : q ∈ prsOf s0 s1 (placeOf s)) : q = (s0, [sFolder, sFile]) ∨ q = (s1, [sWord]) := by
  have h2 := List.mem_of_mem_drop h
  rcases List.mem_cons.mp h2 with e | h2
  · exact .inl e
  · exact .inr (List.mem_singleton.mp h2)
def accK (w0 : Str) (i : Nat) : List V := ((List.range i).filter fun j => decide (w0 ∈ tab2.getD j [])).map fun j => V.int (j : Nat)
theorem accK_yes {w0 : Str} {i : Nat} (h : w0 ∈ tab2.getD i []) : accK w0 (i + 1) = accK w0 i ++ [.int (i : Nat)] := by
  unfold accK
  rw [List.range_succ, List.filter_append, List.map_append]
  congr 1
  rw [List.filter_cons_of_pos (by simpa using h)]
  rfl
theorem accK_no {w0 : Str} {i : Nat} (h : ¬ w0 ∈ tab2.getD i []) : accK w0 (i + 1) = accK w0 i := by
  unfold accK
  rw [List.range_succ, List.filter_append, List.map_append, List.filter_cons_of_neg (by simpa using h)]
  exact List.append_nil _
theorem accK_len (w0 : Str) (i : Nat) : (accK w0 i).length ≤ i := by
  unfold accK
  rw [List.length_map]
  exact Nat.le_trans (List.length_filter_le _ _) (Nat.le_of_eq List.length_range)
theorem file_ne_fold : ¬ sFile = sFolder := by decide +kernel
theorem accK_first {w0 : Str} (h : w0 = sWord ∨ w0 = sFile ∨ w0 = sFolder) : ∃ r, accK w0 2 = .int ((if w0 = sWord then 1 else 0 : Nat) : Int) :: r := by
  rcases h with rfl | rfl | rfl
  · rw [if_pos rfl]
    exact ⟨[], by decide +kernel⟩
  · rw [if_neg (Ne.symm wd_ne_file)]
    exact ⟨[], by decide +kernel⟩
  · rw [if_neg (Ne.symm wd_ne_fold)]
    exact ⟨[], by decide +kernel⟩
/-- a text that cannot be read at all -/
def NoStr (K : PySem.W.Frag) (H : Hp) (v : V) : Prop := ∃ t, TyX K H v t ∧ PySem.W.kitOne K t (.type "str") = some false
abbrev xN : HO := .xd [("word", .non), ("line", .non)]
def spLines (C CB fT : Addr) : Sp := fun vs H Q E => ∃ (v : V) (so s0 s1 : Addr), vs = [v, .ref so, .ref fT] ∧ H so = some (.lst [.ref s0, .ref s1]) ∧ H s0 = some (.tup [.str sFolder, .str sFile]) ∧ H s1 = some (.tup [.str sWord]) ∧
  ((NoStr K H v ∧ ∀ H' d, Same H H' → H' d = none → E (.ref CB) (some d) (upd H' d xN)) ∨
   ∃ z : Str, v = .str z ∧ z.length ≤ 1000000 ∧ (∀ k e, foldA (wordsOf z) 0 RS.init [] = .error (k, e) → ∀ H' d, Same H H' → H' d = none → E (.ref CB) (some d) (upd H' d (xT e (.int (k : Nat))))) ∧
     ∀ s evs, foldA (wordsOf z) 0 RS.init [] = .ok (s, evs) → ∀ H' r dx fd md la pd wl xl fl, RA C H' r dx fd md la pd wl xl fl s.last evs → fl.map (·.1) = s.folders → GoodS s evs → Same H H' → Q (.ref r) H')
theorem sc_read_lines : FnScope ["text", "sorts", "take", "reader", "place", "number", "words", "line", "word", "some", "own", "at"] ["text", "sorts", "take"] (defScope s_read_lines) := ⟨rfl, rfl, rfl, by decide +kernel, rfl, by decide +kernel, by decide +kernel⟩
abbrev nRL : List Str := ["text", "sorts", "take", "reader", "place", "number", "words", "line", "word", "some", "own", "at"]
def MkI (P : Program) (w : World) (K : PySem.W.Frag) (mg : Str → Option Value) (base : Heap) (k : Nat) (x : Str) (C : Addr) (ps : List Str) (sp : Sp) : Prop :=
  ∃ (fI : Addr) (fd : FuncData), Mk K C fI ∧ FnOk P w K mg base CX0 k fI fd ps sp ∧ Binds K fd ps [] ∧ mg x = some (.ref C)
theorem ok_read_lines (X : Tx mg) (T : RC K mg C) (TL : LC K mg CL) (M : MkX P w K mg base "BadText" CB ["self", "line", "word"] (spBX CB)) (mR : MkI P w K mg base 1 "Reader" C ["self"] (spRInit C)) (mL : MkI P w K mg base 1 "Line" CL ["self", "text", "number"] (spLInit CL))
    (cO : Me (L2.CX P w) P w K mg base 5 CL "next_of" ["self", "some"] (spNextOf K CL CB)) (cE : Me (L2.CX P w) P w K mg base 4 CL "need_end" ["self"] (spEnd CL CB)) (FT : FnOk P w K mg base (L2.CX P w) 7 fT fdT ["reader", "word", "line"] (spTake C CB CL)) (kT : PySem.W.keepIn K (.ref fT) = true) (bT : Binds K fdT ["reader", "word", "line"] [])
    (F : Fun K "read_lines" "read_lines" s_read_lines f fd0) : FnOk P w K mg base (L2.CX P w) 8 f fd0 ["text", "sorts", "take"] (spLines (K := K) C CB fT) := by
  obtain ⟨fR, fdR, MR, FR, bR, gR⟩ := mR
  obtain ⟨fL, fdL, ML, FL, bL, gL⟩ := mL
  refine F.okX sc_read_lines (fun vs H Q E h => ?_) (fun cdv A outer s H vs Q E hr h => ?_)
  · obtain ⟨v, so, s0, s1, rfl, _⟩ := h
    rfl
  · obtain ⟨v, so, s0, s1, rfl, hso, hs0, hs1, hq⟩ := h
    have hr2 : Room 2 _ := hr.mono (by decide)
    have hr4 : Room 4 _ := hr.mono (by decide)
    have hr5 : Room 5 _ := hr.mono (by decide)
    have nd := sc_read_lines.nd
    refine ⟨_, pss_cons (ps_if (pt_not (pt_val (pe_callB call_isi (by rfl) (X.b "isinstance") (by decide +kernel) (pa_cons (pv 0) (pa_cons (pe_bltn (v := .ty "str") (by rfl) (X.b "str") (by decide +kernel) rfl) pa_nil)))))
        (pss_one (ps_raise rfl (takes_of rfl rfl rfl rfl) (pmk_x M hr2 (by rfl) (pa_cons pe_non (pa_cons pe_non pa_nil))))) pss_nil)
      (pss_cons (ps_par (i := 3) (j := 4) rfl nd rfl rfl (by decide) rfl rfl (pa_cons (pe_make0 MR FR hr2 rfl gR bR .nil pass0) (pa_cons pe_int pa_nil)) (by rfl))
      (pss_cons (ps_for (passes_of rfl) rfl (pi_enum (by rfl) (X.b "enumerate") (pa_cons (pe_ifExp (pt_cmpR op_ne (pv 0) pe_str (nomark _)) (pe_split (pv 0) pe_str) (pe_lst pa_nil)) pa_nil)) (pg_tup rfl (pgs_cons (pg_name (i := 5) nd rfl (Or.inl rfl)) (pgs_cons (pg_name (i := 6) nd rfl (Or.inl rfl)) pgs_nil)))
        (pss_cons (ps_set (i := 7) nd rfl (Or.inl rfl) (pe_make ML FL hr2 rfl gL bL .nil pass0 (pa_cons (pv 6) (pa_cons (pv 5) pa_nil))))
        (pss_cons (ps_set (i := 8) nd rfl (Or.inr rfl) (pe_me cO (pv 7) TL.cl hr5 (passes_call (takes_of rfl rfl rfl rfl) (fun _ _ _ _ h => h)) (pa_cons (pe_lc2 (own := [("some", 9), ("own", 10)]) (vs1 := [10]) (g := gName 9) (tt := tYes) (g1 := gName 10) (tt1 := tYes) (wi1 := iTup K (tVar 9)) rfl nd (pi_list (pe_slice sl_list (pv 1) (po_some (pv 4)) po_none))
          (blkOk_by (N := nRL) (sc := defScope s_read_lines) (by decide +kernel)) (by decide) (fun _ _ _ _ _ => pg_name (i := 9) nd rfl (Or.inl rfl)) (fun _ _ _ _ _ => pts_nil) (fun _ _ _ _ _ => pi_tup (pv 9)) (fun _ _ _ _ _ => pg_name (i := 10) nd rfl (Or.inl rfl)) (fun _ _ _ _ _ => pts_nil) (fun _ _ _ _ _ => pv 10)) pa_nil)))
        (pss_cons (ps_set (i := 4) nd rfl (Or.inl rfl) (pe_ix ix_list (pe_lc (own := [("at", 11), ("some", 9)]) (g := gTup K 2 (gCons (gName 11) (gCons (gName 9) gNil))) (tt := tTest (tOp (rIn K false) (tVar 8) (tVar 9))) rfl nd (pi_enum (by rfl) (X.b "enumerate") (pa_cons (pv 1) pa_nil))
          (blkOk_by (N := nRL) (sc := defScope s_read_lines) (by decide +kernel)) (fun _ _ _ _ _ => pg_tup rfl (pgs_cons (pg_name (i := 11) nd rfl (Or.inl rfl)) (pgs_cons (pg_name (i := 9) nd rfl (Or.inl rfl)) pgs_nil))) (fun _ _ _ _ _ => pts_one (pt_cmpR op_in_seq (pv 8) (pv 9) rfl)) (fun _ _ _ _ _ => pv 11)) pe_int (fun _ _ => rfl)))
        (pss_cons (ps_expr (pe_callL (i := 2) FT hr rfl (Or.inl rfl) kT bT .nil (passes_call (takes_of rfl rfl rfl rfl) (fun _ _ _ _ h => h)) (pa_cons (pv 3) (pa_cons (pv 8) (pa_cons (pv 7) pa_nil)))))
        (pss_one (ps_expr (pe_me0 cE (pv 7) TL.cl hr4 (passes_call (takes_of rfl rfl rfl rfl) (fun _ _ _ _ h => h))))))))))
      (pss_one (ps_ret (pv 3))))), ?_⟩
    rcases hq with ⟨⟨ty, h1, h2⟩, q⟩ | ⟨z, rfl, hz, qe, qo⟩
    · refine ⟨_, rfl, _, _, ty, .type "str", false, rfl, .ty "str", h1, h2, false, rfl, iteT ?_⟩
      exact text_made (l := .non) (v := .non) (Q := E) fun d nd => q H d (Same.refl _) nd
    refine ⟨_, rfl, _, _, .type "str", .type "str", true, rfl, .ty "str", .base (.str z), kit_ty (by decide +kernel), true, rfl, iteF ?_⟩
    intro r dx nr ndx nedr
    have sM : Same H (upd (upd H dx (.own r)) r (.ins C dx [])) := fun b o e => by
      rw [upd_ne (ne_of_none e nr), upd_ne (ne_of_none e ndx)]
      exact e
    refine ⟨r, dx, rfl, upd_same, fun H1 fd md la pd wl xl l0 B1 R1 fr1 => ⟨rfl, _, _, rfl, ?_⟩⟩
    have sH1 : Same H H1 := fun b o e => B1 b o (sM b o e) fun z => by
      have e2 : b = r := by simpa using z
      rw [e2, nr] at e
      cases e
    have ft1 : ∀ x ∈ foot r fd md wl [([], l0)], H x = none := by
      intro x hx
      have hx' : x = r ∨ x = fd ∨ x = md ∨ x = wl ∨ x = l0 := by simpa [foot] using hx
      rcases hx' with e | e | e | e | e
      · rw [e]; exact nr
      · exact sM.free (fr1 x (by simp [e]))
      · exact sM.free (fr1 x (by simp [e]))
      · exact sM.free (fr1 x (by simp [e]))
      · exact sM.free (fr1 x (by simp [e]))
    have sl := split_le1 z "\n" (by decide +kernel)
    have ll : (linesOf z).length ≤ z.length + 1 ∧ ∀ y ∈ linesOf z, y.length ≤ z.length := by
      unfold linesOf
      by_cases e : z = Str.empty
      · rw [if_pos e]
        exact ⟨Nat.zero_le _, fun y hy => by cases hy⟩
      · rw [if_neg e]
        exact sl
    refine ⟨_, rfl, rfl, _, rfl, ?_⟩
    refine tif_lists (fun H2 p => Same H1 H2 ∧ H1 p = none ∧ H2 p = some (.lst ((linesOf z).map V.str))) (fun h Q2 k => ?_) (fun h Q2 k => ?_) (fun H2 a ⟨s2, na, ea⟩ => ?_)
    · have e : ¬ z = Str.empty := fun e => by
        rw [e] at h
        exact absurd h (by decide +kernel)
      refine ⟨_, rfl, ⟨_, rfl⟩, z, _, rfl, rfl, (by decide +kernel), (by have e := sizeLine_eq; omega), fun p np => k _ p ⟨same_upd np, np, ?_⟩⟩
      rw [upd_same]
      unfold linesOf
      rw [if_neg e]
    · have e : z = Str.empty := by
        have h2 : decide (V.str z = V.str (Str.ofString "")) = true := by simpa using h
        exact V.str.inj (of_decide_eq_true h2)
      refine ⟨Nat.zero_le _, fun p np => k _ p ⟨same_upd np, np, ?_⟩⟩
      rw [upd_same]
      unfold linesOf
      rw [if_pos e]
      rfl
    refine ⟨a, _, rfl, SqL.of ea, ?_⟩
    refine for_it (walk_enum (K := K) (a := a) (xs := (linesOf z).map V.str)) (fun i σ H' => ∃ (fl : Fl) (s : RS) (evs : List Ev) (la : Addr) (x5 x6 x7 x8 : Option V), σ = [some (.str z), some (.ref so), some (.ref fT), some (.ref r), some (.int (placeOf s : Nat)), x5, x6, x7, x8, none, none, none] ∧
        RA C H' r dx fd md la pd wl xl fl s.last evs ∧ fl.map (·.1) = s.folders ∧ GoodS s evs ∧ Left (wordsOf z) i s evs ∧ evs.length = i ∧ fl.length ≤ i + 1 ∧ Same H H' ∧ (∀ x ∈ foot r fd md wl fl, H x = none) ∧ H' a = some (.lst ((linesOf z).map V.str)) ∧ a ∉ foot r fd md wl fl)
      ⟨[([], l0)], RS.init, [], la, none, none, none, none, rfl, R1.same s2, rfl, good0, left0 _, rfl, Nat.le_refl _, sH1.trans s2, ft1, ea, ?_⟩ (fun i σ H' _ ⟨_, _, _, _, _, _, _, _, _, _, _, _, _, _, _, _, _, e, _⟩ => SqL.of e) ?_ ?_
    · exact fun z => foot_in R1 a z na
    · rintro i x σ H2 H3 hi ⟨fl, s, evs, la, x5, x6, x7, x8, rfl, R, efl, g, lft, hev, hfl, sH, ft, ea2, naf⟩ ⟨t, i', ln', rfl, nt, rfl, hi', hln'⟩
      obtain rfl : V.int (i : Nat) = i' := Option.some.inj hi'
      obtain ⟨ln, hln, rfl⟩ := map_at hln'
      have lln := ll.2 ln (List.mem_of_getElem? hln)
      rw [List.length_map] at hi
      refine ⟨t, _, rfl, SqT.of upd_same, rfl, _, _, rfl, _, _, rfl, rfl, ?_⟩
      have sT := same_upd (o := .tup [.int (i : Nat), .str ln]) nt
      have RT := R.same sT
      have sHT := sH.trans sT
      have eaT := sT _ _ ea2
      generalize upd H2 t (.tup [.int (i : Nat), .str ln]) = H3 at *
      refine ⟨_, rfl, _, rfl, fun p dxl np ndx nepd => ?_⟩
      have sP : Same H3 (upd (upd H3 dxl (.own p)) p (.ins CL dxl [])) := fun b o e => by
        rw [upd_ne (ne_of_none e np), upd_ne (ne_of_none e ndx)]
        exact e
      refine ⟨p, dxl, ln, i, rfl, upd_same, (by have e := sizeLine_eq; omega), fun H4 l B4 nl L4 => ⟨rfl, ?_⟩⟩
      have s34 : Same H3 H4 := fun b o e => B4 b o (ne_of_none e np) (sP b o e)
      have nl3 : H3 l = none := sP.free nl
      have R4 := RT.same s34
      have sH4 := sHT.trans s34
      have ea4 := s34 _ _ eaT
      have nlf : l ∉ foot r fd md wl fl := fun z => foot_in RT l z nl3
      have npf : p ∉ foot r fd md wl fl := fun z => foot_in RT p z np
      have npH : H p = none := sHT.free np
      have wpos : 0 < (Txt.split ln " ").length := split_pos ln " "
      have hw : (wordsOf z)[i]? = some (Txt.split ln " ") := by
        unfold wordsOf
        rw [List.getElem?_map, hln]
        rfl
      generalize Txt.split ln " " = ws at *
      refine ⟨_, rfl, p, dxl, _, rfl, L4.ins, k_ne _ (by decide +kernel), ?_⟩
      refine ⟨_, rfl, _, rfl, _, rfl, so, _, rfl, SqL.of (sH4 _ _ hso), fun p2 np2 => ⟨p2, rfl, ⟨_, SqL.of upd_same⟩, fun D hD => ?_⟩⟩
      rw [prs_cut] at hD ⊢
      have s45 := same_upd (o := .lst ((prsOf s0 s1 (placeOf s)).map fun q => V.ref q.1)) np2
      have L5 := L4.same s45
      have R5 := R4.same s45
      have sH5 := sH4.trans s45
      have ea5 := s45 _ _ ea4
      have e52 : upd H4 p2 (.lst ((prsOf s0 s1 (placeOf s)).map fun q => V.ref q.1)) p2 = some (.lst ((prsOf s0 s1 (placeOf s)).map fun q => V.ref q.1)) := upd_same
      generalize upd H4 p2 (.lst ((prsOf s0 s1 (placeOf s)).map fun q => V.ref q.1)) = H5 at *
      have tup5 : ∀ q ∈ prsOf s0 s1 (placeOf s), H5 q.1 = some (.tup (q.2.map V.str)) := fun q hq => by
        rcases prs_mem hq with e | e
        · rw [e]
          exact sH5 _ _ hs0
        · rw [e]
          exact sH5 _ _ hs1
      refine lc2_it (walk_list (K := K) (a := p2) (xs := (prsOf s0 s1 (placeOf s)).map fun q => V.ref q.1)) (fun j H' => Same H5 H' ∧ H' D = some (.lst ((((prsOf s0 s1 (placeOf s)).take j).flatMap (·.2)).map V.str))) ⟨same_upd hD, upd_same⟩ (fun j H' _ q => SqL.of (q.1 _ _ e52)) ?_ ?_
      · rintro j y H6 H7 hj ⟨s6, e6⟩ ⟨rfl, hy⟩
        obtain ⟨q, hq, rfl⟩ := map_at hy
        have mq := List.mem_of_getElem? hq
        have sm := prs_small s0 s1 s hq
        refine ⟨rfl, _, rfl, q.1, rfl, ⟨_, SqT.of (s6 _ _ (tup5 q mq))⟩, ?_⟩
        refine in_it (walk_tup (K := K) (a := q.1) (xs := q.2.map V.str)) (fun m H' => Same H5 H' ∧ H' D = some (.lst ((((prsOf s0 s1 (placeOf s)).take j).flatMap (·.2) ++ q.2.take m).map V.str))) ⟨s6, by rw [e6, List.take_zero, List.append_nil]⟩ (fun m H' _ z => SqT.of (z.1 _ _ (tup5 q mq))) ?_ ?_
        · rintro m y2 H8 H9 hm ⟨s8, e8⟩ ⟨rfl, hy2⟩
          obtain ⟨x, hx, rfl⟩ := map_at hy2
          refine ⟨rfl, _, rfl, _, e8, ?_, same_putD hD s8, ?_⟩
          · rw [List.length_map, List.length_append, List.length_take]
            exact big8 (by omega)
          · rw [upd_same, take_more hx, ← List.append_assoc, List.map_append (l₂ := [x])]
            rfl
        · rintro H8 ⟨s8, e8⟩
          refine ⟨s8, ?_⟩
          rw [e8, List.length_map, List.take_length, take_more hq, List.flatMap_append]
          simp
      rintro H6 ⟨s6, e6⟩
      have e6' : H6 D = some (.lst ((kinds s).map V.str)) := by rw [e6, List.length_map, List.take_length, prs_kinds]
      have L6 := L5.same s6
      have R6 := R5.same s6
      have sH6 := sH5.trans s6
      have ea6 := s6 _ _ ea5
      have kin := kinds_in s ws wpos
      refine ⟨p, dxl, l, i, 0, ws, D, kinds s, rfl, L6, SqL.of e6', fun e => ?_, fun v e H7 s7 => ?_⟩
      · have hb : badK s ws := Classical.byContradiction fun z => by
          rw [if_pos (kin.mpr z)] at e
          cases e
        have he : stepA s ws = .error 0 := by
          rw [stepA_eq, if_pos hb]
        exact fun H' d s' nd => qe i 0 (left_err lft hw he) H' d (sH6.trans s') nd
      have nb : ¬ badK s ws := fun z => by
        rw [if_neg (fun y => kin.mp y z)] at e
        cases e
      rw [if_pos (kin.mpr nb)] at e
      obtain rfl := (Option.some.inj e).symm
      have R7 := RA.nxt R6 L6 s7
      have L7 : LA CL H7 p dxl l i 1 ws := (L6.next).same s7
      have sH7 : Same H H7 := (same_putD npH sH6).trans s7
      have ea7 : H7 a = some (.lst ((linesOf z).map V.str)) := s7 _ _ ((upd_ne (ne_of ea6 L6.ins fun z => by cases z)).trans ea6)
      have k3 : at_ ws 0 = sWord ∨ at_ ws 0 = sFile ∨ at_ ws 0 = sFolder := by
        unfold badK at nb
        rcases Classical.not_not.mp nb with z | ⟨_, z⟩
        · exact .inl z
        · exact .inr z
      -- place
      refine ⟨_, rfl, so, _, rfl, SqL.of (sH7 _ _ hso), fun D2 hD2 => ?_⟩
      refine lc_it (walk_enum (K := K) (a := so) (xs := [V.ref s0, V.ref s1])) (fun j H' => Same H7 H' ∧ H' D2 = some (.lst (accK (at_ ws 0) j))) ⟨same_upd hD2, upd_same⟩ (fun j H' _ q => SqL.of (q.1 _ _ (sH7 _ _ hso))) ?_ ?_
      · rintro j y H8 H9 hj ⟨s8, e8⟩ ⟨t3, y1, y2, rfl, nt3, rfl, hy1, hy2⟩
        obtain rfl : V.int (j : Nat) = y1 := Option.some.inj hy1
        have s9 := same_upd (o := .tup [.int (j : Nat), y2]) nt3
        have e9 := s9 _ _ e8
        obtain ⟨b, eb, tb⟩ : ∃ b : Addr, y2 = .ref b ∧ upd H8 t3 (.tup [.int (j : Nat), y2]) b = some (.tup ((tab2.getD j []).map V.str)) := by
          match j, hy2 with
          | 0, hy2 =>
            obtain rfl : V.ref s0 = y2 := Option.some.inj hy2
            exact ⟨s0, rfl, s9 _ _ (s8 _ _ (sH7 _ _ hs0))⟩
          | 1, hy2 =>
            obtain rfl : V.ref s1 = y2 := Option.some.inj hy2
            exact ⟨s1, rfl, s9 _ _ (s8 _ _ (sH7 _ _ hs1))⟩
          | j + 2, hy2 => cases hy2
        subst eb
        refine ⟨t3, _, rfl, SqT.of upd_same, rfl, _, _, rfl, _, _, rfl, rfl, rfl, ?_⟩
        refine ⟨_, rfl, _, rfl, b, _, rfl, .inr (SqT.of tb), rfl, (flat_strs _), _, rfl, ?_⟩
        rw [inV_strs]
        show if decide (at_ ws 0 ∈ tab2.getD j []) = true then _ else _
        refine ited (fun h1 => ?_) (fun h1 => ?_)
        · exact ⟨_, rfl, lc_put (R := fun H' => Same H7 H') (acc := accK (at_ ws 0)) (fun _ _ => same_putD hD2) (s8.trans s9) e9 (big8 (by have := accK_len (at_ ws 0) j; have : j < 2 := hj; omega)) (accK_yes h1)⟩
        · exact ⟨s8.trans s9, by rw [e9, accK_no h1]⟩
      rintro H8 ⟨s8, e8⟩
      obtain ⟨rest, er⟩ := accK_first k3
      have e8' : H8 D2 = some (.lst (.int ((if at_ ws 0 = sWord then 1 else 0 : Nat) : Int) :: rest)) := by
        rw [e8, ← er]
        rfl
      refine ⟨D2, _, _, _, rfl, rfl, SqL.of e8', at0, ?_⟩
      have R8 := R7.same s8
      have L8 := L7.same s8
      have sH8 := sH7.trans s8
      have ea8 := s8 _ _ ea7
      have fin9 : ∀ {Hx H9 : Hp} {G : List Addr}, Same H Hx → Bt G Hx H9 → (∀ x ∈ G, H x = none) → Same H H9 := fun {Hx H9 G} s b n y o e => b y o (s y o e) fun z => by
        rw [n y z] at e
        cases e
      have ftp : ∀ x ∈ p :: foot r fd md wl fl, H x = none := fun x hx => by
        rcases List.mem_cons.mp hx with e | hx
        · rw [e]
          exact npH
        · exact ft x hx
      have lle : (linesOf z).length ≤ 1000001 := by omega
      refine ⟨rfl, _, rfl, _, rfl, _, rfl, ?_⟩
      refine ⟨r, dx, fd, md, la, pd, wl, xl, p, dxl, l, fl, s, evs, i, ws, rfl, R8, efl, g, L8, nlf, by omega, k3, fun e he H9 d B9 nd => ?_, fun ev s' a' ok H9 la' fl' R9 efl' L9 B9 fx hle => ?_⟩
      · have he2 : stepA s ws = .error e := by
          rw [stepA_eq, if_neg nb, he]
        exact qe i e (left_err lft hw he2) H9 d (fin9 sH8 B9 ftp) nd
      have sH9 := fin9 sH8 B9 ftp
      refine ⟨_, rfl, p, dxl, _, rfl, L9.ins, k_ne _ (by decide +kernel), p, dxl, l, i, a', ws, rfl, L9, fun hlt H10 d s10 nd => ?_, fun hnl => ?_⟩
      · have he2 : stepA s ws = .error a' := by
          rw [stepA_eq, if_neg nb, ok]
          exact if_pos hlt
        exact qe i a' (left_err lft hw he2) H10 d (sH9.trans s10) nd
      have ok2 : stepA s ws = .ok (ev, s') := by
        rw [stepA_eq, if_neg nb, ok]
        exact if_neg hnl
      have ft' : ∀ x ∈ foot r fd md wl fl', H x = none := fun x hx => by
        rcases fx x hx with e | e
        · exact ft x e
        · exact sH8.free e
      refine ⟨fl', s', evs ++ [ev], la', some (.int (i : Nat)), some (.str ln), some (.ref p), some (.str (at_ ws 0)), ?_, R9, efl', take_good g ok, left_step lft hw ok2, by rw [List.length_append, hev]; rfl, by omega, sH9, ft', ?_, fun hx => ?_⟩
      · rw [take_num nb ok]
        rfl
      · refine B9 _ _ ea8 fun hx => ?_
        rcases List.mem_cons.mp hx with e | hx
        · rw [e, L8.ins] at ea8
          cases ea8
        · exact naf hx
      · rcases fx a hx with e | e
        · exact naf e
        · rw [ea8] at e
          cases e
    · rintro σ H2 ⟨fl, s, evs, la, x5, x6, x7, x8, rfl, R, efl, g, lft, hev, hfl, sH, ft, ea2, naf⟩
      have e := left_end (all := wordsOf z) (s := s) (evs := evs) (by
        have e2 : (wordsOf z).length = ((linesOf z).map V.str).length := by unfold wordsOf; rw [List.length_map, List.length_map]
        rw [e2]
        exact lft)
      exact ⟨_, rfl, qo s evs e H2 r dx fd md la pd wl xl fl R efl g sH⟩
end
end KD17
end L2
set_option Elab.async false
set_option linter.all false
set_option maxRecDepth 100000
set_option maxHeartbeats 4000000
/-! k92: what the events of a text that is read are -/
namespace L2
namespace KMc
open PySem PySem.Spec PyProof.Rows LamX NdefX KB KN KH KL KM KX KD1 KD2 KD3 KD4 KD5 KD6 KD7 KMa KD8 KD9 KD10 KD11 KD12 KD13 KD14 KD15 KMb KD16 KD17
def PathOk (q : Path) : Prop := q ≠ [] ∧ q.length ≤ 6 ∧ ∀ s ∈ q, isWordB s = true
def EvOk : Ev → Prop
  | .file q n => PathOk q ∧ 0 ≤ n ∧ n < 10000
  | .folder q => PathOk q
  | .word n z => isWordB z = true ∧ 0 ≤ n ∧ n < 10000
/-- the words of a line and its event -/
def RowOk (ws : List Str) : Ev → Prop
  | .file q n => at_ ws 0 = sFile ∧ 2 < ws.length ∧ pathIn (at_ ws 1) 6 = some q ∧ numIn (at_ ws 2) = some n
  | .folder q => at_ ws 0 = sFolder ∧ 1 < ws.length ∧ pathIn (at_ ws 1) 6 = some q
  | .word n z => at_ ws 0 = sWord ∧ 2 < ws.length ∧ numIn (at_ ws 1) = some n ∧ at_ ws 2 = z
theorem at_lt {ws : List Str} {a : Nat} (h : at_ ws a ≠ Str.empty) : a < ws.length := Classical.byContradiction fun z => h (at_no z)
theorem num_lt {ws : List Str} {a : Nat} {n : Int} (h : numIn (at_ ws a) = some n) : a < ws.length := at_lt fun z => by
  rw [z, num_no] at h
  cases h
theorem path_lt {ws : List Str} {a m : Nat} {q : Path} (h : pathIn (at_ ws a) m = some q) : a < ws.length := at_lt fun z => by
  rw [z, path_no] at h
  cases h
theorem word_lt {ws : List Str} {a : Nat} (h : isWordB (at_ ws a) = true) : a < ws.length := at_lt fun z => by
  rw [z, word_no] at h
  cases h
theorem take_row {s s' : RS} {ws : List Str} {ev : Ev} {a : Nat} (hk : ¬ badK s ws) (h : takeA s ws = .ok (ev, s', a)) : EvOk ev ∧ RowOk ws ev := by
  unfold takeA at h
  by_cases h0 : at_ ws 0 = sWord
  · rw [if_pos h0] at h
    cases hn : numIn (at_ ws 1) with
    | none =>
      rw [hn] at h
      cases h
    | some n =>
      rw [hn] at h
      simp only at h
      by_cases h1 : n ≤ s.num.getD (-1)
      · rw [if_pos h1] at h
        cases h
      · rw [if_neg h1] at h
        by_cases h2 : isWordB (at_ ws 2) = false
        · rw [if_pos h2] at h
          cases h
        · rw [if_neg h2] at h
          cases h
          have h3 : isWordB (at_ ws 2) = true := by
            cases e : isWordB (at_ ws 2) with
            | true => rfl
            | false => exact absurd e h2
          obtain ⟨_, _, n0, n1, _⟩ := numIn_some hn
          exact ⟨⟨h3, n0, n1⟩, h0, word_lt h3, hn, rfl⟩
  · rw [if_neg h0] at h
    have hk2 : at_ ws 0 = sFile ∨ at_ ws 0 = sFolder := by
      unfold badK at hk
      rcases Classical.not_not.mp hk with z | ⟨_, z⟩
      · exact absurd z h0
      · exact z
    cases hp : pathIn (at_ ws 1) 6 with
    | none =>
      rw [hp] at h
      cases h
    | some p =>
      rw [hp] at h
      simp only at h
      obtain ⟨p6, pw⟩ := pathIn_words hp
      by_cases h1 : p = [] ∨ p.dropLast ∉ s.folders ∨ ltP s.last p = false
      · rw [if_pos h1] at h
        cases h
      · rw [if_neg h1] at h
        have pn : p ≠ [] := fun z => h1 (.inl z)
        by_cases h2 : at_ ws 0 = sFolder
        · rw [if_pos h2] at h
          cases h
          exact ⟨⟨pn, p6, pw⟩, h2, path_lt hp, hp⟩
        · rw [if_neg h2] at h
          cases hn : numIn (at_ ws 2) with
          | none =>
            rw [hn] at h
            cases h
          | some n =>
            rw [hn] at h
            cases h
            obtain ⟨_, _, n0, n1, _⟩ := numIn_some hn
            exact ⟨⟨⟨pn, p6, pw⟩, n0, n1⟩, hk2.resolve_right h2, num_lt hn, hp, hn⟩
theorem step_row {s s' : RS} {ws : List Str} {ev : Ev} (h : stepA s ws = .ok (ev, s')) : EvOk ev ∧ RowOk ws ev := by
  rw [stepA_eq] at h
  by_cases hk : badK s ws
  · rw [if_pos hk] at h
    cases h
  · rw [if_neg hk] at h
    cases e : takeA s ws with
    | error x =>
      rw [e] at h
      cases h
    | ok x =>
      obtain ⟨ev', s'', a⟩ := x
      rw [e] at h
      simp only at h
      by_cases hl : a < ws.length
      · rw [if_pos hl] at h
        cases h
      · rw [if_neg hl] at h
        cases h
        exact take_row hk e
theorem fold_rows : ∀ {l : List (List Str)} {k : Nat} {s s' : RS} {evs0 evs : List Ev}, foldA l k s evs0 = .ok (s', evs) → ∃ more, evs = evs0 ++ more ∧ Paired (fun ws ev => EvOk ev ∧ RowOk ws ev) l more
  | [], k, s, s', evs0, evs, h => by
    cases h
    exact ⟨[], (List.append_nil _).symm, .nil⟩
  | ws :: r, k, s, s', evs0, evs, h => by
    have h' : (match stepA s ws with
      | .error e => (.error (k, e) : Except (Nat × Nat) (RS × List Ev))
      | .ok (ev, s1) => foldA r (k + 1) s1 (evs0 ++ [ev])) = .ok (s', evs) := h
    cases e : stepA s ws with
    | error x =>
      rw [e] at h'
      cases h'
    | ok x =>
      obtain ⟨ev, s1⟩ := x
      rw [e] at h'
      obtain ⟨more, e1, e2⟩ := fold_rows h'
      exact ⟨ev :: more, by rw [e1, List.append_assoc]; rfl, .cons (step_row e) e2⟩
theorem fold_all {l : List (List Str)} {s : RS} {evs : List Ev} (h : foldA l 0 RS.init [] = .ok (s, evs)) : Paired (fun ws ev => EvOk ev ∧ RowOk ws ev) l evs := by
  obtain ⟨more, e1, e2⟩ := fold_rows h
  rw [e1]
  exact e2
theorem paired_ev {l : List (List Str)} {evs : List Ev} (h : Paired (fun ws ev => EvOk ev ∧ RowOk ws ev) l evs) : ∀ ev ∈ evs, EvOk ev := by
  induction h with
  | nil => intro ev h; cases h
  | cons a r ih =>
    intro ev h
    rcases List.mem_cons.mp h with rfl | h
    · exact a.1
    · exact ih ev h
theorem paired_len {α β : Type} {R : α → β → Prop} {l : List α} {m : List β} (h : Paired R l m) : l.length = m.length := by
  induction h with
  | nil => rfl
  | cons _ _ ih =>
    show _ + 1 = _ + 1
    rw [ih]
/-! ### the tree that is read is sane -/
theorem last_word {q : Path} (h : PathOk q) : isWordB (lastOf q) = true := by
  refine h.2.2 _ ?_
  have m : lastOf q ∈ q.dropLast ++ [lastOf q] := List.mem_append_right _ List.mem_cons_self
  rw [join_last h.1] at m
  exact m
theorem ents_word {evs : List Ev} (h : ∀ ev ∈ evs, EvOk ev) {p : Path} {x : Str} {o : Option Int} (hx : (x, o) ∈ entsR evs p) : isWordB x = true ∧ ∀ n, o = some n → 0 ≤ n ∧ n < 10000 := by
  obtain ⟨ev, hev, e⟩ := List.mem_filterMap.mp hx
  have ho := h ev hev
  cases ev with
  | file q n =>
    have e' : (if q ≠ [] ∧ q.dropLast = p then some (lastOf q, some n) else none) = some (x, o) := e
    by_cases c : q ≠ [] ∧ q.dropLast = p
    · rw [if_pos c] at e'
      cases e'
      exact ⟨last_word ho.1, fun m hm => by cases hm; exact ho.2⟩
    · rw [if_neg c] at e'
      cases e'
  | folder q =>
    have e' : (if q ≠ [] ∧ q.dropLast = p then some (lastOf q, (none : Option Int)) else none) = some (x, o) := e
    by_cases c : q ≠ [] ∧ q.dropLast = p
    · rw [if_pos c] at e'
      cases e'
      exact ⟨last_word ho, fun m hm => by cases hm⟩
    · rw [if_neg c] at e'
      cases e'
  | word n z => cases e
theorem word_short {z : Str} (h : isWordB z = true) : z.length ≤ 8 := by
  unfold isWordB at h
  simp only [Bool.and_eq_true, decide_eq_true_eq] at h
  exact h.1.2
theorem saneE_of : ∀ {l : List (Str × Node)}, (∀ e ∈ l, e.1.length ≤ sizeLine ∧ Sane e.2) → SaneE (Ents.ofList l)
  | [], _ => True.intro
  | (x, n) :: r, h => ⟨(h _ List.mem_cons_self).1, (h _ List.mem_cons_self).2, saneE_of fun e he => h e (List.mem_cons_of_mem _ he)⟩
theorem sane_node {evs : List Ev} (h : ∀ ev ∈ evs, EvOk ev) (hl : evs.length < sizeLine) : ∀ (k : Nat) (p : Path), Sane (nodeE k evs p)
  | 0, p => ⟨Nat.lt_of_le_of_lt (Nat.zero_le _) hl, True.intro⟩
  | k + 1, p => by
    rw [nodeE_succ]
    refine ⟨?_, saneE_of fun e he => ?_⟩
    · rw [toList_ofList, List.length_map]
      exact Nat.lt_of_le_of_lt (ents_len _ _) hl
    · obtain ⟨⟨x, o⟩, hx, rfl⟩ := List.mem_map.mp he
      refine ⟨big16 (word_short (ents_word h hx).1) (by decide), ?_⟩
      cases o with
      | some n => exact True.intro
      | none => exact sane_node h hl k _
theorem ps_ok {evs : List Ev} (h : ∀ ev ∈ evs, EvOk ev) : ∀ q ∈ psOf evs, isWordB q.2 = true ∧ 0 ≤ q.1 ∧ q.1 < 10000 := by
  intro q hq
  obtain ⟨ev, hev, e⟩ := List.mem_filterMap.mp hq
  have ho := h ev hev
  cases ev with
  | file p n => cases e
  | folder p => cases e
  | word n z =>
    cases e
    exact ho
theorem sane_ps {evs : List Ev} (h : ∀ ev ∈ evs, EvOk ev) (hl : evs.length < sizeLine) : SaneP (psOf evs) :=
  ⟨Nat.lt_of_le_of_lt (ps_len _) hl, fun q hq => big16 (word_short (ps_ok h q hq).1) (by decide)⟩
theorem words_len (z : Str) : (KD17.wordsOf z).length ≤ z.length + 1 := by
  unfold KD17.wordsOf KD17.linesOf
  rw [List.length_map]
  by_cases e : z = Str.empty
  · rw [if_pos e]
    exact Nat.zero_le _
  · rw [if_neg e]
    exact (split_le1 z "\n" (by decide +kernel)).1
/-- the tree of a text, or where it is wrong -/
def readM (z : Str) : Except (Nat × Nat) (Node × Pairs) := match foldA (KD17.wordsOf z) 0 RS.init [] with
  | .error e => .error e
  | .ok (_, evs) => .ok (nodeE 7 evs [], psOf evs)
end KMc
end L2
set_option Elab.async false
set_option linter.all false
set_option maxRecDepth 100000
set_option maxHeartbeats 4000000
/-! k92: read_tree -/
namespace L2
namespace KD18
open PySem PySem.Spec PyProof.Rows LamX NdefX KB KN KH KL KM KX KD1 KD2 KD3 KD4 KD5 KD6 KD7 KMa KD8 KD9 KD10 KD11 KD12 KD13 KD14 KD15 KMb KD16 KD17 KMc
abbrev s_read_tree : Stmt := top 47
section
variable {P : Program} {w : World} {K : PySem.W.Frag} {mg : Str → Option Value} {base : Heap} {f fT : Addr} {fd0 : FuncData} {C CB CT : Addr} {T : Tb}
def spRead (K : PySem.W.Frag) (T : Tb) (CB CT : Addr) : Sp := fun vs H Q E => ∃ v : V, vs = [v] ∧ Tabs T H ∧
  ((NoStr K H v ∧ ∀ H' d, Kp T H H' → H' d = none → E (.ref CB) (some d) (upd H' d xN)) ∨
   ∃ z : Str, v = .str z ∧ z.length ≤ 1000000 ∧ (∀ k e, readM z = .error (k, e) → ∀ H' d, Kp T H H' → H' d = none → E (.ref CB) (some d) (upd H' d (xT e (.int (k : Nat))))) ∧
     ∀ root ps, readM z = .ok (root, ps) → (isTreeB root ps = true → ∀ H' u, Kp T H H' → TreeAt H' u root ps → Q u H') ∧
       (isTreeB root ps = false → ∀ H' d u, Kp T H H' → TreeAt H' u root ps → H' d = none → E (.ref CT) (some d) (upd H' d (.xd [("value", u)]))))
theorem sc_read_tree : FnScope ["text", "reader"] ["text"] (defScope s_read_tree) := ⟨rfl, rfl, rfl, by decide +kernel, rfl, by decide +kernel, by decide +kernel⟩
theorem noStr_same {H H' : Hp} {v : V} (s : Same H H') (h : NoStr K H v) : NoStr K H' v := by
  obtain ⟨t, ty, k⟩ := h
  refine ⟨t, ?_, k⟩
  cases ty with
  | base b =>
    refine .base ?_
    cases b with
    | non => exact .non
    | bl y => exact .bl y
    | int i => exact .int i
    | str y => exact .str y
    | flt y => exact .flt y
    | lst e => exact .lst (s _ _ e)
    | frz e => exact .frz (s _ _ e)
    | tup e => exact .tup (s _ _ e)
    | dK e => exact .dK (s _ _ e)
    | dT e => exact .dT (s _ _ e)
    | ins e cl ha hn htk hm => exact .ins (s _ _ e) cl ha hn htk hm
  | byt y => exact .byt y
  | set e => exact .set (s _ _ e)
  | kList e c => exact .kList e c
  | kTuple e c => exact .kTuple e c
  | kDict e c => exact .kDict e c
  | fTuple e => exact .fTuple (s _ _ e)
  | fDict e => exact .fDict (s _ _ e)
theorem ok_read_tree (X : Tx mg) (TR : RC K mg C) (cL : Ca (L2.CX P w) P w K mg base 8 "read_lines" ["text", "sorts", "take"] (spLines (K := K) C CB fT)) (gT : mg "take_node" = some (.ref fT)) (cE : Me CX0 P w K mg base 8 C "entries" ["self", "path", "has_marks"] (spEntries C 7))
    (cN : Ca (L2.CX P w) P w K mg base 24 "need_tree" ["tree"] (spNeed T CT)) (F : Fun K "read_tree" "read_tree" s_read_tree f fd0) : FnOk P w K mg base (L2.CX P w) 25 f fd0 ["text"] (spRead K T CB CT) := by
  refine F.okX sc_read_tree (fun vs H Q E h => ?_) (fun cdv A outer s H vs Q E hr h => ?_)
  · obtain ⟨v, rfl, _⟩ := h
    rfl
  · obtain ⟨v, rfl, hT, hq⟩ := h
    have hr8 : Room 8 _ := hr.mono (by decide)
    have hr24 : Room 24 _ := hr.mono (by decide)
    have hu := hu_of hr
    have nd := sc_read_tree.nd
    refine ⟨_, pss_cons (ps_set (i := 1) nd rfl (Or.inl rfl) (pe_caX cL hr8 (by rfl) (fun σ => passAt (takes_of rfl rfl rfl rfl) σ) (pa_cons (pv 0) (pa_cons (pe_lst (pa_cons (pe_tup (pa_cons (pe_gs X (by rfl) (z := sFolder) (by decide +kernel)) (pa_cons (pe_gs X (by rfl) (z := sFile) (by decide +kernel)) pa_nil))) (pa_cons (pe_tup (pa_cons (pe_gs X (by rfl) (z := sWord) (by decide +kernel)) pa_nil)) pa_nil)))
        (pa_cons (pe_glob (v := .ref fT) (by rfl) gT rfl) pa_nil)))))
      (pss_one (ps_ret (pe_caX cN hr24 (by rfl) (fun σ => passAt (takes_of rfl rfl rfl rfl) σ) (pa_cons (pe_tup (pa_cons (pe_me cE (pv 1) TR.cl hr8 pass0 (pa_cons (pe_tup pa_nil) (pa_cons pe_bl pa_nil))) (pa_cons (pe_callTy call_tuple_of (by rfl) (X.b "tuple") (by decide +kernel) (pa_cons (pe_dget hu (pe_fld (pv 1) rfl) (pe_gs X (by rfl) (z := sWord) (by decide +kernel)) (fun _ _ => rfl)) pa_nil)) pa_nil))) pa_nil)))), ?_⟩
    refine ⟨_, rfl, (by show 2 ≤ sizeLine; decide), fun s0 n0 => ⟨(by show 1 ≤ sizeLine; decide), fun s1 n1 => ⟨(by show 2 ≤ sizeLine; decide), fun so no => ?_⟩⟩⟩
    have S1 := ((same_upd (o := .tup [.str sFolder, .str sFile]) n0).upd (o := .tup [.str sWord]) n1).upd (o := .lst [.ref s0, .ref s1]) no
    have e0 : upd (upd (upd H s0 (.tup [.str sFolder, .str sFile])) s1 (.tup [.str sWord])) so (.lst [.ref s0, .ref s1]) s0 = some (.tup [.str sFolder, .str sFile]) := same_upd no _ _ (same_upd n1 _ _ upd_same)
    have e1 : upd (upd (upd H s0 (.tup [.str sFolder, .str sFile])) s1 (.tup [.str sWord])) so (.lst [.ref s0, .ref s1]) s1 = some (.tup [.str sWord]) := same_upd no _ _ upd_same
    have e2 : upd (upd (upd H s0 (.tup [.str sFolder, .str sFile])) s1 (.tup [.str sWord])) so (.lst [.ref s0, .ref s1]) so = some (.lst [.ref s0, .ref s1]) := upd_same
    generalize upd (upd (upd H s0 (.tup [.str sFolder, .str sFile])) s1 (.tup [.str sWord])) so (.lst [.ref s0, .ref s1]) = H1 at *
    refine ⟨v, so, s0, s1, rfl, e2, e0, e1, ?_⟩
    rcases hq with ⟨h1, q⟩ | ⟨z, rfl, hz, qe, qo⟩
    · exact .inl ⟨noStr_same S1 h1, fun H' d s' nd => q H' d (kp_same (S1.trans s') hT) nd⟩
    refine .inr ⟨z, rfl, hz, fun k e he H' d s' nd => qe k e ?_ H' d (kp_same (S1.trans s') hT) nd, fun st evs ok H2 r dx fd md la pd wl xl fl R efl g s2 => ?_⟩
    · unfold readM
      rw [he]
    have rows := fold_all ok
    have evok := paired_ev rows
    have evl : evs.length < sizeLine := by
      have h1 := paired_len rows
      have h2 := words_len z
      have h3 := sizeLine_eq
      omega
    obtain ⟨qt, qf⟩ := qo (nodeE 7 evs []) (psOf evs) (by unfold readM; rw [ok])
    have k2 := kp_same (S1.trans s2) hT
    refine ⟨_, rfl, r, dx, _, rfl, R.ins, rf_no (by decide +kernel), Nat.zero_le _, fun t0 nt0 => ?_⟩
    have s3 := same_upd (o := .tup []) nt0
    have R3 := R.same s3
    refine ⟨r, dx, fd, md, la, pd, wl, xl, t0, fl, st.last, evs, [], rfl, R3, upd_same, ?_, rfl, fun q hq => g.len q.1 (by rw [← efl]; exact List.mem_map_of_mem hq), fun p x hx => by rw [efl]; exact g.sub p x hx, fun H4 u s4 hu4 => ?_⟩
    · rw [efl]
      exact g.root
    have R4 := R3.same s4
    obtain ⟨us, w1, w2⟩ := R4.prs
    have dg := DGet.k (k := .inr sWord) R4.pds
    rw [show valV [((.inr sWord : Key), V.ref wl), (.inr sIndex, .ref xl)] (.inr sWord) = some (.ref wl) from valV_pos rfl] at dg
    refine ⟨_, rfl, r, C, dx, _, _, rfl, R4.ins, TR.cl, TR.nP, rf_p, pd, _, rfl, dg, wl, _, rfl, .inl ⟨SqL.of w1, fun p1 np1 => ?_⟩⟩
    have s5 := same_upd (o := .tup us) np1
    refine ⟨(by show 2 ≤ sizeLine; decide), fun p2 np2 => ?_⟩
    have s6 := same_upd (o := .tup [u, .ref p1]) np2
    have k6 := (((k2.same s3).same s4).same s5).same s6
    have tr : TreeAt (upd (upd H4 p1 (.tup us)) p2 (.tup [u, .ref p1])) (.ref p2) (nodeE 7 evs []) (psOf evs) :=
      ⟨p2, p1, u, us, rfl, upd_same, hu4.keep (tupK_same (s5.trans s6)), s6 _ _ upd_same, w2.keep (tupK_same (s5.trans s6))⟩
    exact ⟨.ref p2, nodeE 7 evs [], psOf evs, rfl, tr, sane_node evok evl 7 [], sane_ps evok evl, k6.2, fun b H7 k7 => qt b H7 _ (k6.trans k7) (tr.keep (tupK_ext k7.1)), fun b H7 d k7 nd => qf b H7 d _ (k6.trans k7) (tr.keep (tupK_ext k7.1)) nd⟩
end
end KD18
end L2
set_option Elab.async false
set_option linter.all false
set_option maxRecDepth 100000
set_option maxHeartbeats 4000000
/-! k92: == [] and != []; _law_is_word, _law_is_number, _law_path_in, _law_at -/
namespace L2
namespace KD19
open PySem PySem.Spec PyProof.Rows LamX NdefX KB KN KH KL KM KX KD1 KD2 KD3 KD4 KD5 KD6 KD7 KMa KD8 KD9 KD10 KD11 KD12 KD13 KD14 KD15 KMb KD16 KMc KD18
abbrev s_lword : Stmt := top 58
abbrev s_lnum : Stmt := top 59
abbrev s_lpath : Stmt := top 60
abbrev s_lat : Stmt := top 61
def rEqNil (K : PySem.W.Frag) (neg : Bool) : R2 := fun x y H Q => ∃ (a b : Addr) (xs : List V), x = .ref a ∧ y = .ref b ∧ SqL K H a xs ∧ SqL K H b [] ∧ Q (.bl (if neg then !decide (xs = []) else decide (xs = []))) H
section
variable {X : Cx}
theorem op_eqNil (hu : X.A.units < cLine) : OpR X (compareOp .Eq) (rEqNil X.K false) := by
  intro pins s σ H x y v u Q I rx ry h
  obtain ⟨a, b, xs, rfl, rfl, ha, hb, q⟩ := h
  cases rx
  cases ry
  obtain ⟨us, r1, p1, _⟩ := I.list ha
  obtain ⟨ws, r2, p2, _⟩ := I.list hb
  cases r2
  have l1 := r1.length
  by_cases hx : xs = []
  · have e : us.toArray.size = ([] : List Value).toArray.size := by
      rw [List.size_toArray, ← l1, hx]
      rfl
    have R := SeqAt.RcAt.lists (A := X.A) (s := s) (e := fun _ => true) p1.isList p2.isList e hu fun j h1 h2 => absurd h2 (Nat.not_lt_zero j)
    have q' : Q (.bl true) H := by
      have q2 : Q (.bl (decide (xs = []))) H := q
      rw [decide_eq_true hx] at q2
      exact q2
    have e3 : ((List.range us.toArray.size).all fun _ => true) = true := List.all_eq_true.mpr fun _ _ => rfl
    rw [e3] at R
    have z : wpAny (model X.prog X.w) X.A (compareOp .Eq (.ref a) (.ref b)) (EP X pins σ Q) X.xe s := R X.prog X.w X.xe (EP X pins σ Q) ⟨.bl true, H, I, rfl, q'⟩
    exact z
  · have e : (us.toArray.size != ([] : List Value).toArray.size) = true := by
      have h0 : xs.length ≠ 0 := fun z => hx (List.length_eq_zero_iff.mp z)
      rw [List.size_toArray, ← l1]
      simpa using h0
    have R := SeqAt.RcAt.lists_lengths (A := X.A) (s := s) p1.isList p2.isList e hu
    have q' : Q (.bl false) H := by
      have q2 : Q (.bl (decide (xs = []))) H := q
      rw [decide_eq_false hx] at q2
      exact q2
    have z : wpAny (model X.prog X.w) X.A (compareOp .Eq (.ref a) (.ref b)) (EP X pins σ Q) X.xe s := R X.prog X.w X.xe (EP X pins σ Q) ⟨.bl false, H, I, rfl, q'⟩
    exact z
theorem op_neNil (hu : X.A.units < cLine) : OpR X (compareOp .NotEq) (rEqNil X.K true) := by
  intro pins s σ H x y v u Q I rx ry h
  obtain ⟨a, b, xs, rfl, rfl, ha, hb, q⟩ := h
  cases rx
  cases ry
  obtain ⟨us, r1, p1, _⟩ := I.list ha
  obtain ⟨ws, r2, p2, _⟩ := I.list hb
  cases r2
  have l1 := r1.length
  by_cases hx : xs = []
  · have e : us.toArray.size = ([] : List Value).toArray.size := by
      rw [List.size_toArray, ← l1, hx]
      rfl
    have R := SeqAt.RcNeAt.lists (A := X.A) (s := s) (e := fun _ => true) p1.isList p2.isList e hu fun j h1 h2 => absurd h2 (Nat.not_lt_zero j)
    have q' : Q (.bl false) H := by
      have q2 : Q (.bl (!decide (xs = []))) H := q
      rw [decide_eq_true hx] at q2
      exact q2
    have e3 : ((List.range us.toArray.size).all fun _ => true) = true := List.all_eq_true.mpr fun _ _ => rfl
    rw [e3] at R
    have z : wpAny (model X.prog X.w) X.A (compareOp .NotEq (.ref a) (.ref b)) (EP X pins σ Q) X.xe s := R X.prog X.w X.xe (EP X pins σ Q) ⟨.bl false, H, I, rfl, q'⟩
    exact z
  · have e : (us.toArray.size != ([] : List Value).toArray.size) = true := by
      have h0 : xs.length ≠ 0 := fun z => hx (List.length_eq_zero_iff.mp z)
      rw [List.size_toArray, ← l1]
      simpa using h0
    have R := SeqAt.RcNeAt.lists_lengths (A := X.A) (s := s) p1.isList p2.isList e hu
    have q' : Q (.bl true) H := by
      have q2 : Q (.bl (!decide (xs = []))) H := q
      rw [decide_eq_false hx] at q2
      exact q2
    have z : wpAny (model X.prog X.w) X.A (compareOp .NotEq (.ref a) (.ref b)) (EP X pins σ Q) X.xe s := R X.prog X.w X.xe (EP X pins σ Q) ⟨.bl true, H, I, rfl, q'⟩
    exact z
end
/-- the signs not among cs, as texts -/
def badS (cs : List Nat) (l : List Nat) : List V := (l.filter fun c => !decide (c ∈ cs)).map fun c => V.str ⟨#[c]⟩
theorem badS_more {cs l : List Nat} {i c : Nat} (h : l[i]? = some c) : badS cs (l.take (i + 1)) = badS cs (l.take i) ++ (if c ∈ cs then [] else [V.str ⟨#[c]⟩]) := by
  unfold badS
  rw [take_more h, List.filter_append, List.map_append]
  congr 1
  by_cases e : c ∈ cs
  · rw [if_pos e, List.filter_cons_of_neg (by simpa using e)]
    rfl
  · rw [if_neg e, List.filter_cons_of_pos (by simpa using e)]
    rfl
theorem badS_len (cs l : List Nat) : (badS cs l).length ≤ l.length := by
  unfold badS
  rw [List.length_map]
  exact List.length_filter_le _ _
theorem badS_nil (cs l : List Nat) : decide (badS cs l = []) = l.all fun c => decide (c ∈ cs) := by
  unfold badS
  by_cases h : ∀ c ∈ l, c ∈ cs
  · rw [decide_eq_true, List.all_eq_true.mpr fun c hc => decide_eq_true (h c hc)]
    rw [List.map_eq_nil_iff, List.filter_eq_nil_iff]
    intro c hc
    simpa using h c hc
  · have h2 : ∃ c ∈ l, c ∉ cs := by
      simpa using h
    obtain ⟨c, hc, hn⟩ := h2
    rw [decide_eq_false, Eq.comm]
    · exact List.all_eq_false.mpr ⟨c, hc, by simpa using hn⟩
    · intro z
      rw [List.map_eq_nil_iff, List.filter_eq_nil_iff] at z
      exact absurd (z c hc) (by simpa using hn)
section
variable {P : Program} {w : World} {K : PySem.W.Frag} {mg : Str → Option Value} {base : Heap} {f : Addr} {fd0 : FuncData}
theorem sc_lword : FnScope ["_law_word", "_law_sign"] ["_law_word"] (defScope s_lword) := ⟨rfl, rfl, rfl, by decide +kernel, rfl, by decide +kernel, by decide +kernel⟩
theorem ok_lword (X : Tx mg) (F : Fun K "_law_is_word" "_law_is_word" s_lword f fd0) : FnOk P w K mg base CX0 1 f fd0 ["_law_word"] spWord := by
  refine F.ok sc_lword (fun vs H Q E h => ?_) (fun cdv A outer s H vs Q E hr h => ?_)
  · obtain ⟨z, rfl, _⟩ := h
    rfl
  · obtain ⟨z, rfl, hz, k⟩ := h
    have nd := sc_lword.nd
    refine ⟨_, pss_one (ps_ret (pe_and (pe_chain op_le op_le pe_int (pe_callB call_len_str (by rfl) (X.b "len") PySem.boot_len (pa_cons (pv 0) pa_nil)) pe_int)
      (pe_one (pe_cmpR (op_eqNil hr.units0) (pe_lc (own := [("_law_sign", 1)]) (g := gName 1) rfl nd (pi_str (pv 0)) (blkOk_by (N := ["_law_word", "_law_sign"]) (sc := defScope s_lword) (by decide +kernel)) (fun _ _ _ _ _ => pg_name (i := 1) nd rfl (Or.inl rfl)) (fun _ _ _ _ _ => pts_one (pt_cmpR op_notIn_sign (pv 1) pe_str rfl))
        (fun _ _ _ _ _ => pv 1)) (pe_lst pa_nil) (nomark _))))), ?_⟩
    refine ⟨_, rfl, _, rfl, hz, _, _, rfl, rfl, _, rfl, ited (fun h1 => ?_) (fun h1 => ?_)⟩
    · refine ⟨_, _, rfl, rfl, _, rfl, ited (fun h2 => ?_) (fun h2 => ?_)⟩
      · refine ⟨_, rfl, z, rfl, fun D hD => ?_⟩
        refine lc_it walk_str (fun i H' => Same H H' ∧ H' D = some (.lst (badS letters.cps.toList (z.cps.toList.take i)))) ⟨same_upd hD, upd_same⟩ (fun _ _ _ _ => True.intro) ?_ ?_
        · rintro i x H2 H3 hi ⟨s2, e2⟩ ⟨rfl, c, hc, rfl⟩
          have hc' : z.cps.toList[i]? = some c := by rw [Array.getElem?_toList]; exact hc
          refine ⟨rfl, _, rfl, c, letters, rfl, rfl, _, rfl, iteN (fun h3 => ?_) (fun h3 => ?_)⟩
          · have h3' := of_decide_eq_false h3
            refine ⟨_, rfl, lc_put (R := fun H' => Same H H') (acc := fun i => badS letters.cps.toList (z.cps.toList.take i)) (fun _ _ => same_putD hD) s2 e2 ?_ ?_⟩
            · refine Nat.lt_of_le_of_lt (badS_len _ _) ?_
              rw [List.length_take, ← slen]
              exact big8 (by omega)
            · show badS _ (z.cps.toList.take (i + 1)) = _
              rw [badS_more hc', if_neg h3']
          · refine ⟨s2, ?_⟩
            rw [e2, badS_more hc', if_pos (of_decide_eq_true h3), List.append_nil]
        · rintro H2 ⟨s2, e2⟩
          refine ⟨Nat.zero_le _, fun p np => ?_⟩
          have s3 := same_upd (o := .lst []) np
          refine ⟨D, p, _, rfl, rfl, SqL.of (s3 _ _ e2), SqL.of upd_same, ?_⟩
          have e : isWordB z = decide (badS letters.cps.toList (z.cps.toList.take z.cps.size) = []) := by
            rw [badS_nil, List.take_of_length_le (by simp)]
            unfold isWordB
            rw [decide_eq_true (show 1 ≤ z.length by omega), decide_eq_true (show z.length ≤ 8 by omega)]
            rfl
          have kk := k _ (s2.trans s3)
          rw [e] at kk
          exact kk
      · have e : isWordB z = false := by
          unfold isWordB
          rw [decide_eq_false (show ¬ z.length ≤ 8 by omega), Bool.and_false, Bool.false_and]
        have kk := k _ (Same.refl _)
        rw [e] at kk
        exact kk
    · have e : isWordB z = false := by
        unfold isWordB
        rw [decide_eq_false (show ¬ 1 ≤ z.length by omega), Bool.false_and, Bool.false_and]
      refine ⟨false, rfl, iteF ?_⟩
      have kk := k _ (Same.refl _)
      rw [e] at kk
      exact kk
def spLNum : Sp := fun vs H Q _ => ∃ z : Str, vs = [.str z] ∧ z.length ≤ sizeLine ∧ ∀ H', Same H H' → Q (.bl (isNumT z)) H'
theorem sc_lnum : FnScope ["_law_word", "_law_sign"] ["_law_word"] (defScope s_lnum) := ⟨rfl, rfl, rfl, by decide +kernel, rfl, by decide +kernel, by decide +kernel⟩
theorem ok_lnum (X : Tx mg) (F : Fun K "_law_is_number" "_law_is_number" s_lnum f fd0) : FnOk P w K mg base CX0 1 f fd0 ["_law_word"] spLNum := by
  refine F.ok sc_lnum (fun vs H Q E h => ?_) (fun cdv A outer s H vs Q E hr h => ?_)
  · obtain ⟨z, rfl, _⟩ := h
    rfl
  · obtain ⟨z, rfl, hz, k⟩ := h
    have nd := sc_lnum.nd
    refine ⟨_, pss_cons (ps_if (PW.pt (pw_or (pt_not (pt_chain op_le op_le pe_int (pe_callB call_len_str (by rfl) (X.b "len") PySem.boot_len (pa_cons (pv 0) pa_nil)) pe_int))
        (pw_or1 (pt_cmpR (op_neNil hr.units0) (pe_lc (own := [("_law_sign", 1)]) (g := gName 1) rfl nd (pi_str (pv 0)) (blkOk_by (N := ["_law_word", "_law_sign"]) (sc := defScope s_lnum) (by decide +kernel)) (fun _ _ _ _ _ => pg_name (i := 1) nd rfl (Or.inl rfl)) (fun _ _ _ _ _ => pts_one (pt_cmpR op_notIn_sign (pv 1) pe_str rfl))
        (fun _ _ _ _ _ => pv 1)) (pe_lst pa_nil) (nomark _))))) (pss_one (ps_ret pe_bl)) pss_nil)
      (pss_one (ps_ret (pe_or (pe_cmpR op_eq (pe_callB call_len_str (by rfl) (X.b "len") PySem.boot_len (pa_cons (pv 0) pa_nil)) pe_int (nomark _)) (pe_one (pe_cmpR op_ne (pe_ix ix_str (pv 0) pe_int (fun _ _ => rfl)) pe_str (nomark _)))))), ?_⟩
    have no : isNumT z = false → ∀ H', Same H H' → Q (.bl false) H' := fun e H' s' => by
      have r := k H' s'
      rw [e] at r
      exact r
    refine ⟨_, rfl, _, rfl, hz, _, _, rfl, rfl, _, rfl, ited (fun h1 => ?_) (fun h1 => ?_)⟩
    · refine ⟨_, _, rfl, rfl, _, rfl, ?_⟩
      show if (!decide ((z.length : Int) ≤ 4)) = true then _ else _
      refine iteN (fun h4 => ?_) (fun h4 => ?_)
      · refine iteT (no ?_ _ (Same.refl _))
        have h4' := of_decide_eq_false h4
        unfold isNumT
        rw [decide_eq_false (show ¬ z.length ≤ 4 by omega), Bool.and_false, Bool.false_and, Bool.false_and]
      have h4' := of_decide_eq_true h4
      refine ⟨_, rfl, z, rfl, fun D hD => ?_⟩
      refine lc_it walk_str (fun i H' => Same H H' ∧ H' D = some (.lst (badS figs.cps.toList (z.cps.toList.take i)))) ⟨same_upd hD, upd_same⟩ (fun _ _ _ _ => True.intro) ?_ ?_
      · rintro i x H2 H3 hi ⟨s2, e2⟩ ⟨rfl, c, hc, rfl⟩
        have hc' : z.cps.toList[i]? = some c := by rw [Array.getElem?_toList]; exact hc
        refine ⟨rfl, _, rfl, c, figs, rfl, rfl, _, rfl, iteN (fun h3 => ?_) (fun h3 => ?_)⟩
        · have h3' := of_decide_eq_false h3
          refine ⟨_, rfl, lc_put (R := fun H' => Same H H') (acc := fun i => badS figs.cps.toList (z.cps.toList.take i)) (fun _ _ => same_putD hD) s2 e2 ?_ ?_⟩
          · refine Nat.lt_of_le_of_lt (badS_len _ _) ?_
            rw [List.length_take, ← slen]
            exact big8 (by omega)
          · show badS _ (z.cps.toList.take (i + 1)) = _
            rw [badS_more hc', if_neg h3']
        · refine ⟨s2, ?_⟩
          rw [e2, badS_more hc', if_pos (of_decide_eq_true h3), List.append_nil]
      rintro H2 ⟨s2, e2⟩
      refine ⟨Nat.zero_le _, fun p np => ?_⟩
      have s3 := same_upd (o := .lst []) np
      refine ⟨D, p, _, rfl, rfl, SqL.of (s3 _ _ e2), SqL.of upd_same, _, rfl, ?_⟩
      have ea : decide (badS figs.cps.toList (z.cps.toList.take z.cps.size) = []) = allFigs z := by
        rw [badS_nil, List.take_of_length_le (by simp)]
        rfl
      show if (!decide (badS figs.cps.toList (z.cps.toList.take z.cps.size) = [])) = true then _ else _
      rw [ea]
      have s23 := s2.trans s3
      refine iteN (fun h5 => no ?_ _ s23) (fun h5 => ?_)
      · unfold isNumT
        rw [h5, Bool.and_false, Bool.false_and]
      have e0 : isNumT z = (decide (z.length = 1) || !decide (z.cps.toList[0]? = some 48)) := by
        unfold isNumT
        rw [h5, decide_eq_true (show 1 ≤ z.length by omega), decide_eq_true (show z.length ≤ 4 by omega)]
        rfl
      have kk := k _ s23
      rw [e0] at kk
      refine ⟨_, rfl, z, rfl, hz, rfl, _, rfl, ?_⟩
      show if decide (V.int (z.length : Int) = V.int 1) = true then _ else _
      refine ited (fun h6 => ?_) (fun h6 => ?_)
      · have h6' : z.length = 1 := by
          injection h6 with h6
          omega
        rw [decide_eq_true h6', Bool.true_or] at kk
        exact kk
      have h6' : ¬ z.length = 1 := fun e => h6 (by rw [e]; rfl)
      have hlt : 0 < z.cps.toList.length := by
        rw [← slen]
        omega
      have hc0 : z.cps.toList[0]? = some z.cps.toList[0] := List.getElem?_eq_getElem hlt
      refine ⟨_, rfl, z, 0, z.cps.toList[0], rfl, rfl, hz, atI_nat (j := 0) hc0, rfl, ?_⟩
      rw [decide_eq_false h6', Bool.false_or, hc0] at kk
      have e1 : decide (V.str ⟨#[z.cps.toList[0]]⟩ = V.str "0") = decide (some z.cps.toList[0] = some 48) := by
        rw [sign_zero]
        exact decide_eq_decide.mpr ⟨fun e => by rw [e], fun e => Option.some.inj e⟩
      show Q (.bl (!decide (V.str ⟨#[z.cps.toList[0]]⟩ = V.str "0"))) _
      rw [e1]
      exact kk
    · refine ⟨_, rfl, iteT (iteT (no ?_ _ (Same.refl _)))⟩
      unfold isNumT
      rw [decide_eq_false (show ¬ 1 ≤ z.length by omega), Bool.false_and, Bool.false_and, Bool.false_and]
def spAt (K : PySem.W.Frag) : Sp := fun vs H Q _ => ∃ (a : Addr) (ws : List Str) (k : Nat), vs = [.ref a, .int k] ∧ SqL K H a (ws.map V.str) ∧ Q (.str (at_ ws k)) H
theorem sc_lat : FnScope ["_law_words", "_law_k"] ["_law_words", "_law_k"] (defScope s_lat) := ⟨rfl, rfl, rfl, by decide +kernel, rfl, by decide +kernel, by decide +kernel⟩
theorem ok_lat (X : Tx mg) (F : Fun K "_law_at" "_law_at" s_lat f fd0) : FnOk P w K mg base CX0 1 f fd0 ["_law_words", "_law_k"] (spAt K) := by
  refine F.ok sc_lat (fun vs H Q E h => ?_) (fun cdv A outer s H vs Q E hr h => ?_)
  · obtain ⟨a, ws, k, rfl, _⟩ := h
    rfl
  · obtain ⟨a, ws, k, rfl, ha, q⟩ := h
    refine ⟨_, pss_one (ps_ret (pe_ifExp (pt_cmpR op_lt (pv 1) (pe_callB call_len_seq (by rfl) (X.b "len") PySem.boot_len (pa_cons (pv 0) pa_nil)) (nomark _)) (pe_ix ix_list (pv 0) (pv 1) (fun _ _ => rfl)) pe_str)), ?_⟩
    refine ⟨_, rfl, _, rfl, a, _, rfl, .inl ha, _, _, rfl, rfl, _, rfl, ?_⟩
    rw [List.length_map]
    refine ited (fun h1 => ?_) (fun h1 => ?_)
    · exact ⟨_, rfl, _, rfl, a, _, _, _, rfl, rfl, ha, atI_nat (at_get (by omega)), q⟩
    · rw [at_no (by omega)] at q
      exact q
theorem sc_lpath : FnScope ["_law_word", "_law_most", "_law_names", "_law_name"] ["_law_word", "_law_most"] (defScope s_lpath) := ⟨rfl, rfl, rfl, by decide +kernel, rfl, by decide +kernel, by decide +kernel⟩
def badW (l : List Str) : List V := (l.filter fun z => !isWordB z).map V.str
theorem badW_more {l : List Str} {i : Nat} {z : Str} (h : l[i]? = some z) : badW (l.take (i + 1)) = badW (l.take i) ++ (if isWordB z = true then [] else [V.str z]) := by
  unfold badW
  rw [take_more h, List.filter_append, List.map_append]
  congr 1
  by_cases e : isWordB z = true
  · rw [if_pos e, List.filter_cons_of_neg (by rw [e]; decide)]
    rfl
  · rw [if_neg e, List.filter_cons_of_pos (by simpa using e)]
    rfl
theorem badW_len (l : List Str) : (badW l).length ≤ l.length := by
  unfold badW
  rw [List.length_map]
  exact List.length_filter_le _ _
theorem badW_nil (l : List Str) : decide (badW l = []) = l.all isWordB := by
  unfold badW
  by_cases h : ∀ c ∈ l, isWordB c = true
  · rw [decide_eq_true, List.all_eq_true.mpr h]
    rw [List.map_eq_nil_iff, List.filter_eq_nil_iff]
    intro c hc
    rw [h c hc]
    decide
  · have h2 : ∃ c ∈ l, isWordB c = false := by
      simpa using h
    obtain ⟨c, hc, hn⟩ := h2
    rw [decide_eq_false, Eq.comm]
    · exact List.all_eq_false.mpr ⟨c, hc, by rw [hn]; decide⟩
    · intro z
      rw [List.map_eq_nil_iff, List.filter_eq_nil_iff] at z
      exact absurd (z c hc) (by rw [hn]; decide)
theorem ok_lpath (X : Tx mg) (cW : Ca CX0 P w K mg base 1 "_law_is_word" ["_law_word"] spWord) (F : Fun K "_law_path_in" "_law_path_in" s_lpath f fd0) : FnOk P w K mg base CX0 2 f fd0 ["_law_word", "_law_most"] spPathIn := by
  refine F.ok sc_lpath (fun vs H Q E h => ?_) (fun cdv A outer s H vs Q E hr h => ?_)
  · obtain ⟨z, m, rfl, _⟩ := h
    rfl
  · obtain ⟨z, m, rfl, hz, q1, q2⟩ := h
    have nd := sc_lpath.nd
    refine ⟨_, pss_cons (ps_if (pt_cmpR op_eq (pv 0) pe_str (nomark _)) (pss_one (ps_ret (pe_tup pa_nil))) pss_nil)
      (pss_cons (ps_set (i := 2) nd rfl (Or.inl rfl) (pe_split (pv 0) pe_str))
      (pss_one (ps_ret (pe_ifExp (PW.pt (pw_and (pt_cmpR op_le (pe_callB call_len_seq (by rfl) (X.b "len") PySem.boot_len (pa_cons (pv 2) pa_nil)) (pv 1) (nomark _)) (pw_and1 (pt_cmpR (op_eqNil hr.units0) (pe_lc (own := [("_law_name", 3)]) (g := gName 3) rfl nd (pi_list (pv 2))
          (blkOk_by (N := ["_law_word", "_law_most", "_law_names", "_law_name"]) (sc := defScope s_lpath) (by decide +kernel)) (fun _ _ _ _ _ => pg_name (i := 3) nd rfl (Or.inl rfl)) (fun _ _ _ _ _ => pts_one (pt_not (pt_val (pe_ca cW hr (by rfl) (pa_cons (pv 3) pa_nil))))) (fun _ _ _ _ _ => pv 3)) (pe_lst pa_nil) (nomark _)))))
        (pe_callTy call_tuple_of (by rfl) (X.b "tuple") (by decide +kernel) (pa_cons (pv 2) pa_nil)) pe_non)))), ?_⟩
    refine ⟨_, rfl, rfl, _, rfl, ited (fun h1 => ?_) (fun h1 => ?_)⟩
    · have e : z = sRoot := by injection h1
      refine ⟨Nat.zero_le _, fun p np => ?_⟩
      exact q2 [] (by unfold pathIn; rw [if_pos e]) _ p (same_upd np) np upd_same
    have e : ¬ z = sRoot := fun e => h1 (by rw [e])
    have lsl : sSl.length = 1 := by decide +kernel
    have pe : pathIn z m = if (decide ((Txt.split z sSl).length ≤ m) && (Txt.split z sSl).all isWordB) = true then some (Txt.split z sSl) else none := by
      unfold pathIn
      rw [if_neg e]
    rw [pe] at q1 q2
    have ns := split_le1 z sSl (by omega)
    have zpos := split_pos z sSl
    refine ⟨_, rfl, ⟨_, rfl⟩, z, sSl, rfl, rfl, (by decide +kernel), hz, fun p np => ?_⟩
    have s1 := same_upd (o := .lst ((Txt.split z sSl).map V.str)) np
    generalize Txt.split z sSl = zs at *
    have hp : upd H p (.lst (zs.map V.str)) p = some (.lst (zs.map V.str)) := upd_same
    refine ⟨_, rfl, p, _, rfl, .inl (SqL.of hp), _, rfl, _, _, rfl, rfl, _, rfl, ?_⟩
    rw [List.length_map]
    refine ited (fun h2 => ?_) (fun h2 => ?_)
    · refine ⟨_, rfl, p, rfl, ⟨_, SqL.of hp⟩, fun D hD => ?_⟩
      refine lc_it (walk_list (K := K) (a := p) (xs := zs.map V.str)) (fun i H' => Same (upd H p (.lst (zs.map V.str))) H' ∧ H' D = some (.lst (badW (zs.take i)))) ⟨same_upd hD, upd_same⟩ (fun i H' _ q => SqL.of (q.1 _ _ hp)) ?_ ?_
      · rintro i x H2 H3 hi ⟨s2, e2⟩ ⟨rfl, hx⟩
        obtain ⟨y, hy, rfl⟩ := map_at hx
        have ly := ns.2 y (List.mem_of_getElem? hy)
        refine ⟨rfl, _, rfl, y, rfl, by omega, fun H4 s4 => ⟨_, rfl, iteN (fun h3 => ?_) (fun h3 => ?_)⟩⟩
        · refine ⟨_, rfl, lc_put (R := fun H' => Same (upd H p (.lst (zs.map V.str))) H') (acc := fun i => badW (zs.take i)) (fun _ _ => same_putD hD) (s2.trans s4) (s4 _ _ e2) ?_ ?_⟩
          · refine Nat.lt_of_le_of_lt (badW_len _) ?_
            rw [List.length_take]
            omega
          · show badW (zs.take (i + 1)) = _
            rw [badW_more hy, if_neg (by rw [h3]; decide)]
        · refine ⟨s2.trans s4, ?_⟩
          rw [s4 _ _ e2, badW_more hy, if_pos h3, List.append_nil]
      rintro H2 ⟨s2, e2⟩
      refine ⟨Nat.zero_le _, fun p3 np3 => ?_⟩
      have s3 := same_upd (o := .lst []) np3
      refine ⟨D, p3, _, rfl, rfl, SqL.of (s3 _ _ e2), SqL.of upd_same, _, rfl, ?_⟩
      have h2' : zs.length ≤ m := by omega
      show if decide (badW (zs.take (zs.map V.str).length) = []) = true then _ else _
      rw [badW_nil, List.length_map, List.take_length]
      have s23 := s2.trans s3
      refine itek (fun h3 => ?_) (fun h3 => ?_)
      · refine ⟨_, rfl, p, _, rfl, .inl ⟨SqL.of (s23 _ _ hp), fun p2 np2 => ?_⟩⟩
        refine q2 zs (by rw [decide_eq_true h2', h3]; rfl) _ p2 ((s1.trans s23).upd np2) ((s1.trans s23).free np2) upd_same
      · exact q1 (by rw [h3, Bool.and_false]; rfl) _ (s1.trans s23)
    · exact q1 (by rw [decide_eq_false (show ¬ zs.length ≤ m by omega), Bool.false_and]; rfl) _ s1
end
end KD19
end L2
set_option Elab.async false
set_option linter.all false
set_option maxRecDepth 100000
set_option maxHeartbeats 4000000
/-! k92: _law_wrong -/
namespace L2
namespace KD20
open PySem PySem.Spec PyProof.Rows LamX NdefX KB KN KH KL KM KX KD1 KD2 KD3 KD4 KD5 KD6 KD7 KMa KD8 KD9 KD10 KD11 KD12 KD13 KD14 KD15 KMb KD16 KMc KD18 KD19
abbrev s_lwrong : Stmt := top 62
theorem le_lt : ∀ p q : Path, leP p q = !ltP q p
  | [], [] => rfl
  | [], _ :: _ => rfl
  | _ :: _, [] => rfl
  | x :: p, y :: q => by
    have ih := le_lt p q
    show (if x = y then leP p q else !ltS y x) = !(if y = x then ltP q p else ltS y x)
    by_cases e : x = y
    · rw [if_pos e, if_pos e.symm, ih]
    · rw [if_neg e, if_neg (Ne.symm e)]
abbrev qF : Str := "folders"
abbrev qL : Str := "last"
abbrev qN : Str := "number"
theorem q_fl : ¬ qF = qL := by decide +kernel
theorem q_fn : ¬ qF = qN := by decide +kernel
theorem q_ln : ¬ qL = qN := by decide +kernel
def dsk (a b c : V) : List (Key × V) := [(.inr qF, a), (.inr qL, b), (.inr qN, c)]
theorem ir {a b : Str} (h : ¬ a = b) : ¬ ((.inr a : Key) = .inr b) := fun z => h (Sum.inr.inj z)
section
variable {a b c v : V}
theorem ds_f : valV (dsk a b c) (.inr qF) = some a := valV_pos rfl
theorem ds_l : valV (dsk a b c) (.inr qL) = some b := (valV_neg (ir q_fl)).trans (valV_pos rfl)
theorem ds_n : valV (dsk a b c) (.inr qN) = some c := (valV_neg (ir q_fn)).trans ((valV_neg (ir q_ln)).trans (valV_pos rfl))
theorem put_any {kvs : List (Key × V)} {k : Key} {v x : V} (h : valV kvs k = some x) : putK kvs k v = kvs.map fun kv => if kv.1 = k then (kv.1, v) else kv := by
  unfold putK
  rw [valV_any, h]
  rfl
theorem ds_pf : putK (dsk a b c) (.inr qF) v = dsk v b c := by
  rw [put_any ds_f]
  show [if (.inr qF : Key) = .inr qF then _ else _, if (.inr qL : Key) = .inr qF then _ else _, if (.inr qN : Key) = .inr qF then _ else _] = _
  rw [if_pos rfl, if_neg (ir (Ne.symm q_fl)), if_neg (ir (Ne.symm q_fn))]
  rfl
theorem ds_pl : putK (dsk a b c) (.inr qL) v = dsk a v c := by
  rw [put_any ds_l]
  show [if (.inr qF : Key) = .inr qL then _ else _, if (.inr qL : Key) = .inr qL then _ else _, if (.inr qN : Key) = .inr qL then _ else _] = _
  rw [if_pos rfl, if_neg (ir q_fl), if_neg (ir (Ne.symm q_ln))]
  rfl
theorem ds_pn : putK (dsk a b c) (.inr qN) v = dsk a b v := by
  rw [put_any ds_n]
  show [if (.inr qF : Key) = .inr qN then _ else _, if (.inr qL : Key) = .inr qN then _ else _, if (.inr qN : Key) = .inr qN then _ else _] = _
  rw [if_pos rfl, if_neg (ir q_fn), if_neg (ir q_ln)]
  rfl
end
/-- a list of paths -/
inductive LF (H : Hp) : List V → List Path → Prop where
  | nil : LF H [] []
  | cons {t : Addr} {p : Path} {vs : List V} {ps : List Path} : H t = some (.tup (p.map V.str)) → LF H vs ps → LF H (.ref t :: vs) (p :: ps)
theorem LF.keep {H H' : Hp} (k : TupK H H') : ∀ {vs : List V} {ps : List Path}, LF H vs ps → LF H' vs ps
  | _, _, .nil => .nil
  | _, _, .cons e r => .cons (k _ _ e) (r.keep k)
theorem LF.len {H : Hp} : ∀ {vs : List V} {ps : List Path}, LF H vs ps → vs.length = ps.length
  | _, _, .nil => rfl
  | _, _, .cons _ r => by
    show _ + 1 = _ + 1
    rw [LF.len r]
theorem LF.snoc {H : Hp} {t : Addr} {p : Path} (e : H t = some (.tup (p.map V.str))) : ∀ {vs : List V} {ps : List Path}, LF H vs ps → LF H (vs ++ [.ref t]) (ps ++ [p])
  | _, _, .nil => .cons e .nil
  | _, _, .cons e1 r => .cons e1 (r.snoc e)
def pathD (p : Path) : PyData := .tuple (p.map PyData.str)
theorem LF.dp {K : PySem.W.Frag} {H : Hp} : ∀ {vs : List V} {ps : List Path}, LF H vs ps → DpAll K H vs (ps.map pathD)
  | _, _, .nil => .nil
  | _, _, .cons e r => .cons (strsT (SqT.of e)) r.dp
theorem lay_paths : ∀ {ps : List Path}, (∀ p ∈ ps, ∀ s ∈ p, isWordB s = true) → PyData.canLayAll0 (ps.map pathD) = true
  | [], _ => rfl
  | p :: r, h => by
    show (PyData.canLayAll0 (p.map PyData.str) && PyData.canLayAll0 (r.map pathD)) = true
    rw [lay_paths fun q hq => h q (List.mem_cons_of_mem _ hq), lay_strs (h p List.mem_cons_self)]
    rfl
theorem depth_paths : ∀ ps : List Path, PyData.depthAll (ps.map pathD) ≤ 1
  | [] => by simp [PyData.depthAll]
  | p :: r => by
    have ih := depth_paths r
    simp [PyData.depthAll, pathD, PyData.depth, depth_strs, ih]
theorem shaped_paths {ps : List Path} (h : ∀ p ∈ ps, ∀ s ∈ p, isWordB s = true) : SeqAt.shaped (.list (ps.map pathD)) = true := by
  have h1 := depth_paths ps
  simp [SeqAt.shaped, PyData.canLay0, PyData.depth, lay_paths h]
  omega
theorem any_paths (p : Path) : ∀ ps : List Path, ((ps.map pathD).any fun z => PyData.eqv z (pathD p)) = decide (p ∈ ps)
  | [] => by simp
  | q :: r => by
    rw [List.map_cons, List.any_cons, any_paths p r]
    rw [show PyData.eqv (pathD q) (pathD p) = decide (q = p) from eqv_strs q p]
    by_cases e : q = p
    · simp [e]
    · have e' : ¬ p = q := fun z => e z.symm
      by_cases e2 : p ∈ r <;> simp [e, e', e2]
/-- the state of the law's reader at st -/
structure DS (H : Hp) (st : Addr) (s : RS) : Prop where
  ex : ∃ (fl la : Addr) (vs : List V), H st = some (.dK (dsk (.ref fl) (.ref la) (oV s.num))) ∧ H fl = some (.lst vs) ∧ LF H vs s.folders ∧ H la = some (.tup (s.last.map V.str))
  wf : ∀ p ∈ s.folders, ∀ x ∈ p, isWordB x = true
  wl : ∀ x ∈ s.last, isWordB x = true
  sz : s.folders.length < 8000000
theorem DS.same {H H' : Hp} {st : Addr} {s : RS} (d : DS H st s) (h : Same H H') : DS H' st s := by
  obtain ⟨fl, la, vs, e1, e2, e3, e4⟩ := d.ex
  exact ⟨⟨fl, la, vs, h _ _ e1, h _ _ e2, e3.keep (tupK_same h), h _ _ e4⟩, d.wf, d.wl, d.sz⟩
theorem tif_listsL {b : Bool} {σ : L2.St} {H1 : Hp} {ta tb : TE} {Q : VK} (R : Hp → Addr → Prop) (ha : b = true → ∀ Q : VK, (∀ H2 p, R H2 p → Q (.ref p) H2) → ta σ H1 Q) (hb : b = false → ∀ Q : VK, (∀ H2 p, R H2 p → Q (.ref p) H2) → tb σ H1 Q)
    (k : ∀ H2 p, R H2 p → Q (.ref p) H2) : if b = true then ta σ H1 Q else tb σ H1 Q := by
  cases b with
  | true => exact iteT (ha rfl Q k)
  | false => exact iteF (hb rfl Q k)
theorem tif_val {b : Bool} {σ : L2.St} {H1 : Hp} {ta tb : TE} {Q : VK} (v : V) (ha : b = true → ∀ Q : VK, Q v H1 → ta σ H1 Q) (hb : b = false → ∀ Q : VK, Q v H1 → tb σ H1 Q) (k : Q v H1) : if b = true then ta σ H1 Q else tb σ H1 Q := by
  cases b with
  | true => exact iteT (ha rfl Q k)
  | false => exact iteF (hb rfl Q k)
theorem oV_non {o : Option Int} : decide (oV o = .non) = decide (o = none) := by
  cases o with
  | none => rfl
  | some n => rfl
def kindsL (s : RS) : List Str := if s.num = none then [sFile, sFolder, sWord] else [sWord]
theorem kindsL_in (s : RS) (ws : List Str) : at_ ws 0 ∈ kindsL s ↔ ¬ badK s ws := by
  unfold badK kindsL
  rw [Classical.not_not]
  cases e : s.num with
  | none =>
    simp only [if_true]
    simp only [List.mem_cons, List.not_mem_nil, or_false, true_and]
    constructor
    · rintro (z | z | z)
      · exact .inr (.inl z)
      · exact .inr (.inr z)
      · exact .inl z
    · rintro (z | z | z)
      · exact .inr (.inr z)
      · exact .inl z
      · exact .inr (.inl z)
  | some n =>
    simp only [reduceCtorEq, if_false]
    simp only [List.mem_cons, List.not_mem_nil, or_false, false_and]
theorem numIn_iff {z : Str} : isNumT z = true → numIn z = some (valT z) ∧ PySem.intText? z = some (valT z) ∧ z.length ≤ 640 := fun h => by
  have e := numIn_of h
  obtain ⟨e1, e2, _⟩ := numIn_some e
  exact ⟨e, e1, by omega⟩
theorem bt1 {st : Addr} {H H' : Hp} (s : Same H H') : Bt [st] H H' := bt_same s
section
variable {P : Program} {w : World} {K : PySem.W.Frag} {mg : Str → Option Value} {base : Heap} {f : Addr} {fd0 : FuncData}
def spWrong (K : PySem.W.Frag) : Sp := fun vs H Q _ => ∃ (a st : Addr) (ws : List Str) (s : RS), vs = [.ref a, .ref st] ∧ SqL K H a (ws.map V.str) ∧ a ≠ st ∧ 0 < ws.length ∧ Wds ws ∧ DS H st s ∧ s.folders.length + 1 < 8000000 ∧
  (∀ e, stepA s ws = .error e → ∀ H', Bt [st] H H' → Q (.int (e : Nat)) H') ∧ ∀ ev s', stepA s ws = .ok (ev, s') → ∀ H', DS H' st s' → Bt [st] H H' → Q .non H'
theorem sc_lwrong : FnScope ["_law_words", "_law_state", "_law_kinds", "_law_last", "_law_path"] ["_law_words", "_law_state"] (defScope s_lwrong) := ⟨rfl, rfl, rfl, by decide +kernel, rfl, by decide +kernel, by decide +kernel⟩
theorem ok_lwrong (X : Tx mg) (cW : Ca CX0 P w K mg base 1 "_law_is_word" ["_law_word"] spWord) (cN : Ca CX0 P w K mg base 1 "_law_is_number" ["_law_word"] spLNum) (cA : Ca CX0 P w K mg base 1 "_law_at" ["_law_words", "_law_k"] (spAt K)) (cP : Ca CX0 P w K mg base 2 "_law_path_in" ["_law_word", "_law_most"] spPathIn)
    (F : Fun K "_law_wrong" "_law_wrong" s_lwrong f fd0) : FnOk P w K mg base CX0 3 f fd0 ["_law_words", "_law_state"] (spWrong K) := by
  refine F.ok sc_lwrong (fun vs H Q E h => ?_) (fun cdv A outer s0 H vs Q E hr h => ?_)
  · obtain ⟨a, st, ws, s, rfl, _⟩ := h
    rfl
  · obtain ⟨a, st, ws, s, rfl, ha, nast, hpos, hw, hd, hz, q1, q2⟩ := h
    have hr1 : Room 1 _ := hr.mono (by decide)
    have hr2 : Room 2 _ := hr.mono (by decide)
    have hu := hu_of hr
    have hu65 : (A.deeper (envOfC "_law_wrong" (defScope s_lwrong) s0.heap.objs.size f cdv)).units + 65 < cLine := by
      have := hr.un
      omega
    have nd := sc_lwrong.nd
    refine ⟨_, pss_cons (ps_set (i := 2) nd rfl (Or.inl rfl) (pe_ifExp (pt_cmpR op_isN (pe_dget hu (pv 1) pe_str (fun _ _ => rfl)) pe_non (nomark _)) (pe_lst (pa_cons pe_str (pa_cons pe_str (pa_cons pe_str pa_nil)))) (pe_lst (pa_cons pe_str pa_nil))))
      (pss_cons (ps_if (pt_cmpR op_notIn_seq (pe_ix ix_list (pv 0) pe_int (fun _ _ => rfl)) (pv 2) rfl) (pss_one (ps_ret pe_int)) pss_nil)
      (pss_cons (ps_if (pt_cmpR op_eq (pe_ix ix_list (pv 0) pe_int (fun _ _ => rfl)) pe_str (nomark _))
        (pss_cons (ps_set (i := 3) nd rfl (Or.inl rfl) (pe_ifExp (pt_cmpR op_isN (pe_dget hu (pv 1) pe_str (fun _ _ => rfl)) pe_non (nomark _)) (pe_un un_neg pe_int) (pe_dget hu (pv 1) pe_str (fun _ _ => rfl))))
        (pss_cons (ps_if (PW.pt (pw_or (pt_not (pt_val (pe_ca cN hr1 (by rfl) (pa_cons (pe_ca cA hr1 (by rfl) (pa_cons (pv 0) (pa_cons pe_int pa_nil))) pa_nil)))) (pw_or1 (pt_cmpR op_le (pe_callTy call_int_str (by rfl) (X.b "int") (by decide +kernel) (pa_cons (pe_ix ix_list (pv 0) pe_int (fun _ _ => rfl)) pa_nil)) (pv 3) (nomark _))))) (pss_one (ps_ret pe_int)) pss_nil)
        (pss_cons (ps_dput hu (pv 1) pe_str (pe_callTy call_int_str (by rfl) (X.b "int") (by decide +kernel) (pa_cons (pe_ix ix_list (pv 0) pe_int (fun _ _ => rfl)) pa_nil)) rfl)
        (pss_cons (ps_if (pt_not (pt_val (pe_ca cW hr1 (by rfl) (pa_cons (pe_ca cA hr1 (by rfl) (pa_cons (pv 0) (pa_cons pe_int pa_nil))) pa_nil)))) (pss_one (ps_ret pe_int)) pss_nil)
        (pss_one (ps_ret (pe_ifExp (pt_cmpR op_gt (pe_callB call_len_seq (by rfl) (X.b "len") PySem.boot_len (pa_cons (pv 0) pa_nil)) pe_int (nomark _)) pe_int pe_non)))))))
        pss_nil)
      (pss_cons (ps_set (i := 4) nd rfl (Or.inl rfl) (pe_ca cP hr2 (by rfl) (pa_cons (pe_ca cA hr1 (by rfl) (pa_cons (pv 0) (pa_cons pe_int pa_nil))) (pa_cons pe_int pa_nil))))
      (pss_cons (ps_if (PW.pt (pw_or (pt_cmpR (op_inTD hu65) (pv 4) (pe_tup (pa_cons pe_non (pa_cons (pe_tup pa_nil) pa_nil))) rfl) (pw_or (pt_cmpR (op_notInD hu65) (pe_slice sl_tupA (pv 4) po_none (po_some (pe_un un_neg pe_int))) (pe_dget hu (pv 1) pe_str (fun _ _ => rfl)) rfl)
        (pw_or1 (pt_cmpR (op_leS hr.units0) (pv 4) (pe_dget hu (pv 1) pe_str (fun _ _ => rfl)) (nomark _)))))) (pss_one (ps_ret pe_int)) pss_nil)
      (pss_cons (ps_dput hu (pv 1) pe_str (pv 4) rfl)
      (pss_cons (ps_if (pt_cmpR op_eq (pe_ix ix_list (pv 0) pe_int (fun _ _ => rfl)) pe_str (nomark _))
        (pss_cons (ps_dput hu (pv 1) pe_str (pe_op op_cat (pe_dget hu (pv 1) pe_str (fun _ _ => rfl)) (pe_lst (pa_cons (pv 4) pa_nil))) rfl)
        (pss_one (ps_ret (pe_ifExp (pt_cmpR op_gt (pe_callB call_len_seq (by rfl) (X.b "len") PySem.boot_len (pa_cons (pv 0) pa_nil)) pe_int (nomark _)) pe_int pe_non)))) pss_nil)
      (pss_cons (ps_if (pt_not (pt_val (pe_ca cN hr1 (by rfl) (pa_cons (pe_ca cA hr1 (by rfl) (pa_cons (pv 0) (pa_cons pe_int pa_nil))) pa_nil)))) (pss_one (ps_ret pe_int)) pss_nil)
      (pss_one (ps_ret (pe_ifExp (pt_cmpR op_gt (pe_callB call_len_seq (by rfl) (X.b "len") PySem.boot_len (pa_cons (pv 0) pa_nil)) pe_int (nomark _)) pe_int pe_non)))))))))), ?_⟩
    obtain ⟨fl, la, vs, d1, d2, d3, d4⟩ := hd.ex
    have dgN := DGet.k (k := .inr qN) d1
    rw [ds_n] at dgN
    refine ⟨_, rfl, st, _, rfl, dgN, rfl, _, rfl, ?_⟩
    rw [oV_non]
    refine tif_listsL (fun H2 p => Same H H2 ∧ H2 p = some (.lst ((kindsL s).map V.str))) (fun h Q2 k => ?_) (fun h Q2 k => ?_) (fun H1 kp ⟨s1, ek⟩ => ?_)
    · refine ⟨(by show 3 ≤ sizeLine; decide), fun p np => k _ p ⟨same_upd np, ?_⟩⟩
      rw [upd_same]
      unfold kindsL
      rw [if_pos (of_decide_eq_true h)]
      rfl
    · refine ⟨(by show 1 ≤ sizeLine; decide), fun p np => k _ p ⟨same_upd np, ?_⟩⟩
      rw [upd_same]
      unfold kindsL
      rw [if_neg (of_decide_eq_false h)]
      rfl
    have ha1 := s1.seq ha
    have d1' := s1 _ _ d1
    have d2' := s1 _ _ d2
    have d3' := d3.keep (tupK_same s1)
    have d4' := s1 _ _ d4
    refine ⟨_, rfl, a, _, _, _, rfl, rfl, ha1, atI_nat (at_get hpos), _, rfl, kp, _, rfl, .inl (SqL.of ek), rfl, flat_strs _, _, rfl, ?_⟩
    show if (!inV (V.str (at_ ws 0)) ((kindsL s).map V.str)) = true then _ else _
    rw [inV_strs]
    refine iteN (fun h0 => ?_) (fun h0 => ?_)
    · have hb : badK s ws := Classical.byContradiction fun z => of_decide_eq_false h0 ((kindsL_in s ws).mpr z)
      exact q1 0 (by rw [stepA_eq, if_pos hb]) H1 (bt1 s1)
    have nb := (kindsL_in s ws).mp (of_decide_eq_true h0)
    rw [stepA_eq, if_neg nb] at q1 q2
    refine ⟨_, rfl, a, _, _, _, rfl, rfl, ha1, atI_nat (at_get hpos), rfl, _, rfl, ?_⟩
    rw [dec_str]
    refine ited (fun hw0 => ?_) (fun hw0 => ?_)
    · -- word
      have tk : takeA s ws = match numIn (at_ ws 1) with
          | none => .error 1
          | some n => if n ≤ s.num.getD (-1) then .error 1 else if isWordB (at_ ws 2) = false then .error 2 else .ok (.word n (at_ ws 2), { s with num := some n }, 3) := by
        unfold takeA
        rw [if_pos hw0] <;> rfl
      have dgN1 := DGet.k (k := .inr qN) d1'
      rw [ds_n] at dgN1
      refine ⟨_, rfl, st, _, rfl, dgN1, rfl, _, rfl, ?_⟩
      rw [oV_non]
      refine tif_val (.int (s.num.getD (-1))) (fun h Q2 k => ?_) (fun h Q2 k => ?_) ?_
      · rw [of_decide_eq_true h] at k
        exact ⟨_, rfl, k⟩
      · refine ⟨_, rfl, st, _, rfl, dgN1, ?_⟩
        cases e : s.num with
        | none => exact absurd e (of_decide_eq_false h)
        | some n =>
          rw [e] at k
          exact k
      have w1 : (at_ ws 1).length ≤ sizeLine := by
        by_cases e : 1 < ws.length
        · have := wds_at hw e
          omega
        · rw [at_no e]
          exact Nat.zero_le _
      have w2 : (at_ ws 2).length ≤ sizeLine := by
        by_cases e : 2 < ws.length
        · have := wds_at hw e
          omega
        · rw [at_no e]
          exact Nat.zero_le _
      refine ⟨_, rfl, a, ws, 1, rfl, ha1, at_ ws 1, rfl, w1, fun H2 s2 => ⟨_, rfl, iteN (fun h1 => ?_) (fun h1 => ?_)⟩⟩
      · exact iteT (q1 1 (by rw [tk, numIn_no h1]) H2 (bt1 (s1.trans s2)))
      obtain ⟨n1, n2, n3⟩ := numIn_iff h1
      rw [n1] at tk
      replace tk : takeA s ws = if valT (at_ ws 1) ≤ s.num.getD (-1) then .error 1 else if isWordB (at_ ws 2) = false then .error 2 else .ok (.word (valT (at_ ws 1)) (at_ ws 2), { s with num := some (valT (at_ ws 1)) }, 3) := tk
      have l1 := num_lt n1
      refine ⟨_, rfl, a, _, _, _, rfl, rfl, s2.seq ha1, atI_nat (at_get l1), at_ ws 1, _, rfl, n2, n3, _, rfl, _, _, rfl, rfl, _, rfl, ?_⟩
      refine ited (fun h2 => ?_) (fun h2 => ?_)
      · exact q1 1 (by rw [tk, if_pos h2]) H2 (bt1 (s1.trans s2))
      rw [if_neg h2] at tk
      have dp := DPut.k (k := .inr qN) (v := .int (valT (at_ ws 1))) (s2 _ _ d1') (by show 3 < sizeLine; decide)
      rw [ds_pn] at dp
      refine ⟨_, rfl, a, _, _, _, rfl, rfl, s2.seq ha1, atI_nat (at_get l1), at_ ws 1, _, rfl, n2, n3, _, rfl, st, _, rfl, dp, ?_⟩
      have B3 : Bt [st] H (upd H2 st (.dK (dsk (.ref fl) (.ref la) (.int (valT (at_ ws 1)))))) := fun b o e hb => by
        rw [upd_ne (fun z => hb (by rw [z]; exact List.mem_cons_self))]
        exact s2 _ _ (s1 _ _ e)
      have ha3 : SqL K (upd H2 st (.dK (dsk (.ref fl) (.ref la) (.int (valT (at_ ws 1)))))) a (ws.map V.str) := by
        rcases s2.seq ha1 with (z | ⟨o, z⟩) | z
        · exact .inl (.inl ((upd_ne nast).trans z))
        · exact .inl (.inr ⟨o, (upd_ne nast).trans z⟩)
        · exact .inr z
      have D3 : DS (upd H2 st (.dK (dsk (.ref fl) (.ref la) (.int (valT (at_ ws 1)))))) st { s with num := some (valT (at_ ws 1)) } := by
        have hst := s2 _ _ d1'
        refine ⟨⟨fl, la, vs, upd_same, (upd_ne (ne_of (s2 _ _ d2') hst fun z => by cases z)).trans (s2 _ _ d2'), d3'.keep fun b xs e => (upd_ne (ne_of (s2 _ _ e) hst fun z => by cases z)).trans (s2 _ _ e), (upd_ne (ne_of (s2 _ _ d4') hst fun z => by cases z)).trans (s2 _ _ d4')⟩, hd.wf, hd.wl, hd.sz⟩
      generalize upd H2 st (.dK (dsk (.ref fl) (.ref la) (.int (valT (at_ ws 1))))) = H3 at *
      refine ⟨_, rfl, a, ws, 2, rfl, ha3, at_ ws 2, rfl, w2, fun H4 s4 => ⟨_, rfl, iteN (fun h3 => ?_) (fun h3 => ?_)⟩⟩
      · exact q1 2 (by rw [tk, if_pos h3]) H4 (B3.trans (bt_same (F := []) s4) fun x hx => by cases hx)
      rw [if_neg (by rw [h3]; decide)] at tk
      rw [tk] at q1 q2
      refine ⟨_, rfl, a, _, rfl, .inl (s4.seq ha3), _, _, rfl, rfl, _, rfl, ?_⟩
      rw [List.length_map]
      refine ited (fun h5 => ?_) (fun h5 => ?_)
      · exact q1 3 (if_pos (by omega)) H4 (B3.trans (bt_same (F := []) s4) fun x hx => by cases hx)
      · exact q2 _ _ (if_neg (by omega)) H4 (D3.same s4) (B3.trans (bt_same (F := []) s4) fun x hx => by cases hx)
    have tk : takeA s ws = match pathIn (at_ ws 1) 6 with
        | none => .error 1
        | some p => if p = [] ∨ p.dropLast ∉ s.folders ∨ ltP s.last p = false then .error 1 else
            if at_ ws 0 = sFolder then .ok (.folder p, { s with folders := s.folders ++ [p], last := p }, 2) else
            match numIn (at_ ws 2) with
            | none => .error 2
            | some n => .ok (.file p n, { s with last := p }, 3) := by
      unfold takeA
      rw [if_neg hw0] <;> rfl
    have w1 : (at_ ws 1).length + 2 ≤ sizeLine := by
      by_cases e : 1 < ws.length
      · exact wds_at hw e
      · rw [at_no e]
        show 2 ≤ sizeLine
        decide
    have w2 : (at_ ws 2).length ≤ sizeLine := by
      by_cases e : 2 < ws.length
      · have := wds_at hw e
        omega
      · rw [at_no e]
        exact Nat.zero_le _
    refine ⟨_, rfl, a, ws, 1, rfl, ha1, at_ ws 1, 6, rfl, w1, fun e H2 s2 => ?_, fun p e H2 t s2 nt et => ?_⟩
    · refine ⟨_, rfl, Nat.zero_le _, fun t1 nt1 => ⟨(by show 2 ≤ sizeLine; decide), fun t2 nt2 => ?_⟩⟩
      have s3 := same_upd (o := .tup []) nt1
      have s4 := same_upd (o := .tup [.non, .ref t1]) nt2
      refine ⟨.none, [.none, .tuple []], .non, .tup (SqT.of upd_same) (.cons .non (.cons (.tup (SqT.of (s4 _ _ upd_same)) .nil) .nil)), rfl, by decide, _, rfl, iteT (iteT ?_)⟩
      exact q1 1 (by rw [tk, e]) _ (bt1 (((s1.trans s2).trans s3).trans s4))
    rw [e] at tk
    have wp := (pathIn_words e).2
    refine ⟨_, rfl, Nat.zero_le _, fun t1 nt1 => ⟨(by show 2 ≤ sizeLine; decide), fun t2 nt2 => ?_⟩⟩
    have s3 := same_upd (o := .tup []) nt1
    have s4 := same_upd (o := .tup [.non, .ref t1]) nt2
    have et4 := s4 _ _ (s3 _ _ et)
    have S4 := ((s1.trans s2).trans s3).trans s4
    have hS4 := (s2.trans s3).trans s4
    refine ⟨pathD p, [.none, .tuple []], strsT (SqT.of et4), .tup (SqT.of upd_same) (.cons .non (.cons (.tup (SqT.of (s4 _ _ upd_same)) .nil) .nil)), shaped_strs wp, by decide, _, rfl, ?_⟩
    generalize upd (upd H2 t1 (.tup [])) t2 (.tup [.non, .ref t1]) = H4 at *
    have any2 : ([PyData.none, .tuple []].any fun z => PyData.eqv z (pathD p)) = decide (p = []) := by
      rw [List.any_cons, List.any_cons, List.any_nil]
      rw [show PyData.eqv (.tuple []) (pathD p) = decide ([] = p) from eqv_strs [] p, show PyData.eqv PyData.none (pathD p) = false from rfl]
      rw [Bool.false_or, Bool.or_false]
      exact decide_eq_decide.mpr ⟨fun z => z.symm, fun z => z.symm⟩
    rw [any2]
    have bad : ∀ H', (p = [] ∨ p.dropLast ∉ s.folders ∨ ltP s.last p = false) → Bt [st] H H' → Q (.int 1) H' := fun H' hb B => by
      refine q1 1 ?_ H' B
      have tk' := tk
      replace tk' : takeA s ws = .error 1 := tk'.trans (if_pos hb)
      rw [tk']
    refine ited (fun h1 => iteT (bad H4 (.inl h1) (bt1 S4))) (fun h1 => ?_)
    obtain ⟨c1, c2⟩ := cut_last (xs := p.map V.str) (fun z => h1 (List.map_eq_nil_iff.mp z))
    refine ⟨_, rfl, _, rfl, _, rfl, t, _, rfl, SqT.of et4, fun z => absurd z c2, fun _ t5 nt5 => ?_⟩
    have s5 := same_upd (o := .tup (cutV (p.map V.str) none (some (-1)))) nt5
    have e5 : upd H4 t5 (.tup (cutV (p.map V.str) none (some (-1)))) t5 = some (.tup (p.dropLast.map V.str)) := by
      rw [upd_same, c1, List.map_dropLast]
    have et5 := s5 _ _ et4
    have S5 := S4.trans s5
    have hS5 := hS4.trans s5
    generalize upd H4 t5 (.tup (cutV (p.map V.str) none (some (-1)))) = H5 at *
    have d1f := hS5 _ _ d1'
    have dgF := DGet.k (k := .inr qF) d1f
    rw [ds_f] at dgF
    have dgL := DGet.k (k := .inr qL) d1f
    rw [ds_l] at dgL
    have d2f := hS5 _ _ d2'
    have d3f := d3'.keep (tupK_same hS5)
    have d4f := hS5 _ _ d4'
    refine ⟨_, rfl, st, _, rfl, dgF, pathD p.dropLast, s.folders.map pathD, strsT (SqT.of e5), .lst (SqL.of d2f) d3f.dp, shaped_strs (fun x hx => wp x ((List.dropLast_sublist p).subset hx)), shaped_paths hd.wf, _, rfl, ?_⟩
    rw [any_paths]
    refine iteN (fun h2 => iteT (bad H5 (.inr (.inl (of_decide_eq_false h2))) (bt1 S5))) (fun h2 => ?_)
    refine ⟨_, rfl, _, rfl, st, _, rfl, dgL, t, la, p, s.last, rfl, rfl, SqT.of et5, SqT.of d4f, _, rfl, ?_⟩
    rw [le_lt]
    refine iteN (fun h3 => bad H5 (.inr (.inr h3)) (bt1 S5)) (fun h3 => ?_)
    have nbad : ¬ (p = [] ∨ p.dropLast ∉ s.folders ∨ ltP s.last p = false) := fun z => by
      rcases z with z | z | z
      · exact h1 z
      · exact z (of_decide_eq_true h2)
      · rw [h3] at z
        cases z
    replace tk := tk.trans (if_neg nbad)
    have dp := DPut.k (k := .inr qL) (v := .ref t) d1f (by show 3 < sizeLine; decide)
    rw [ds_pl] at dp
    refine ⟨_, rfl, _, rfl, st, _, rfl, dp, ?_⟩
    have B6 : Bt [st] H (upd H5 st (.dK (dsk (.ref fl) (.ref t) (oV s.num)))) := fun b o e hb => by
      rw [upd_ne (fun z => hb (by rw [z]; exact List.mem_cons_self))]
      exact S5 _ _ e
    have k6 : ∀ {b : Addr} {o : HO}, H5 b = some o → (∀ ks, o ≠ .dK ks) → upd H5 st (.dK (dsk (.ref fl) (.ref t) (oV s.num))) b = some o := fun {b o} e n => (upd_ne (ne_of e d1f fun z => n _ z)).trans e
    have ha6 : SqL K (upd H5 st (.dK (dsk (.ref fl) (.ref t) (oV s.num)))) a (ws.map V.str) := by
      rcases hS5.seq ha1 with (z | ⟨o, z⟩) | z
      · exact .inl (.inl ((upd_ne nast).trans z))
      · exact .inl (.inr ⟨o, (upd_ne nast).trans z⟩)
      · exact .inr z
    have e6 : upd H5 st (.dK (dsk (.ref fl) (.ref t) (oV s.num))) st = some (.dK (dsk (.ref fl) (.ref t) (oV s.num))) := upd_same
    have d2g := k6 d2f fun _ z => by cases z
    have d3g := d3f.keep fun b xs e => k6 e fun _ z => by cases z
    have et6 := k6 et5 fun _ z => by cases z
    generalize upd H5 st (.dK (dsk (.ref fl) (.ref t) (oV s.num))) = H6 at *
    refine ⟨_, rfl, a, _, _, _, rfl, rfl, ha6, atI_nat (at_get hpos), rfl, _, rfl, ?_⟩
    rw [dec_str]
    refine ited (fun h7 => ?_) (fun h7 => ?_)
    · -- a folder
      rw [if_pos h7] at tk
      rw [tk] at q1 q2
      have dgF6 := DGet.k (k := .inr qF) e6
      rw [ds_f] at dgF6
      refine ⟨_, rfl, st, _, rfl, dgF6, _, rfl, (by show 1 ≤ sizeLine; decide), fun l1 nl1 => ?_⟩
      have s7 := same_upd (o := .lst [.ref t]) nl1
      refine ⟨fl, l1, _, _, rfl, rfl, s7 _ _ d2g, upd_same, ?_, fun l2 nl2 => ?_⟩
      · rw [d3g.len]
        have := sizeLine_eq
        show s.folders.length + 1 ≤ sizeLine
        omega
      have s8 := same_upd (o := .lst (vs ++ [.ref t])) nl2
      have S68 := s7.trans s8
      have e8 := S68 _ _ e6
      have el2 : upd (upd H6 l1 (.lst [.ref t])) l2 (.lst (vs ++ [.ref t])) l2 = some (.lst (vs ++ [.ref t])) := upd_same
      have et8 := S68 _ _ et6
      have d3h := d3g.keep (tupK_same S68)
      have ha8 := S68.seq ha6
      have B8 := B6.trans (bt_same (F := []) S68) (fun x hx => by cases hx)
      generalize upd (upd H6 l1 (.lst [.ref t])) l2 (.lst (vs ++ [.ref t])) = H8 at *
      have dp2 := DPut.k (k := .inr qF) (v := .ref l2) e8 (by show 3 < sizeLine; decide)
      rw [ds_pf] at dp2
      refine ⟨_, rfl, st, _, rfl, dp2, ?_⟩
      have k9 : ∀ {b : Addr} {o : HO}, H8 b = some o → (∀ ks, o ≠ .dK ks) → upd H8 st (.dK (dsk (.ref l2) (.ref t) (oV s.num))) b = some o := fun {b o} e n => (upd_ne (ne_of e e8 fun z => n _ z)).trans e
      have B9 : Bt [st] H (upd H8 st (.dK (dsk (.ref l2) (.ref t) (oV s.num)))) := fun b o e hb => by
        rw [upd_ne (fun z => hb (by rw [z]; exact List.mem_cons_self))]
        exact B8 b o e hb
      have ha9 : SqL K (upd H8 st (.dK (dsk (.ref l2) (.ref t) (oV s.num)))) a (ws.map V.str) := by
        rcases ha8 with (z | ⟨o, z⟩) | z
        · exact .inl (.inl ((upd_ne nast).trans z))
        · exact .inl (.inr ⟨o, (upd_ne nast).trans z⟩)
        · exact .inr z
      have D9 : DS (upd H8 st (.dK (dsk (.ref l2) (.ref t) (oV s.num)))) st { s with folders := s.folders ++ [p], last := p } := by
        refine ⟨⟨l2, t, _, upd_same, k9 el2 (fun _ z => by cases z), LF.snoc (k9 et8 fun _ z => by cases z) (d3h.keep fun b xs e => k9 e fun _ z => by cases z), k9 et8 fun _ z => by cases z⟩, fun x hx => ?_, wp, ?_⟩
        · rcases List.mem_append.mp hx with hx | hx
          · exact hd.wf x hx
          · rw [List.mem_singleton.mp hx]
            exact wp
        · show (s.folders ++ [p]).length < 8000000
          rw [List.length_append]
          exact hz
      refine ⟨_, rfl, a, _, rfl, .inl ha9, _, _, rfl, rfl, _, rfl, ?_⟩
      rw [List.length_map]
      refine ited (fun h5 => ?_) (fun h5 => ?_)
      · exact q1 2 (if_pos (by omega)) _ B9
      · exact q2 _ _ (if_neg (by omega)) _ D9 B9
    · rw [if_neg h7] at tk
      have D6 : DS H6 st { s with last := p } := ⟨⟨fl, t, vs, e6, d2g, d3g, et6⟩, hd.wf, wp, hd.sz⟩
      refine ⟨_, rfl, a, ws, 2, rfl, ha6, at_ ws 2, rfl, w2, fun H7 s7 => ⟨_, rfl, iteN (fun h8 => ?_) (fun h8 => ?_)⟩⟩
      · rw [numIn_no h8] at tk
        exact q1 2 (by rw [tk]) H7 (B6.trans (bt_same (F := []) s7) fun x hx => by cases hx)
      rw [(numIn_iff h8).1] at tk
      rw [tk] at q1 q2
      refine ⟨_, rfl, a, _, rfl, .inl (s7.seq ha6), _, _, rfl, rfl, _, rfl, ?_⟩
      rw [List.length_map]
      refine ited (fun h5 => ?_) (fun h5 => ?_)
      · exact q1 3 (if_pos (by omega)) _ (B6.trans (bt_same (F := []) s7) fun x hx => by cases hx)
      · exact q2 _ _ (if_neg (by omega)) _ (D6.same s7) (B6.trans (bt_same (F := []) s7) fun x hx => by cases hx)
end
end KD20
end L2
set_option Elab.async false
set_option linter.all false
set_option maxRecDepth 100000
set_option maxHeartbeats 4000000
/-! k92: _law_folder_of -/
namespace L2
namespace KD21
open PySem PySem.Spec PyProof.Rows LamX NdefX KB KN KH KL KM KX KD1 KD2 KD3 KD4 KD5 KD6 KD7 KMa KD8 KD9 KD10 KD11 KD12 KD13 KD14 KD15 KMb KD16 KMc KD18 KD19 KD20
abbrev s_lfo : Stmt := top 63
/-- the rows of words -/
inductive RowsAt (H : Hp) : List V → List (List Str) → Prop where
  | nil : RowsAt H [] []
  | cons {b : Addr} {ws : List Str} {vs : List V} {l : List (List Str)} : H b = some (.lst (ws.map V.str)) → RowsAt H vs l → RowsAt H (.ref b :: vs) (ws :: l)
theorem RowsAt.keep {H H' : Hp} (k : ∀ b xs, H b = some (.lst xs) → H' b = some (.lst xs)) : ∀ {vs : List V} {l : List (List Str)}, RowsAt H vs l → RowsAt H' vs l
  | _, _, .nil => .nil
  | _, _, .cons e r => .cons (k _ _ e) (r.keep k)
theorem RowsAt.same {H H' : Hp} (s : Same H H') {vs : List V} {l : List (List Str)} (r : RowsAt H vs l) : RowsAt H' vs l := r.keep fun b xs e => s b _ e
theorem RowsAt.len {H : Hp} : ∀ {vs : List V} {l : List (List Str)}, RowsAt H vs l → vs.length = l.length
  | _, _, .nil => rfl
  | _, _, .cons _ r => by
    show _ + 1 = _ + 1
    rw [RowsAt.len r]
theorem RowsAt.at_ {H : Hp} : ∀ {vs : List V} {l : List (List Str)}, RowsAt H vs l → ∀ {i : Nat} {v : V}, vs[i]? = some v → ∃ (b : Addr) (ws : List Str), v = .ref b ∧ l[i]? = some ws ∧ H b = some (.lst (ws.map V.str))
  | _, _, .nil, i, v, h => by simp at h
  | _, _, @RowsAt.cons _ b ws _ _ e r, 0, v, h => by
    cases h
    exact ⟨b, ws, rfl, rfl, e⟩
  | _, _, .cons e r, i + 1, v, h => r.at_ (i := i) h
theorem RowsAt.snoc {H : Hp} {b : Addr} {ws : List Str} (e : H b = some (.lst (ws.map V.str))) : ∀ {vs : List V} {l : List (List Str)}, RowsAt H vs l → RowsAt H (vs ++ [.ref b]) (l ++ [ws])
  | _, _, .nil => .cons e .nil
  | _, _, .cons e1 r => .cons e1 (r.snoc e)
theorem paired_at {α β : Type} {R : α → β → Prop} {l : List α} {m : List β} (h : Paired R l m) : ∀ {i : Nat} {x : α}, l[i]? = some x → ∃ y, m[i]? = some y ∧ R x y := by
  induction h with
  | nil => intro i x h; simp at h
  | @cons a b l₁ l₂ r t ih =>
    intro i x hx
    cases i with
    | zero =>
      cases hx
      exact ⟨b, rfl, r⟩
    | succ i => exact ih hx
/-- the path of an event -/
def pathOfEv : Ev → Path
  | .file q _ => q
  | .folder q => q
  | .word _ _ => []
def numOfEv : Ev → Option Int
  | .file _ n => some n
  | _ => none
theorem ent_iff {ev : Ev} (h : EvOk ev) (p : Path) : entOf p ev = if (pathOfEv ev).length = p.length + 1 ∧ (pathOfEv ev).dropLast = p then some (lastOf (pathOfEv ev), numOfEv ev) else none := by
  have key : ∀ q : Path, q ≠ [] → ((q ≠ [] ∧ q.dropLast = p) ↔ (q.length = p.length + 1 ∧ q.dropLast = p)) := fun q hq => by
    have hl : 0 < q.length := List.length_pos_iff.mpr hq
    constructor
    · rintro ⟨_, e⟩
      refine ⟨?_, e⟩
      rw [← e, List.length_dropLast]
      omega
    · rintro ⟨_, e⟩
      exact ⟨hq, e⟩
  cases ev with
  | file q n =>
    have k := key q h.1.1
    show (if q ≠ [] ∧ q.dropLast = p then some (lastOf q, some n) else none) = (if q.length = p.length + 1 ∧ q.dropLast = p then some (lastOf q, some n) else none)
    by_cases c : q ≠ [] ∧ q.dropLast = p
    · rw [if_pos c, if_pos (k.mp c)]
    · rw [if_neg c, if_neg (fun z => c (k.mpr z))]
  | folder q =>
    have k := key q h.1
    show (if q ≠ [] ∧ q.dropLast = p then some (lastOf q, none) else none) = (if q.length = p.length + 1 ∧ q.dropLast = p then some (lastOf q, none) else none)
    by_cases c : q ≠ [] ∧ q.dropLast = p
    · rw [if_pos c, if_pos (k.mp c)]
    · rw [if_neg c, if_neg (fun z => c (k.mpr z))]
  | word n z =>
    rw [if_neg]
    · rfl
    · rintro ⟨e, _⟩
      exact absurd e (by show ¬ 0 = p.length + 1; omega)
section
variable {P : Program} {w : World} {K : PySem.W.Frag} {mg : Str → Option Value} {base : Heap} {f : Addr} {fd0 : FuncData} {k D : Nat}
def spFolderOf (D : Nat) : Sp := fun vs H Q _ => ∃ (ro t : Addr) (rs : List V) (all : List (List Str)) (evs : List Ev) (p : Path), vs = [.ref ro, .ref t] ∧ H ro = some (.lst rs) ∧ RowsAt H rs all ∧ (∀ ws ∈ all, Wds ws) ∧ all.length < 8000000 ∧ Paired (fun ws ev => EvOk ev ∧ RowOk ws ev) all evs ∧
  H t = some (.tup (p.map V.str)) ∧ (∀ s ∈ p, isWordB s = true) ∧ p.length ≤ 6 ∧ p.length + D = 7 ∧ ∀ H' v, Same H H' → NodeAt H' v (nodeE D evs p) → Q v H'
theorem sc_lfo : FnScope ["_law_rows", "_law_path", "_law_found", "_law_words", "_law_here", "_law_inner"] ["_law_rows", "_law_path"] (defScope s_lfo) := ⟨rfl, rfl, rfl, by decide +kernel, rfl, by decide +kernel, by decide +kernel⟩
theorem ok_lfo_step (X : Tx mg) (hk : 2 ≤ k) (cP : Ca CX0 P w K mg base 2 "_law_path_in" ["_law_word", "_law_most"] spPathIn) (cF : Ca CX0 P w K mg base k "_law_folder_of" ["_law_rows", "_law_path"] (spFolderOf D)) (F : Fun K "_law_folder_of" "_law_folder_of" s_lfo f fd0) :
    FnOk P w K mg base CX0 (k + 1) f fd0 ["_law_rows", "_law_path"] (spFolderOf (D + 1)) := by
  refine F.ok sc_lfo (fun vs H Q E h => ?_) (fun cdv A outer s H vs Q E hr h => ?_)
  · obtain ⟨ro, t, rs, all, evs, p, rfl, _⟩ := h
    rfl
  · obtain ⟨ro, t, rs, all, evs, p, rfl, hro, hrs, hw, hal, hpr, ht, hp, hp6, hD, q⟩ := h
    have hr2 : Room 2 _ := hr.mono hk
    have nd := sc_lfo.nd
    refine ⟨_, pss_cons (ps_set (i := 2) nd rfl (Or.inl rfl) (pe_lst pa_nil)) (pss_cons (ps_for PassesOwn.never rfl (pi_list (pv 0)) (pg_name (i := 3) nd rfl (Or.inl rfl))
      (pss_cons (ps_set (i := 4) nd rfl (Or.inl rfl) (pe_ifExp (pt_cmpR op_ne (pe_ix ix_list (pv 3) pe_int (fun _ _ => rfl)) pe_str (nomark _)) (pe_ca cP hr2 (by rfl) (pa_cons (pe_ix ix_list (pv 3) pe_int (fun _ _ => rfl)) (pa_cons pe_int pa_nil))) (pe_tup pa_nil)))
      (pss_one (ps_if (PW.pt (pw_and (pt_cmpR op_eq (pe_callB call_len_seq (by rfl) (X.b "len") PySem.boot_len (pa_cons (pv 4) pa_nil)) (pe_op op_add (pe_callB call_len_seq (by rfl) (X.b "len") PySem.boot_len (pa_cons (pv 1) pa_nil)) pe_int) (nomark _))
          (pw_and1 (pt_cmpR (op_eqD hr.units) (pe_slice sl_tupA (pv 4) po_none (po_some (pe_un un_neg pe_int))) (pv 1) (nomark _)))))
        (pss_cons (ps_set (i := 5) nd rfl (Or.inl rfl) (pe_ifExp (pt_cmpR op_eq (pe_ix ix_list (pv 3) pe_int (fun _ _ => rfl)) pe_str (nomark _)) (pe_tup (pa_cons pe_str (pa_cons (pe_callTy call_int_str (by rfl) (X.b "int") (by decide +kernel) (pa_cons (pe_ix ix_list (pv 3) pe_int (fun _ _ => rfl)) pa_nil)) pa_nil)))
          (pe_ca cF hr (by rfl) (pa_cons (pv 0) (pa_cons (pv 4) pa_nil)))))
        (pss_one (ps_expr (pe_bm PySem.F.plainAttrs_list PySem.F.slot_list_append PySem.F.type_list_append mt_append (pv 2) (pa_cons (pe_tup (pa_cons (pe_ix ix_tup (pv 4) (pe_un un_neg pe_int) (fun _ _ => rfl)) (pa_cons (pv 5) pa_nil))) pa_nil))))) pss_nil))))
      (pss_one (ps_ret (pe_tup (pa_cons pe_str (pa_cons (pe_callTy call_tuple_of (by rfl) (X.b "tuple") (by decide +kernel) (pa_cons (pv 2) pa_nil)) pa_nil)))))), ?_⟩
    refine ⟨Nat.zero_le _, fun lp nlp => ?_⟩
    have s1 := same_upd (o := .lst []) nlp
    refine ⟨_, rfl, ro, rfl, ⟨_, SqL.of (s1 _ _ hro)⟩, ?_⟩
    refine for_it (walk_list (K := K) (a := ro) (xs := rs)) (fun i σ H' => ∃ (x3 x4 x5 : Option V) (us : List V), σ = [some (.ref ro), some (.ref t), some (.ref lp), x3, x4, x5] ∧ Same H H' ∧ H' lp = some (.lst us) ∧ EntsAt H' us (Ents.ofList ((entsR (evs.take i) p).map (stepE D evs p))) ∧ us.length ≤ i)
      ⟨none, none, none, [], rfl, s1, upd_same, .nil, Nat.le_refl _⟩ (fun i σ H' _ ⟨_, _, _, _, _, s2, _⟩ => SqL.of (s2 _ _ hro)) ?_ ?_
    · rintro i x σ H2 H3 hi ⟨x3, x4, x5, us, rfl, s2, e2, a2, n2⟩ ⟨rfl, hx⟩
      obtain ⟨b, ws, rfl, hws, hb⟩ := hrs.at_ hx
      obtain ⟨ev, hev, evok, row⟩ := paired_at hpr hws
      have hwd := hw ws (List.mem_of_getElem? hws)
      have hb2 := s2 _ _ hb
      have w0 : 0 < ws.length := by
        cases ev with
        | file q n => exact Nat.lt_of_le_of_lt (Nat.zero_le _) row.2.1
        | folder q => exact Nat.lt_of_le_of_lt (Nat.zero_le _) row.2.1
        | word n z => exact Nat.lt_of_le_of_lt (Nat.zero_le _) row.2.1
      have more : entsR (evs.take (i + 1)) p = entsR (evs.take i) p ++ (entOf p ev).toList := by
        rw [take_more hev, ents_snoc]
      refine ⟨_, rfl, b, _, _, _, rfl, rfl, SqL.of hb2, atI_nat (at_get w0), rfl, _, rfl, ?_⟩
      rw [dec_str]
      refine tif_listsL (fun H4 h => Same H3 H4 ∧ H4 h = some (.tup ((pathOfEv ev).map V.str))) (fun hc Q2 k2 => ?_) (fun hc Q2 k2 => ?_) (fun H4 hh ⟨s4, eh⟩ => ?_)
      · have hne : ¬ at_ ws 0 = sWord := by
          have z : (!decide (at_ ws 0 = sWord)) = true := hc
          simpa using z
        obtain ⟨q, hq1, hq2, hq3⟩ : ∃ q, pathOfEv ev = q ∧ 1 < ws.length ∧ pathIn (at_ ws 1) 6 = some q := by
          cases ev with
          | file q n => exact ⟨q, rfl, by have := row.2.1; omega, row.2.2.1⟩
          | folder q => exact ⟨q, rfl, row.2.1, row.2.2⟩
          | word n z => exact absurd row.1 hne
        refine ⟨_, rfl, b, _, _, _, rfl, rfl, SqL.of hb2, atI_nat (at_get hq2), at_ ws 1, 6, rfl, wds_at hwd hq2, fun e => ?_, fun ps e H4 tp s4 ntp etp => k2 H4 tp ⟨s4, ?_⟩⟩
        · rw [hq3] at e
          cases e
        · rw [hq3] at e
          cases e
          rw [hq1]
          exact etp
      · have hc' : (!decide (at_ ws 0 = sWord)) = false := hc
        have heq : at_ ws 0 = sWord := by simpa using hc'
        refine ⟨Nat.zero_le _, fun p2 np2 => k2 _ p2 ⟨same_upd np2, ?_⟩⟩
        rw [upd_same]
        cases ev with
        | file q n =>
          have := row.1
          rw [heq] at this
          exact absurd this wd_ne_file
        | folder q =>
          have := row.1
          rw [heq] at this
          exact absurd this wd_ne_fold
        | word n z => rfl
      have s24 := s2.trans s4
      have e4 := s4 _ _ e2
      have a4 := a2.keep (tupK_same s4)
      have hb4 := s4 _ _ hb2
      have ht4 := s24 _ _ ht
      have ei := ent_iff evok p
      have hq : pathOfEv ev = [] ∨ (PathOk (pathOfEv ev)) := by
        cases ev with
        | file q n => exact .inr evok.1
        | folder q => exact .inr evok
        | word n z => exact .inl rfl
      have hqw : ∀ s ∈ pathOfEv ev, isWordB s = true := by
        rcases hq with e | e
        · rw [e]
          intro s hs
          cases hs
        · exact e.2.2
      -- nothing is added
      have skip : ∀ H5, Same H3 H5 → entOf p ev = none → Same H H5 ∧ H5 lp = some (.lst us) ∧ EntsAt H5 us (Ents.ofList ((entsR (evs.take (i + 1)) p).map (stepE D evs p))) ∧ us.length ≤ i + 1 := fun H5 s5 e => by
        refine ⟨s2.trans s5, s5 _ _ e2, ?_, by omega⟩
        rw [more, e]
        show EntsAt H5 us (Ents.ofList ((entsR (evs.take i) p ++ []).map (stepE D evs p)))
        rw [List.append_nil]
        exact a2.keep (tupK_same s5)
      refine ⟨_, rfl, hh, _, rfl, .inr (SqT.of eh), _, rfl, t, _, rfl, .inr (SqT.of ht4), _, _, rfl, rfl, rfl, _, rfl, ?_⟩
      rw [List.length_map, List.length_map]
      refine ited (fun h1 => ?_) (fun h1 => ?_)
      · have h1' : (pathOfEv ev).length = p.length + 1 := by
          injection h1 with h1
          omega
        have hne : pathOfEv ev ≠ [] := fun z => by
          rw [z] at h1'
          exact absurd h1' (by show ¬ 0 = p.length + 1; omega)
        obtain ⟨c1, c2⟩ := cut_last (xs := (pathOfEv ev).map V.str) (fun z => hne (List.map_eq_nil_iff.mp z))
        refine ⟨_, rfl, _, rfl, _, rfl, hh, _, rfl, SqT.of eh, fun z => absurd z c2, fun _ t5 nt5 => ?_⟩
        have s5 := same_upd (o := .tup (cutV ((pathOfEv ev).map V.str) none (some (-1)))) nt5
        have e5 : upd H4 t5 (.tup (cutV ((pathOfEv ev).map V.str) none (some (-1)))) t5 = some (.tup ((pathOfEv ev).dropLast.map V.str)) := by
          rw [upd_same, c1, List.map_dropLast]
        have S5 := s24.trans s5
        have eh5 := s5 _ _ eh
        have el5 := s5 _ _ e4
        have ht5 := s5 _ _ ht4
        have hb5 := s5 _ _ hb4
        have a5 := a4.keep (tupK_same s5)
        have s35 := s4.trans s5
        generalize upd H4 t5 (.tup (cutV ((pathOfEv ev).map V.str) none (some (-1)))) = H5 at *
        refine ⟨_, rfl, _, _, strsT (SqT.of e5), strsT (SqT.of ht5), shaped_strs (fun x hx => hqw x ((List.dropLast_sublist _).subset hx)), shaped_strs hp, _, rfl, ?_⟩
        rw [eqv_strs]
        refine ited (fun h2 => ?_) (fun h2 => ?_)
        · have eent : entOf p ev = some (lastOf (pathOfEv ev), numOfEv ev) := by rw [ei, if_pos ⟨h1', h2⟩]
          have p6 : (pathOfEv ev).length ≤ 6 := by
            rcases hq with e | e
            · exact absurd e hne
            · exact e.2.1
          have fin : ∀ (H6 : Hp) (v : V), Same H5 H6 → NodeAt H6 v (stepE D evs p (lastOf (pathOfEv ev), numOfEv ev)).2 → ∀ t7, H6 t7 = none → ∃ (l : Addr) (a : List V) (y : V), V.ref lp = .ref l ∧ [V.ref t7] = [y] ∧ upd H6 t7 (.tup [.str (lastOf (pathOfEv ev)), v]) l = some (.lst a) ∧ a.length < sizeLine ∧
              (∃ (x3 x4 x5 : Option V) (us' : List V), [some (V.ref ro), some (.ref t), some (.ref lp), some (.ref b), some (.ref hh), some v] = [some (V.ref ro), some (.ref t), some (.ref lp), x3, x4, x5] ∧ Same H (upd (upd H6 t7 (.tup [.str (lastOf (pathOfEv ev)), v])) l (.lst (a ++ [y]))) ∧
                upd (upd H6 t7 (.tup [.str (lastOf (pathOfEv ev)), v])) l (.lst (a ++ [y])) lp = some (.lst us') ∧ EntsAt (upd (upd H6 t7 (.tup [.str (lastOf (pathOfEv ev)), v])) l (.lst (a ++ [y]))) us' (Ents.ofList ((entsR (evs.take (i + 1)) p).map (stepE D evs p))) ∧ us'.length ≤ i + 1) := fun H6 v s6 hv t7 nt7 => by
            have s7 := same_upd (o := .tup [.str (lastOf (pathOfEv ev)), v]) nt7
            have e7 := s7 _ _ (s6 _ _ el5)
            have tk : TupK (upd H6 t7 (.tup [.str (lastOf (pathOfEv ev)), v])) (upd (upd H6 t7 (.tup [.str (lastOf (pathOfEv ev)), v])) lp (.lst (us ++ [.ref t7]))) := fun b xs e => (upd_ne (ne_of e e7 fun z => by cases z)).trans e
            have hsz := sizeLine_eq
            have hi' : i < all.length := (List.getElem?_eq_some_iff.mp hws).1
            refine ⟨lp, us, .ref t7, rfl, rfl, e7, by omega, _, _, _, us ++ [.ref t7], rfl, same_putD nlp ((S5.trans s6).trans s7), upd_same, ?_, ?_⟩
            · rw [more, eent]
              show EntsAt _ _ (Ents.ofList ((entsR (evs.take i) p ++ [(lastOf (pathOfEv ev), numOfEv ev)]).map (stepE D evs p)))
              rw [List.map_append]
              exact EntsAt.snoc (x := lastOf (pathOfEv ev)) (u := v) (n := (stepE D evs p (lastOf (pathOfEv ev), numOfEv ev)).2) (tk _ _ upd_same) (hv.keep ((tupK_same s7).trans tk)) (a5.keep ((tupK_same (s6.trans s7)).trans tk))
            · rw [List.length_append]
              show us.length + 1 ≤ i + 1
              omega
          refine ⟨_, rfl, b, _, _, _, rfl, rfl, SqL.of hb5, atI_nat (at_get w0), rfl, _, rfl, ?_⟩
          rw [dec_str]
          refine ited (fun h3 => ?_) (fun h3 => ?_)
          · obtain ⟨q, n, rfl⟩ : ∃ q n, ev = .file q n := by
              cases ev with
              | file q n => exact ⟨q, n, rfl⟩
              | folder q =>
                have := row.1
                rw [h3] at this
                exact absurd this.symm fold_ne
              | word n z => exact absurd rfl hne
            obtain ⟨n1, n2, _⟩ := numIn_some row.2.2.2
            refine ⟨_, rfl, b, _, _, _, rfl, rfl, SqL.of hb5, atI_nat (at_get row.2.1), at_ ws 2, n, rfl, n1, by omega, (by show 2 ≤ sizeLine; decide), fun t6 nt6 => ?_⟩
            have s6 := same_upd (o := .tup [.str "file", .int n]) nt6
            have et6 : upd H5 t6 (.tup [.str "file", .int n]) t6 = some (.tup [.str sFile, .int n]) := upd_same
            refine ⟨_, rfl, .inl ⟨rfl, _, SqL.of (s6 _ _ el5)⟩, _, rfl, _, rfl, hh, _, _, _, rfl, rfl, SqT.of (s6 _ _ eh5), at_last hne, _, rfl, (by show 2 ≤ sizeLine; decide), fun t7 nt7 => fin _ _ s6 (.file et6) t7 nt7⟩
          · obtain ⟨q, rfl⟩ : ∃ q, ev = .folder q := by
              cases ev with
              | file q n => exact absurd row.1 h3
              | folder q => exact ⟨q, rfl⟩
              | word n z => exact absurd rfl hne
            refine ⟨_, rfl, _, rfl, ro, hh, rs, all, evs, q, rfl, S5 _ _ hro, hrs.same S5, hw, hal, hpr, eh5, hqw, p6, ?_, fun H6 v s6 hv => ?_⟩
            · have h1'' : q.length = p.length + 1 := h1'
              omega
            have ep : p ++ [lastOf q] = q := by
              rw [← h2]
              exact join_last hne
            refine ⟨_, rfl, .inl ⟨rfl, _, SqL.of (s6 _ _ el5)⟩, _, rfl, _, rfl, hh, _, _, _, rfl, rfl, SqT.of (s6 _ _ eh5), at_last hne, _, rfl, (by show 2 ≤ sizeLine; decide), fun t7 nt7 => fin H6 v s6 ?_ t7 nt7⟩
            show NodeAt H6 v (nodeE D evs (p ++ [lastOf q]))
            rw [ep]
            exact hv
        · obtain ⟨g1, g2, g3, g4⟩ := skip H5 s35 (by rw [ei, if_neg (fun z => h2 z.2)])
          exact ⟨some (.ref b), some (.ref hh), x5, us, rfl, g1, g2, g3, g4⟩
      · obtain ⟨g1, g2, g3, g4⟩ := skip H4 s4 (by rw [ei, if_neg (fun z => h1 (by rw [z.1]; rfl))])
        exact iteF ⟨some (.ref b), some (.ref hh), x5, us, rfl, g1, g2, g3, g4⟩
    · rintro σ H2 ⟨x3, x4, x5, us, rfl, s2, e2, a2, n2⟩
      refine ⟨_, rfl, lp, _, rfl, .inl ⟨SqL.of e2, fun p2 np2 => ?_⟩⟩
      have s3 := same_upd (o := .tup us) np2
      refine ⟨(by show 2 ≤ sizeLine; decide), fun p3 np3 => ?_⟩
      have s4 := same_upd (o := .tup [.str sFolder, .ref p2]) np3
      have e5 : upd (upd H2 p2 (.tup us)) p3 (.tup [.str sFolder, .ref p2]) p2 = some (.tup us) := s4 _ _ upd_same
      refine q _ _ ((s2.trans s3).trans s4) ?_
      rw [nodeE_succ]
      refine .folder upd_same e5 ?_
      have hl : rs.length = evs.length := by rw [hrs.len, paired_len hpr]
      rw [hl, List.take_length] at a2
      exact a2.keep (tupK_same (s3.trans s4))
theorem ok_lfo (X : Tx mg) (cP : Ca CX0 P w K mg base 2 "_law_path_in" ["_law_word", "_law_most"] spPathIn) (F : Fun K "_law_folder_of" "_law_folder_of" s_lfo f fd0) (m : mg "_law_folder_of" = some (.ref f)) (b : Binds K fd0 ["_law_rows", "_law_path"] []) : ∀ D, FnOk P w K mg base CX0 (D + 2) f fd0 ["_law_rows", "_law_path"] (spFolderOf D)
  | 0 => ⟨fun vs H Q E h => by
      obtain ⟨ro, t, rs, all, evs, p, rfl, _⟩ := h
      rfl, fun A outer s H args us vs Q E _ _ _ _ h => by
      obtain ⟨ro, t, rs, all, evs, p, rfl, _, _, _, _, _, _, _, h6, h7, _⟩ := h
      omega⟩
  | D + 1 => ok_lfo_step X (by omega) cP ⟨f, fd0, ok_lfo X cP F m b D, m, F.kp, b⟩ F
end
end KD21
end L2
set_option Elab.async false
set_option linter.all false
set_option maxRecDepth 100000
set_option maxHeartbeats 4000000
/-! k92: _law_due -/
namespace L2
namespace KD22
open PySem PySem.Spec PyProof.Rows LamX NdefX KB KN KH KL KM KX KD1 KD2 KD3 KD4 KD5 KD6 KD7 KMa KD8 KD9 KD10 KD11 KD12 KD13 KD14 KD15 KMb KD16 KD17 KMc KD18 KD19 KD20 KD21
abbrev s_ldue : Stmt := top 64
theorem merge3 {a b c : V} : mergeK [] [((.inr qF : Key), a), (.inr qL, b), (.inr qN, c)] = dsk a b c := by
  have h1 : valV [((.inr qF : Key), a)] (.inr qL) = none := valV_neg (ir q_fl)
  have h2 : valV [((.inr qF : Key), a), (.inr qL, b)] (.inr qN) = none := (valV_neg (ir q_fn)).trans (valV_neg (ir q_ln))
  have e1 : putK [((.inr qF : Key), a)] (.inr qL) b = [((.inr qF : Key), a), (.inr qL, b)] := by
    unfold putK
    rw [valV_any, h1]
    rfl
  show putK (putK [((.inr qF : Key), a)] ((.inr qL : Key)) b) ((.inr qN : Key)) c = _
  rw [e1]
  unfold putK
  rw [valV_any, h2]
  rfl
theorem step_folders {s s' : RS} {ws : List Str} {ev : Ev} (h : stepA s ws = .ok (ev, s')) : s'.folders.length ≤ s.folders.length + 1 := by
  unfold stepA at h
  by_cases h0 : at_ ws 0 = sWord
  · rw [if_pos h0] at h
    cases hn : numIn (at_ ws 1) with
    | none =>
      rw [hn] at h
      cases h
    | some n =>
      rw [hn] at h
      simp only at h
      by_cases h1 : n ≤ s.num.getD (-1)
      · rw [if_pos h1] at h
        cases h
      · rw [if_neg h1] at h
        by_cases h2 : isWordB (at_ ws 2) = false
        · rw [if_pos h2] at h
          cases h
        · rw [if_neg h2] at h
          by_cases h3 : 3 < ws.length
          · rw [if_pos h3] at h
            cases h
          · rw [if_neg h3] at h
            cases h
            exact Nat.le_succ _
  · rw [if_neg h0] at h
    by_cases hk : s.num.isSome = true ∨ ¬ (at_ ws 0 = sFile ∨ at_ ws 0 = sFolder)
    · rw [if_pos hk] at h
      cases h
    · rw [if_neg hk] at h
      cases hp : pathIn (at_ ws 1) 6 with
      | none =>
        rw [hp] at h
        cases h
      | some p =>
        rw [hp] at h
        simp only at h
        by_cases h1 : p = [] ∨ p.dropLast ∉ s.folders ∨ ltP s.last p = false
        · rw [if_pos h1] at h
          cases h
        · rw [if_neg h1] at h
          by_cases h2 : at_ ws 0 = sFolder
          · rw [if_pos h2] at h
            by_cases h3 : 2 < ws.length
            · rw [if_pos h3] at h
              cases h
            · rw [if_neg h3] at h
              cases h
              rw [List.length_append]
              exact Nat.le_refl _
          · rw [if_neg h2] at h
            cases hn : numIn (at_ ws 2) with
            | none =>
              rw [hn] at h
              cases h
            | some n =>
              rw [hn] at h
              simp only at h
              by_cases h3 : 3 < ws.length
              · rw [if_pos h3] at h
                cases h
              · rw [if_neg h3] at h
                cases h
                exact Nat.le_succ _
theorem rows_del {H H' : Hp} {D : Addr} (k : ∀ b xs, b ≠ D → H b = some (.lst xs) → H' b = some (.lst xs)) {vs : List V} {l : List (List Str)} (r : RowsAt (del H D) vs l) : RowsAt (del H' D) vs l := r.keep fun b xs e => by
  have hb : b ≠ D := fun z => by
    rw [z, del_same] at e
    cases e
  rw [del_ne hb] at e ⊢
  exact k b xs hb e
theorem rows_un {H : Hp} {D : Addr} {vs : List V} {l : List (List Str)} (r : RowsAt (del H D) vs l) : RowsAt H vs l := r.keep fun b xs e => by
  have hb : b ≠ D := fun z => by
    rw [z, del_same] at e
    cases e
  rw [del_ne hb] at e
  exact e
section
variable {P : Program} {w : World} {K : PySem.W.Frag} {mg : Str → Option Value} {base : Heap} {f : Addr} {fd0 : FuncData}
abbrev sText : Str := "text"
def spDue (K : PySem.W.Frag) : Sp := fun vs H Q _ => ∃ v : V, vs = [v] ∧
  ((NoStr K H v ∧ ∀ H' t, Same H H' → H' t = some (.tup [.str sText, .non, .non]) → Q (.ref t) H') ∨
   ∃ z : Str, v = .str z ∧ z.length ≤ 1000000 ∧ (∀ k e, readM z = .error (k, e) → ∀ H' t, Same H H' → H' t = some (.tup [.str sText, .int (k : Nat), .int (e : Nat)]) → Q (.ref t) H') ∧
     ∀ root ps, readM z = .ok (root, ps) → ∀ H' l u, Same H H' → H' l = some (.lst [u]) → TreeAt H' u root ps → Q (.ref l) H')
abbrev nDue : List Str := ["_law_text", "_law_lines", "_law_state", "_law_k", "_law_wrong_here", "_law_rows", "_law_pairs", "_law_line", "_law_words"]
theorem sc_ldue : FnScope nDue ["_law_text"] (defScope s_ldue) := ⟨rfl, rfl, rfl, by decide +kernel, rfl, by decide +kernel, by decide +kernel⟩
theorem ok_ldue (X : Tx mg) (cW : Ca CX0 P w K mg base 3 "_law_wrong" ["_law_words", "_law_state"] (spWrong K)) (cF : Ca CX0 P w K mg base 9 "_law_folder_of" ["_law_rows", "_law_path"] (spFolderOf 7)) (F : Fun K "_law_due" "_law_due" s_ldue f fd0) : FnOk P w K mg base CX0 10 f fd0 ["_law_text"] (spDue K) := by
  refine F.ok sc_ldue (fun vs H Q E h => ?_) (fun cdv A outer s H vs Q E hr h => ?_)
  · obtain ⟨v, rfl, _⟩ := h
    rfl
  · obtain ⟨v, rfl, hq⟩ := h
    have hr3 : Room 3 _ := hr.mono (by decide)
    have nd := sc_ldue.nd
    refine ⟨_, pss_cons (ps_if (pt_not (pt_val (pe_callB call_isi (by rfl) (X.b "isinstance") (by decide +kernel) (pa_cons (pv 0) (pa_cons (pe_bltn (v := .ty "str") (by rfl) (X.b "str") (by decide +kernel) rfl) pa_nil)))))
        (pss_one (ps_ret (pe_tup (pa_cons pe_str (pa_cons pe_non (pa_cons pe_non pa_nil)))))) pss_nil)
      (pss_cons (ps_par (i := 1) (j := 2) rfl nd rfl rfl (by decide) rfl rfl (pa_cons (pe_ifExp (pt_cmpR op_ne (pv 0) pe_str (nomark _)) (pe_split (pv 0) pe_str) (pe_lst pa_nil)) (pa_cons (pe_disp (pps_cons pe_str (pe_lst (pa_cons (pe_tup pa_nil) pa_nil)) (pps_cons pe_str (pe_tup pa_nil) (pps_cons pe_str pe_non pps_nil))) (by rfl) (by rfl) (fun z => by cases z) (by decide)) pa_nil)) (by rfl))
      (pss_cons (ps_for PassesOwn.never rfl (pi_range1 (by rfl) (X.b "range") (pa_cons (pe_callB call_len_seq (by rfl) (X.b "len") PySem.boot_len (pa_cons (pv 1) pa_nil)) pa_nil)) (pg_name (i := 3) nd rfl (Or.inl rfl))
        (pss_cons (ps_set (i := 4) nd rfl (Or.inl rfl) (pe_ca cW hr3 (by rfl) (pa_cons (pe_split (pe_ix ix_list (pv 1) (pv 3) (fun _ _ => rfl)) pe_str) (pa_cons (pv 2) pa_nil))))
        (pss_one (ps_if (pt_cmpR op_notN (pv 4) pe_non (nomark _)) (pss_one (ps_ret (pe_tup (pa_cons pe_str (pa_cons (pv 3) (pa_cons (pv 4) pa_nil)))))) pss_nil))))
      (pss_cons (ps_setLc (i := 5) (own := [("_law_line", 7)]) (g := gName 7) (tt := tYes) rfl nd rfl rfl (sw_true rfl rfl rfl (by decide +kernel)) (pi_list (pv 1)) (blkOk_by (N := nDue) (sc := defScope s_ldue) (by decide +kernel)) (fun _ _ _ _ _ => pg_name (i := 7) nd rfl (Or.inl rfl)) (fun _ _ _ _ _ => pts_nil) (fun _ _ _ _ _ => pe_split (pv 7) pe_str))
      (pss_cons (ps_set (i := 6) nd rfl (Or.inl rfl) (pe_callTy call_tuple_of (by rfl) (X.b "tuple") (by decide +kernel) (pa_cons (pe_lc (own := [("_law_words", 8)]) (g := gName 8) (tt := tTest (tOp rEq (tOp (rIxL K) (tVar 8) (tC (.int 0))) (tC (.str "word")))) (te := tTup (tCons (tCB (fun xs H Q => ∃ a n, xs = [.str a] ∧ PySem.intText? a = some n ∧ a.length ≤ 640 ∧ Q (.int n) H) (tCons (tOp (rIxL K) (tVar 8) (tC (.int 1))) tNil)) (tCons (tOp (rIxL K) (tVar 8) (tC (.int 2))) tNil))) rfl nd (pi_list (pv 5)) (blkOk_by (N := nDue) (sc := defScope s_ldue) (by decide +kernel)) (fun _ _ _ _ _ => pg_name (i := 8) nd rfl (Or.inl rfl))
          (fun _ _ _ _ _ => pts_one (pt_cmpR op_eq (pe_ix ix_list (pv 8) pe_int (fun _ _ => rfl)) pe_str (nomark _)))
          (fun _ _ _ _ _ => pe_tup (pa_cons (pe_callTy call_int_str (by rfl) (X.b "int") (by decide +kernel) (pa_cons (pe_ix ix_list (pv 8) pe_int (fun _ _ => rfl)) pa_nil)) (pa_cons (pe_ix ix_list (pv 8) pe_int (fun _ _ => rfl)) pa_nil)))) pa_nil)))
      (pss_one (ps_ret (pe_lst (pa_cons (pe_tup (pa_cons (pe_ca cF hr (by rfl) (pa_cons (pv 5) (pa_cons (pe_tup pa_nil) pa_nil))) (pa_cons (pv 6) pa_nil))) pa_nil)))))))), ?_⟩
    rcases hq with ⟨⟨ty, h1, h2⟩, q⟩ | ⟨z, rfl, hz, qe, qo⟩
    · refine ⟨_, rfl, _, _, ty, .type "str", false, rfl, .ty "str", h1, h2, false, rfl, iteT ?_⟩
      exact ⟨(by show 3 ≤ sizeLine; decide), fun p np => q _ p (same_upd np) upd_same⟩
    refine ⟨_, rfl, _, _, .type "str", .type "str", true, rfl, .ty "str", .base (.str z), kit_ty (by decide +kernel), true, rfl, iteF ?_⟩
    have hsz := sizeLine_eq
    have sl := split_le1 z "\n" (by decide +kernel)
    have ll : (KD17.linesOf z).length ≤ z.length + 1 ∧ ∀ y ∈ KD17.linesOf z, y.length ≤ z.length := by
      unfold KD17.linesOf
      by_cases e : z = Str.empty
      · rw [if_pos e]
        exact ⟨Nat.zero_le _, fun y hy => by cases hy⟩
      · rw [if_neg e]
        exact sl
    refine ⟨_, rfl, rfl, _, rfl, ?_⟩
    refine tif_listsL (fun H2 p => Same H H2 ∧ H2 p = some (.lst ((KD17.linesOf z).map V.str))) (fun h Q2 k => ?_) (fun h Q2 k => ?_) (fun H1 la ⟨s1, ela⟩ => ?_)
    · have e : ¬ z = Str.empty := fun e => by
        rw [e] at h
        exact absurd h (by decide +kernel)
      refine ⟨_, rfl, ⟨_, rfl⟩, z, _, rfl, rfl, (by decide +kernel), by omega, fun p np => k _ p ⟨same_upd np, ?_⟩⟩
      rw [upd_same]
      unfold KD17.linesOf
      rw [if_neg e]
    · have e : z = Str.empty := by
        have h2 : decide (V.str z = V.str (Str.ofString "")) = true := by simpa using h
        exact V.str.inj (of_decide_eq_true h2)
      refine ⟨Nat.zero_le _, fun p np => k _ p ⟨same_upd np, ?_⟩⟩
      rw [upd_same]
      unfold KD17.linesOf
      rw [if_pos e]
      rfl
    -- the state
    intro st nst
    refine ⟨Nat.zero_le _, fun t0 nt0 => ⟨(by show 1 ≤ sizeLine; decide), fun fl nfl => ⟨Nat.zero_le _, fun tl ntl => ?_⟩⟩⟩
    have s2 := (((same_upd (o := .dK []) nst).upd (o := .tup []) nt0).upd (o := .lst [.ref t0]) nfl).upd (o := .tup []) ntl
    have e20 : upd (upd (upd (upd H1 st (.dK [])) t0 (.tup [])) fl (.lst [.ref t0])) tl (.tup []) st = some (.dK []) := same_upd ntl _ _ (same_upd nfl _ _ (same_upd nt0 _ _ upd_same))
    have e21 : upd (upd (upd (upd H1 st (.dK [])) t0 (.tup [])) fl (.lst [.ref t0])) tl (.tup []) t0 = some (.tup []) := same_upd ntl _ _ (same_upd nfl _ _ upd_same)
    have e22 : upd (upd (upd (upd H1 st (.dK [])) t0 (.tup [])) fl (.lst [.ref t0])) tl (.tup []) fl = some (.lst [.ref t0]) := same_upd ntl _ _ upd_same
    have e23 : upd (upd (upd (upd H1 st (.dK [])) t0 (.tup [])) fl (.lst [.ref t0])) tl (.tup []) tl = some (.tup []) := upd_same
    generalize upd (upd (upd (upd H1 st (.dK [])) t0 (.tup [])) fl (.lst [.ref t0])) tl (.tup []) = H2 at *
    refine ⟨e20, [(.inr qF, .ref fl), (.inr qL, .ref tl), (.inr qN, .non)], rfl, (by show 3 ≤ 15; decide), _, _, rfl, ?_⟩
    rw [merge3]
    have s3 : Same H1 (upd H2 st (.dK (dsk (.ref fl) (.ref tl) .non))) := same_putD nst s2
    have k3 : ∀ {b : Addr} {o : HO}, H2 b = some o → (∀ ks, o ≠ .dK ks) → upd H2 st (.dK (dsk (.ref fl) (.ref tl) .non)) b = some o := fun {b o} e n => (upd_ne (ne_of e e20 fun z => n _ z)).trans e
    have D0 : DS (upd H2 st (.dK (dsk (.ref fl) (.ref tl) .non))) st RS.init := by
      refine ⟨⟨fl, tl, [.ref t0], upd_same, k3 e22 (fun _ z => by cases z), .cons (k3 e21 fun _ z => by cases z) .nil, k3 e23 fun _ z => by cases z⟩, fun p hp => ?_, (fun x hx => by cases hx), (by show 1 < 8000000; decide)⟩
      rw [List.mem_singleton.mp hp]
      intro x hx
      cases hx
    have ela3 := s3 _ _ ela
    have sH3 := s1.trans s3
    have nstH : H st = none := s1.free nst
    generalize upd H2 st (.dK (dsk (.ref fl) (.ref tl) .non)) = H3 at *
    refine ⟨_, rfl, la, _, rfl, .inl (SqL.of ela3), _, rfl, by omega, ?_, ?_⟩
    · rw [List.length_map]
      omega
    rw [List.length_map, Int.toNat_natCast]
    have nls : la ≠ st := fun e => by
      obtain ⟨_, _, _, z, _⟩ := D0.ex
      rw [← e, ela3] at z
      cases z
    refine for_it (walk_range (lo := 0) (n := (KD17.linesOf z).length)) (fun i σ H' => ∃ (x3 x4 : Option V) (s : RS) (evs : List Ev), σ = [some (.str z), some (.ref la), some (.ref st), x3, x4, none, none, none, none] ∧ DS H' st s ∧ Left (KD17.wordsOf z) i s evs ∧ s.folders.length ≤ i + 1 ∧ Same H H' ∧ H' la = some (.lst ((KD17.linesOf z).map V.str)))
      ⟨none, none, RS.init, [], rfl, D0, left0 _, Nat.le_refl _, sH3, ela3⟩ (fun _ _ _ _ _ => True.intro) ?_ ?_
    · rintro i x σ H4 H5 hi ⟨x3, x4, s, evs, rfl, D4, lft, hf, sH4, ela4⟩ ⟨rfl, rfl⟩
      have hln : (KD17.linesOf z)[i]? = some ((KD17.linesOf z)[i]) := List.getElem?_eq_getElem hi
      generalize (KD17.linesOf z)[i] = ln at hln
      have lln := ll.2 ln (List.mem_of_getElem? hln)
      have swl := split_le1 ln " " (by decide +kernel)
      have hw : (KD17.wordsOf z)[i]? = some (Txt.split ln " ") := by
        unfold KD17.wordsOf
        rw [List.getElem?_map, hln]
        rfl
      have wpos : 0 < (Txt.split ln " ").length := split_pos ln " "
      have wok : Wds (Txt.split ln " ") := ⟨by omega, fun y hy => by have := swl.2 y hy; omega⟩
      refine ⟨_, rfl, _, rfl, la, _, _, V.str ln, rfl, rfl, SqL.of ela4, ?_, ⟨_, rfl⟩, ln, _, rfl, rfl, (by decide +kernel), by omega, fun a na => ?_⟩
      · rw [Int.zero_add]
        exact atI_nat (by rw [List.getElem?_map, hln]; rfl)
      have s5 := same_upd (o := .lst ((Txt.split ln " ").map V.str)) na
      have ea : upd H5 a (.lst ((Txt.split ln " ").map V.str)) a = some (.lst ((Txt.split ln " ").map V.str)) := upd_same
      have D5 := D4.same s5
      have nast : a ≠ st := fun e => by
        obtain ⟨_, _, _, z, _⟩ := D4.ex
        rw [← e, na] at z
        cases z
      have sH5 := sH4.trans s5
      have ela5 := s5 _ _ ela4
      generalize Txt.split ln " " = ws at *
      generalize upd H5 a (.lst (ws.map V.str)) = H6 at *
      have fin : ∀ {H' : Hp}, Bt [st] H6 H' → Same H H' := fun {H'} B b o e => B b o (sH5 b o e) fun z => by
        rw [List.mem_singleton.mp z, nstH] at e
        cases e
      refine ⟨_, rfl, a, st, ws, s, rfl, SqL.of ea, nast, wpos, wok, D5, by omega, fun e he H7 B => ?_, fun ev s' ok H7 D7 B => ?_⟩
      · refine ⟨_, rfl, rfl, _, rfl, ?_⟩
        refine iteT ⟨_, rfl, _, rfl, (by show 3 ≤ sizeLine; decide), fun p np => ?_⟩
        refine qe i e ?_ _ p ((fin B).upd np) ?_
        · unfold readM
          rw [left_err lft hw he]
        · rw [upd_same]
          show some (HO.tup [V.str sText, V.int (0 + (i : Int)), V.int (e : Nat)]) = _
          rw [Int.zero_add]
      · refine ⟨_, rfl, rfl, _, rfl, ?_⟩
        refine iteF ?_
        refine ⟨some (.int (0 + (i : Int))), some .non, s', evs ++ [ev], rfl, D7, left_step lft hw ok, ?_, fin B, B _ _ ela5 fun z => nls (List.mem_singleton.mp z)⟩
        have := step_folders ok
        omega
    · rintro σ H4 ⟨x3, x4, s, evs, rfl, D4, lft, hf, sH4, ela4⟩
      have ok := left_end (all := KD17.wordsOf z) (s := s) (evs := evs) (by
        have e2 : (KD17.wordsOf z).length = (KD17.linesOf z).length := by unfold KD17.wordsOf; rw [List.length_map]
        rw [e2]
        exact lft)
      have pr := fold_all ok
      have evok := paired_ev pr
      have wlen : (KD17.wordsOf z).length = (KD17.linesOf z).length := by unfold KD17.wordsOf; rw [List.length_map]
      have elen : (KD17.wordsOf z).length = evs.length := paired_len pr
      have hread : readM z = .ok (nodeE 7 evs [], psOf evs) := by
        unfold readM
        rw [ok]
      have wds : ∀ ws ∈ KD17.wordsOf z, Wds ws := fun ws hws => by
        obtain ⟨ln, hln, rfl⟩ := List.mem_map.mp hws
        have lln := ll.2 ln hln
        have swl := split_le1 ln " " (by decide +kernel)
        exact ⟨by omega, fun y hy => by have := swl.2 y hy; omega⟩
      -- the rows
      refine ⟨_, rfl, la, rfl, ⟨_, SqL.of ela4⟩, fun D hD => ?_⟩
      refine lc_it (walk_list (K := K) (a := la) (xs := (KD17.linesOf z).map V.str)) (fun i H' => Same H4 H' ∧ ∃ rs, H' D = some (.lst rs) ∧ RowsAt (del H' D) rs ((KD17.wordsOf z).take i)) ⟨same_upd hD, [], upd_same, .nil⟩ (fun i H' _ q => SqL.of (q.1 _ _ ela4)) ?_ ?_
      · rintro i x H5 H6 hi ⟨s5, rs, e5, r5⟩ ⟨rfl, hx⟩
        obtain ⟨ln, hln, rfl⟩ := map_at hx
        have lln := ll.2 ln (List.mem_of_getElem? hln)
        have hw : (KD17.wordsOf z)[i]? = some (Txt.split ln " ") := by
          unfold KD17.wordsOf
          rw [List.getElem?_map, hln]
          rfl
        rw [List.length_map] at hi
        refine ⟨rfl, _, rfl, ⟨_, rfl⟩, ln, _, rfl, rfl, (by decide +kernel), by omega, fun p np => ?_⟩
        have s6 := same_upd (o := .lst ((Txt.split ln " ").map V.str)) np
        have nDp : p ≠ D := (ne_of_none e5 np).symm
        refine ⟨rs, s6 _ _ e5, ?_, same_putD hD (s5.trans s6), rs ++ [.ref p], upd_same, ?_⟩
        · rw [r5.len, List.length_take]
          omega
        · rw [take_more hw]
          refine RowsAt.snoc ?_ (rows_del (fun b xs hb e => (upd_ne hb).trans (s6 _ _ e)) r5)
          rw [del_ne nDp, upd_ne nDp, upd_same]
      rintro H5 ⟨s5, rs, e5, r5⟩
      have r5' : RowsAt H5 rs (KD17.wordsOf z) := by
        have r6 := rows_un r5
        rw [List.length_map, ← wlen, List.take_length] at r6
        exact r6
      have sH5 := sH4.trans s5
      have rsl : rs.length = evs.length := by rw [r5'.len, elen]
      -- the pairs
      refine ⟨_, rfl, D, rfl, ⟨_, SqL.of e5⟩, fun D2 hD2 => ?_⟩
      refine lc_it (walk_list (K := K) (a := D) (xs := rs)) (fun i H' => Same H5 H' ∧ ∃ us, H' D2 = some (.lst us) ∧ PairsAt H' us (psOf (evs.take i)) ∧ us.length ≤ i) ⟨same_upd hD2, [], upd_same, .nil, Nat.le_refl _⟩ (fun i H' _ q => SqL.of (q.1 _ _ e5)) ?_ ?_
      · rintro i x H6 H7 hi ⟨s6, us, e6, p6, n6⟩ ⟨rfl, hx⟩
        obtain ⟨b, ws, rfl, hws, hb⟩ := r5'.at_ hx
        obtain ⟨ev, hev, evo, row⟩ := paired_at pr hws
        have hb6 := s6 _ _ hb
        have more : psOf (evs.take (i + 1)) = psOf (evs.take i) ++ (pairOf ev).toList := by
          rw [take_more hev, ps_snoc]
        have w0 : 0 < ws.length := by
          cases ev with
          | file q n => exact Nat.lt_of_le_of_lt (Nat.zero_le _) row.2.1
          | folder q => exact Nat.lt_of_le_of_lt (Nat.zero_le _) row.2.1
          | word n z => exact Nat.lt_of_le_of_lt (Nat.zero_le _) row.2.1
        refine ⟨rfl, _, rfl, b, _, _, _, rfl, rfl, SqL.of hb6, atI_nat (at_get w0), rfl, _, rfl, ?_⟩
        rw [dec_str]
        refine ited (fun h1 => ?_) (fun h1 => ?_)
        · obtain ⟨n, y, rfl⟩ : ∃ n y, ev = .word n y := by
            cases ev with
            | file q n =>
              have := row.1
              rw [h1] at this
              exact absurd this wd_ne_file
            | folder q =>
              have := row.1
              rw [h1] at this
              exact absurd this wd_ne_fold
            | word n y => exact ⟨n, y, rfl⟩
          obtain ⟨_, l2, n1, e2y⟩ := row
          obtain ⟨i1, i4, _⟩ := numIn_some n1
          refine ⟨_, rfl, b, _, _, _, rfl, rfl, SqL.of hb6, atI_nat (at_get (a := 1) (by omega)), at_ ws 1, n, rfl, i1, by omega, _, rfl, b, _, _, _, rfl, rfl, SqL.of hb6, atI_nat (at_get l2), (by show 2 ≤ sizeLine; decide), fun t6 nt6 => ?_⟩
          rw [e2y]
          have s7 := same_upd (o := .tup [.int n, .str y]) nt6
          have e7 := s7 _ _ e6
          have tk : TupK (upd H7 t6 (.tup [.int n, .str y])) (upd (upd H7 t6 (.tup [.int n, .str y])) D2 (.lst (us ++ [.ref t6]))) := fun b xs e => (upd_ne (ne_of e e7 fun z => by cases z)).trans e
          refine ⟨us, e7, by omega, same_putD hD2 (s6.trans s7), us ++ [.ref t6], upd_same, ?_, ?_⟩
          · rw [more]
            exact PairsAt.snoc (tk _ _ upd_same) (p6.keep ((tupK_same s7).trans tk))
          · rw [List.length_append]
            show us.length + 1 ≤ i + 1
            omega
        · refine ⟨s6, us, e6, ?_, by omega⟩
          rw [more]
          have e : pairOf ev = none := by
            cases ev with
            | file q n => rfl
            | folder q => rfl
            | word n y => exact absurd row.1 h1
          rw [e]
          show PairsAt H7 us (psOf (evs.take i) ++ [])
          rw [List.append_nil]
          exact p6
      rintro H6 ⟨s6, us, e6, p6, n6⟩
      rw [rsl, List.take_length] at p6
      refine ⟨D2, _, rfl, .inl ⟨SqL.of e6, fun tp ntp => ?_⟩⟩
      have s7 := same_upd (o := .tup us) ntp
      have etp : upd H6 tp (.tup us) tp = some (.tup us) := upd_same
      have s57 := s6.trans s7
      have p7 := p6.keep (tupK_same s7)
      generalize upd H6 tp (.tup us) = H7 at *
      refine ⟨_, rfl, Nat.zero_le _, fun t8 nt8 => ?_⟩
      have s8 := same_upd (o := .tup []) nt8
      have S58 := s57.trans s8
      refine ⟨D, t8, rs, KD17.wordsOf z, evs, [], rfl, S58 _ _ e5, r5'.same S58, wds, by omega, pr, upd_same, (fun s hs => by cases hs), Nat.zero_le _, rfl, fun H9 v s9 hv => ?_⟩
      have S79 := s8.trans s9
      refine ⟨_, rfl, (by show 2 ≤ sizeLine; decide), fun ta nta => ⟨(by show 1 ≤ sizeLine; decide), fun l nl => ?_⟩⟩
      have sa := same_upd (o := .tup [v, .ref tp]) nta
      have sb := same_upd (o := .lst [.ref ta]) nl
      refine qo _ _ hread _ l (.ref ta) ((((sH5.trans S58).trans s9).trans sa).trans sb) upd_same ?_
      exact ⟨ta, tp, v, us, rfl, sb _ _ upd_same, hv.keep (tupK_same (sa.trans sb)), sb _ _ (sa _ _ (S79 _ _ etp)), p7.keep (tupK_same ((S79.trans sa).trans sb))⟩
end
end KD22
end L2
set_option Elab.async false
set_option linter.all false
set_option maxRecDepth 100000
set_option maxHeartbeats 4000000
/-! k92: _law_said -/
namespace L2
namespace KD23
open PySem PySem.Spec PyProof.Rows LamX NdefX KB KN KH KL KM KX KD1 KD2 KD3 KD4 KD5 KD6 KD7 KMa KD8 KD9 KD10 KD11 KD12 KD13 KD14 KD15 KMb KD16 KD17 KMc KD18 KD19 KD20 KD21 KD22
abbrev s_lsaid : Stmt := top 57
def askNames : List Str := ["BadTree", "BadPath", "BadUpper", "BadDeed", "BadBook", "BadRow", "BadLayers", "BadText", "Refused"]
/-- the classes of errors; cl: their addresses -/
structure SX (K : PySem.W.Frag) (mg : Str → Option Value) (cl : Str → Addr) : Prop where
  gP : mg "PileError" = some (.ref (cl "PileError"))
  gl : ∀ x ∈ askNames, mg x = some (.ref (cl x))
  exT : PySem.W.exmOne K (.ref (cl "BadTree")) (.ref (cl "PileError")) = some true
  exX : PySem.W.exmOne K (.ref (cl "BadText")) (.ref (cl "PileError")) = some true
  isT : ∀ x ∈ askNames, PySem.W.kitOne K (.ref (cl "BadTree")) (.ref (cl x)) = some (decide (x = "BadTree"))
  isX : ∀ x ∈ askNames, PySem.W.kitOne K (.ref (cl "BadText")) (.ref (cl x)) = some (decide (x = "BadText"))
  eT : ExcC K (cl "BadTree")
  eX : ExcC K (cl "BadText")
  fT : XfC K (cl "BadTree")
  fX : XfC K (cl "BadText")
  nv : PySem.W.findIn K (.ref (cl "BadTree")) "value" = some none
  nl : PySem.W.findIn K (.ref (cl "BadText")) "line" = some none
  nw : PySem.W.findIn K (.ref (cl "BadText")) "word" = some none
theorem SX.g {K : PySem.W.Frag} {mg : Str → Option Value} {cl : Str → Addr} (S : SX K mg cl) (x : Str) (h : askNames.contains x = true := by decide +kernel) : mg x = some (.ref (cl x)) := S.gl x (by simpa using h)
def tCall0C (P : Program) (w : World) (K : PySem.W.Frag) (mg : Str → Option Value) (base : Heap) (k i : Nat) (E : L2.St → XK) : TE := fun σ H Q => ∃ (f : Addr) (sp : Sp), σ[i]? = some (some (.ref f)) ∧ Cb0 P w K mg base k H f sp ∧ sp [] H Q (E σ)
section
variable {X : Cx}
theorem pe_call0C {k i : Nat} {E : L2.St → XK} {x : Str} {p pos : Pos} (hr : Room k X.A) (hN : X.N[i]? = some x) (hv : Vis X.env.scope x) (hx : ∀ σ, PassesAt (L2.CX X.prog X.w) X σ (E σ))
    (hdb : (x == ("__debug__" : Str)) = false := by decide) (hcd : (x == ("__classdict__" : Str)) = false := by decide) : PE X (.Call (.Name x p) [] [] pos) (tCall0C X.prog X.w X.K X.mg X.base k i E) := pe_call0L hr hN hv hx hdb hcd
theorem pe_cls {K : PySem.W.Frag} {cl : Str → Addr} {x : Str} {pos : Pos} (S : SX K X.mg cl) (hg : Gl X x) (h : askNames.contains x = true := by decide +kernel) (hd : (x == ("__debug__" : Str)) = false := by decide) : PE X (.Name x pos) (tC (.ref (cl x))) := pe_glob (v := .ref (cl x)) hg (S.g x h) rfl hd
end
/-- pairs (word, flag) -/
inductive BAt (H : Hp) : List V → List (Str × Bool) → Prop where
  | nil : BAt H [] []
  | cons {t : Addr} {x : Str} {b : Bool} {vs : List V} {l : List (Str × Bool)} : H t = some (.tup [.str x, .bl b]) → BAt H vs l → BAt H (.ref t :: vs) ((x, b) :: l)
theorem BAt.keep {H H' : Hp} (k : TupK H H') : ∀ {vs : List V} {l : List (Str × Bool)}, BAt H vs l → BAt H' vs l
  | _, _, .nil => .nil
  | _, _, .cons e r => .cons (k _ _ e) (r.keep k)
theorem BAt.len {H : Hp} : ∀ {vs : List V} {l : List (Str × Bool)}, BAt H vs l → vs.length = l.length
  | _, _, .nil => rfl
  | _, _, .cons _ r => by
    show _ + 1 = _ + 1
    rw [BAt.len r]
theorem BAt.at_ {H : Hp} : ∀ {vs : List V} {l : List (Str × Bool)}, BAt H vs l → ∀ {i : Nat} {v : V}, vs[i]? = some v → ∃ (t : Addr) (x : Str) (b : Bool), v = .ref t ∧ l[i]? = some (x, b) ∧ H t = some (.tup [.str x, .bl b])
  | _, _, .nil, i, v, h => by simp at h
  | _, _, @BAt.cons _ t x b _ _ e r, 0, v, h => by
    cases h
    exact ⟨t, x, b, rfl, rfl, e⟩
  | _, _, .cons e r, i + 1, v, h => r.at_ (i := i) h
/-- pairs (word, v) -/
inductive FAt (H : Hp) (v : V) : List V → List Str → Prop where
  | nil : FAt H v [] []
  | cons {t : Addr} {x : Str} {vs : List V} {l : List Str} : H t = some (.tup [.str x, v]) → FAt H v vs l → FAt H v (.ref t :: vs) (x :: l)
theorem FAt.keep {H H' : Hp} {v : V} (k : TupK H H') : ∀ {vs : List V} {l : List Str}, FAt H v vs l → FAt H' v vs l
  | _, _, .nil => .nil
  | _, _, .cons e r => .cons (k _ _ e) (r.keep k)
theorem FAt.len {H : Hp} {v : V} : ∀ {vs : List V} {l : List Str}, FAt H v vs l → vs.length = l.length
  | _, _, .nil => rfl
  | _, _, .cons _ r => by
    show _ + 1 = _ + 1
    rw [FAt.len r]
theorem FAt.snoc {H : Hp} {v : V} {t : Addr} {x : Str} (e : H t = some (.tup [.str x, v])) : ∀ {vs : List V} {l : List Str}, FAt H v vs l → FAt H v (vs ++ [.ref t]) (l ++ [x])
  | _, _, .nil => .cons e .nil
  | _, _, .cons e1 r => .cons e1 (r.snoc e)
def yes (l : List (Str × Bool)) : List Str := (l.filter (·.2)).map (·.1)
theorem yes_more {l : List (Str × Bool)} {i : Nat} {x : Str} {b : Bool} (h : l[i]? = some (x, b)) : yes (l.take (i + 1)) = yes (l.take i) ++ (if b = true then [x] else []) := by
  unfold yes
  rw [take_more h, List.filter_append, List.map_append]
  congr 1
  cases b with
  | true => rfl
  | false => rfl
theorem yes_len (l : List (Str × Bool)) : (yes l).length ≤ l.length := by
  unfold yes
  rw [List.length_map]
  exact List.length_filter_le _ _
theorem cb0_ext {P : Program} {w : World} {K : PySem.W.Frag} {mg : Str → Option Value} {base : Heap} {k : Nat} {H H' : Hp} {f : Addr} {sp : Sp} (c : Cb0 P w K mg base k H f sp) (e : ExtN H H') : Cb0 P w K mg base k H' f sp := by
  obtain ⟨W, y, x, spx, l, r⟩ := c
  exact ⟨W, y, x, spx, l.ext e, r⟩
section
variable {P : Program} {w : World} {K : PySem.W.Frag} {mg : Str → Option Value} {base : Heap} {f : Addr} {fd0 : FuncData} {cl : Str → Addr} {k : Nat}
def spSaid (P : Program) (w : World) (K : PySem.W.Frag) (mg : Str → Option Value) (base : Heap) (k : Nat) (cl : Str → Addr) : Sp := fun vs H Q _ => ∃ (f : Addr) (sp : Sp) (R : V → Hp → Prop) (RX : Value → Option Addr → Hp → Prop), vs = [.ref f] ∧ Cb0 P w K mg base k H f sp ∧
  (∀ H1, Same H H1 → ∀ (Q' : VK) (E' : XK), (∀ v H2, R v H2 → Q' v H2) → (∀ c d H2, RX c d H2 → E' c d H2) → sp [] H1 Q' E') ∧ (∀ v H1, R v H1 → ∀ H2 p, Same H1 H2 → H2 p = some (.lst [v]) → Q (.ref p) H2) ∧
  (∀ c d H1, RX c d H1 → ∃ dx, d = some dx ∧ ((c = .ref (cl "BadTree") ∧ ∃ v, H1 dx = some (.xd [("value", v)]) ∧ ∀ H2 p, Same H1 H2 → H2 p = some (.tup [.str "tree", v]) → Q (.ref p) H2) ∨
    (c = .ref (cl "BadText") ∧ ∃ l v, H1 dx = some (.xd [("word", v), ("line", l)]) ∧ ∀ H2 p, Same H1 H2 → H2 p = some (.tup [.str "text", l, v]) → Q (.ref p) H2)))
abbrev nSaid : List Str := ["_law_call", "_law_told_so", "_law_error", "e", "_law_some", "_law_found", "_law_word", "_law_is_so"]
theorem sc_lsaid : FnScope nSaid ["_law_call"] (defScope s_lsaid) := ⟨rfl, rfl, rfl, by decide +kernel, rfl, by decide +kernel, by decide +kernel⟩
theorem ok_lsaid (X : Tx mg) (S : SX K mg cl) (F : Fun K "_law_said" "_law_said" s_lsaid f fd0) : FnOk P w K mg base CX0 (k + 1) f fd0 ["_law_call"] (spSaid P w K mg base k cl) := by
  refine F.ok sc_lsaid (fun vs H Q E h => ?_) (fun cdv A outer s H vs Q E hr h => ?_)
  · obtain ⟨f, sp, R, RX, rfl, _⟩ := h
    rfl
  · obtain ⟨fc, sp, R, RX, rfl, hcb, hsp, hR, hRX⟩ := h
    have nd := sc_lsaid.nd
    refine ⟨_, pss_cons (ps_asg (pe_tup (pa_cons (pe_lst pa_nil) (pa_cons pe_non pa_nil))) (pg_tup rfl (pgs_cons (pg_name (i := 1) nd rfl (Or.inl rfl)) (pgs_cons (pg_name (i := 2) nd rfl (Or.inr rfl)) pgs_nil))))
      (pss_cons (L2.KT.ps_try_keep (i := 3) (j := 2) (c := .ref (cl "PileError")) (tb := fun W => tAsg (tLst (tCons (tCall0C P w K mg base k 0 (WE W)) tNil)) (gName 1)) rfl rfl nd rfl rfl rfl (Or.inr rfl) (Or.inl rfl) ⟨rfl, by decide, .inl S.gP⟩ rfl
        (fun W pn xe tk _ => pss_one (ps_set (i := 1) nd rfl (Or.inl rfl) (pe_lst (pa_cons (pe_call0C (k := k) (i := 0) hr rfl (Or.inl rfl) (fun σ => passAt tk σ)) pa_nil)))))
      (pss_cons (ps_if (pt_cmpR op_isN (pv 2) pe_non (nomark _)) (pss_one (ps_ret (pv 1))) pss_nil)
      (pss_cons (ps_set (i := 4) nd rfl (Or.inl rfl) (pe_lst (pa_cons (pe_tup (pa_cons pe_str (pa_cons (pe_callB L2.KT.call_isX (by rfl) (X.b "isinstance") (by decide +kernel) (pa_cons (pv 2) (pa_cons (pe_cls S (by rfl)) pa_nil))) pa_nil))) (pa_cons (pe_tup (pa_cons pe_str (pa_cons (pe_callB L2.KT.call_isX (by rfl) (X.b "isinstance") (by decide +kernel) (pa_cons (pv 2) (pa_cons (pe_cls S (by rfl)) pa_nil))) pa_nil))) pa_nil))))
      (pss_cons (ps_set (i := 4) nd rfl (Or.inl rfl) (pe_op op_cat (pv 4) (pe_lst (pa_cons (pe_tup (pa_cons pe_str (pa_cons (pe_callB L2.KT.call_isX (by rfl) (X.b "isinstance") (by decide +kernel) (pa_cons (pv 2) (pa_cons (pe_cls S (by rfl)) pa_nil))) pa_nil))) (pa_cons (pe_tup (pa_cons pe_str (pa_cons (pe_callB L2.KT.call_isX (by rfl) (X.b "isinstance") (by decide +kernel) (pa_cons (pv 2) (pa_cons (pe_cls S (by rfl)) pa_nil))) pa_nil))) pa_nil)))))
      (pss_cons (ps_setLc (i := 5) (own := [("_law_word", 6), ("_law_is_so", 7)]) (g := gTup K 2 (gCons (gName 6) (gCons (gName 7) gNil))) (tt := tB (tVar 7)) (te := tTup (tCons (tVar 6) (tCons (L2.KT.tExf K "value" (tVar 2)) tNil))) rfl nd rfl rfl (sw_true rfl rfl rfl (by decide +kernel)) (pi_list (pv 4)) (blkOk_by (N := nSaid) (sc := defScope s_lsaid) (by decide +kernel))
          (fun _ _ _ _ _ => pg_tup rfl (pgs_cons (pg_name (i := 6) nd rfl (Or.inl rfl)) (pgs_cons (pg_name (i := 7) nd rfl (Or.inl rfl)) pgs_nil))) (fun _ _ _ _ _ => pts_one (pt_val (pv 7))) (fun _ _ _ _ _ => pe_tup (pa_cons (pv 6) (pa_cons (L2.KT.pe_exf (pv 2)) pa_nil))))
      (pss_cons (ps_set (i := 4) nd rfl (Or.inl rfl) (pe_lst (pa_cons (pe_tup (pa_cons pe_str (pa_cons (pe_callB L2.KT.call_isX (by rfl) (X.b "isinstance") (by decide +kernel) (pa_cons (pv 2) (pa_cons (pe_cls S (by rfl)) pa_nil))) pa_nil))) (pa_cons (pe_tup (pa_cons pe_str (pa_cons (pe_callB L2.KT.call_isX (by rfl) (X.b "isinstance") (by decide +kernel) (pa_cons (pv 2) (pa_cons (pe_cls S (by rfl)) pa_nil))) pa_nil))) pa_nil))))
      (pss_cons (ps_expr (pe_bm PySem.F.plainAttrs_list PySem.F.slot_list_append PySem.F.type_list_append mt_append (pv 4) (pa_cons (pe_tup (pa_cons pe_str (pa_cons (pe_callB L2.KT.call_isX (by rfl) (X.b "isinstance") (by decide +kernel) (pa_cons (pv 2) (pa_cons (pe_cls S (by rfl)) pa_nil))) pa_nil))) pa_nil)))
      (pss_cons (ps_set (i := 5) nd rfl (Or.inl rfl) (pe_op op_cat (pv 5) (pe_lc (own := [("_law_word", 6), ("_law_is_so", 7)]) (g := gTup K 2 (gCons (gName 6) (gCons (gName 7) gNil))) (tt := tB (tVar 7)) (te := tTup (tCons (tVar 6) (tCons (L2.KT.tExf K "place" (tVar 2)) tNil))) rfl nd (pi_list (pv 4)) (blkOk_by (N := nSaid) (sc := defScope s_lsaid) (by decide +kernel))
          (fun _ _ _ _ _ => pg_tup rfl (pgs_cons (pg_name (i := 6) nd rfl (Or.inl rfl)) (pgs_cons (pg_name (i := 7) nd rfl (Or.inl rfl)) pgs_nil))) (fun _ _ _ _ _ => pts_one (pt_val (pv 7))) (fun _ _ _ _ _ => pe_tup (pa_cons (pv 6) (pa_cons (L2.KT.pe_exf (pv 2)) pa_nil))))))
      (pss_cons (ps_if (pt_val (pe_callB L2.KT.call_isX (by rfl) (X.b "isinstance") (by decide +kernel) (pa_cons (pv 2) (pa_cons (pe_cls S (by rfl)) pa_nil)))) (pss_one (ps_expr (pe_bm PySem.F.plainAttrs_list PySem.F.slot_list_append PySem.F.type_list_append mt_append (pv 5) (pa_cons (pe_tup (pa_cons pe_str (pa_cons (L2.KT.pe_exf (pv 2)) (pa_cons (L2.KT.pe_exf (pv 2)) pa_nil)))) pa_nil)))) pss_nil)
      (pss_cons (ps_if (pt_val (pe_callB L2.KT.call_isX (by rfl) (X.b "isinstance") (by decide +kernel) (pa_cons (pv 2) (pa_cons (pe_cls S (by rfl)) pa_nil)))) (pss_one (ps_expr (pe_bm PySem.F.plainAttrs_list PySem.F.slot_list_append PySem.F.type_list_append mt_append (pv 5) (pa_cons (pe_tup (pa_cons pe_str (pa_cons (L2.KT.pe_exf (pv 2)) pa_nil))) pa_nil)))) pss_nil)
      (pss_one (ps_ret (pe_ifExp (pt_cmpR op_eq (pe_callB call_len_seq (by rfl) (X.b "len") PySem.boot_len (pa_cons (pv 5) pa_nil)) pe_int (nomark _)) (pe_ix ix_list (pv 5) pe_int (fun _ _ => rfl)) (pe_tup (pa_cons pe_str pa_nil))))))))))))))), ?_⟩
    refine ⟨Nat.zero_le _, fun l0 nl0 => ⟨(by show 2 ≤ sizeLine; decide), fun t0 nt0 => ?_⟩⟩
    refine ⟨t0, _, rfl, SqT.of upd_same, rfl, _, _, rfl, _, _, rfl, rfl, ?_⟩
    have sA := (same_upd (o := .lst []) nl0).upd (o := .tup [.ref l0, .non]) nt0
    generalize upd (upd H l0 (.lst [])) t0 (.tup [.ref l0, .non]) = H1 at *
    refine ⟨fc, sp, rfl, cb0_ext hcb (ext_same sA), hsp H1 sA _ _ (fun v H2 r => ?_) (fun c d H2 rx => ?_)⟩
    · refine ⟨(by show 1 ≤ sizeLine; decide), fun p np => ?_⟩
      exact ⟨_, rfl, rfl, _, rfl, iteT ⟨_, rfl, hR v H2 r _ p (same_upd np) upd_same⟩⟩
    obtain ⟨dx, rfl, h⟩ := hRX c d H2 rx
    rcases h with ⟨rfl, v, hdx, kq⟩ | ⟨rfl, lv, v, hdx, kq⟩
    · refine ⟨S.exT, fun a na => ?_⟩
      -- a, the error, is kept
      have e0A : upd H2 a (L2.KT.ExcV (.ref (cl "BadTree")) (some dx) a) a = some (L2.KT.ExcV (.ref (cl "BadTree")) (some dx) a) := upd_same
      have e0D : upd H2 a (L2.KT.ExcV (.ref (cl "BadTree")) (some dx) a) dx = some (.xd [("value", v)]) := same_upd na _ _ hdx
      have s0 := same_upd (o := L2.KT.ExcV (.ref (cl "BadTree")) (some dx) a) na
      generalize upd H2 a (L2.KT.ExcV (.ref (cl "BadTree")) (some dx) a) = H3 at *
      refine ⟨_, rfl, rfl, _, rfl, iteF ?_⟩
      refine ⟨_, rfl, a, cl "BadTree", cl "BadTree", dx, _, true, rfl, e0A, e0D, S.eT, (S.isT "BadTree" (by decide +kernel)).trans (by decide +kernel), (by show 2 ≤ sizeLine; decide), fun t1 nt1 => ?_⟩
      have s1 := same_upd (o := .tup [.str "tree", .bl true]) nt1
      have e1A := s1 _ _ e0A
      have e1D := s1 _ _ e0D
      refine ⟨_, rfl, a, cl "BadTree", cl "BadPath", dx, _, false, rfl, e1A, e1D, S.eT, (S.isT "BadPath" (by decide +kernel)).trans (by decide +kernel), (by show 2 ≤ sizeLine; decide), fun t2 nt2 => ⟨(by show 2 ≤ sizeLine; decide), fun l1 nl1 => ?_⟩⟩
      have s2 := same_upd (o := .tup [.str "path", .bl false]) nt2
      have s3 := same_upd (o := .lst [.ref t1, .ref t2]) nl1
      have e3A := s3 _ _ (s2 _ _ e1A)
      have e3D := s3 _ _ (s2 _ _ e1D)
      have et1 := s3 _ _ (s2 _ _ (upd_same (H := H3) (a := t1) (o := .tup [.str "tree", .bl true])))
      have et2 := s3 _ _ (upd_same (H := upd H3 t1 (.tup [.str "tree", .bl true])) (a := t2) (o := .tup [.str "path", .bl false]))
      have el1 : upd (upd (upd H3 t1 (.tup [.str "tree", .bl true])) t2 (.tup [.str "path", .bl false])) l1 (.lst [.ref t1, .ref t2]) l1 = some (.lst [.ref t1, .ref t2]) := upd_same
      have S3 := ((s0.trans s1).trans s2).trans s3
      generalize upd (upd (upd H3 t1 (.tup [.str "tree", .bl true])) t2 (.tup [.str "path", .bl false])) l1 (.lst [.ref t1, .ref t2]) = H4 at *
      -- some = some + [..]
      refine ⟨_, rfl, _, rfl, a, cl "BadTree", cl "BadUpper", dx, _, false, rfl, e3A, e3D, S.eT, (S.isT "BadUpper" (by decide +kernel)).trans (by decide +kernel), (by show 2 ≤ sizeLine; decide), fun t3 nt3 => ?_⟩
      have s4 := same_upd (o := .tup [.str "upper", .bl false]) nt3
      have e4A := s4 _ _ e3A
      have e4D := s4 _ _ e3D
      refine ⟨_, rfl, a, cl "BadTree", cl "BadDeed", dx, _, false, rfl, e4A, e4D, S.eT, (S.isT "BadDeed" (by decide +kernel)).trans (by decide +kernel), (by show 2 ≤ sizeLine; decide), fun t4 nt4 => ⟨(by show 2 ≤ sizeLine; decide), fun l2 nl2 => ?_⟩⟩
      have s5 := same_upd (o := .tup [.str "deed", .bl false]) nt4
      have s6 := same_upd (o := .lst [.ref t3, .ref t4]) nl2
      have S46 := (s4.trans s5).trans s6
      have et3 := s6 _ _ (s5 _ _ (upd_same (H := H4) (a := t3) (o := .tup [.str "upper", .bl false])))
      have et4 := s6 _ _ (upd_same (H := upd H4 t3 (.tup [.str "upper", .bl false])) (a := t4) (o := .tup [.str "deed", .bl false]))
      have el2 : upd (upd (upd H4 t3 (.tup [.str "upper", .bl false])) t4 (.tup [.str "deed", .bl false])) l2 (.lst [.ref t3, .ref t4]) l2 = some (.lst [.ref t3, .ref t4]) := upd_same
      have e6A := S46 _ _ e3A
      have e6D := S46 _ _ e3D
      have et1' := S46 _ _ et1
      have et2' := S46 _ _ et2
      have el1' := S46 _ _ el1
      have S6 := S3.trans S46
      generalize upd (upd (upd H4 t3 (.tup [.str "upper", .bl false])) t4 (.tup [.str "deed", .bl false])) l2 (.lst [.ref t3, .ref t4]) = H5 at *
      refine ⟨l1, l2, _, _, rfl, rfl, el1', el2, (by show 4 ≤ sizeLine; decide), fun l3 nl3 => ?_⟩
      have s7 := same_upd (o := .lst ([.ref t1, .ref t2] ++ [.ref t3, .ref t4])) nl3
      have el3 : upd H5 l3 (.lst ([.ref t1, .ref t2] ++ [.ref t3, .ref t4])) l3 = some (.lst [.ref t1, .ref t2, .ref t3, .ref t4]) := upd_same
      have bat : BAt (upd H5 l3 (.lst ([.ref t1, .ref t2] ++ [.ref t3, .ref t4]))) [.ref t1, .ref t2, .ref t3, .ref t4] [("tree", true), ("path", false), ("upper", false), ("deed", false)] :=
        .cons (s7 _ _ et1') (.cons (s7 _ _ et2') (.cons (s7 _ _ et3) (.cons (s7 _ _ et4) .nil)))
      have e7A := s7 _ _ e6A
      have e7D := s7 _ _ e6D
      have S7 := S6.trans s7
      generalize upd H5 l3 (.lst ([.ref t1, .ref t2] ++ [.ref t3, .ref t4])) = H6 at *
      -- found
      refine ⟨_, rfl, l3, rfl, ⟨_, SqL.of el3⟩, fun D1 hD1 => ?_⟩
      refine lc_it (walk_list (K := K) (a := l3) (xs := [V.ref t1, .ref t2, .ref t3, .ref t4])) (fun i H' => Same H6 H' ∧ ∃ us, H' D1 = some (.lst us) ∧ FAt H' v us (yes (([("tree", true), ("path", false), ("upper", false), ("deed", false)] : List (Str × Bool)).take i)) ∧ us.length ≤ i) ⟨same_upd hD1, [], upd_same, .nil, Nat.le_refl _⟩ (fun i H' _ q => SqL.of (q.1 _ _ el3)) ?_ ?_
      · rintro i y H7 H8 hi ⟨sa, us, ea, fa, na'⟩ ⟨rfl, hy⟩
        obtain ⟨t, x, b, rfl, hm, ht⟩ := bat.at_ hy
        refine ⟨t, _, rfl, SqT.of (sa _ _ ht), rfl, _, _, rfl, _, _, rfl, rfl, rfl, _, rfl, b, rfl, ?_⟩
        have hi4 : i < 4 := hi
        cases b with
        | false =>
          refine iteF ⟨sa, us, ea, ?_, by omega⟩
          rw [yes_more hm]
          show FAt H8 v us (yes _ ++ [])
          rw [List.append_nil]
          exact fa
        | true =>
          refine iteT ⟨_, rfl, _, rfl, a, cl "BadTree", dx, _, v, rfl, sa _ _ e7A, sa _ _ e7D, S.fT, S.nv, rfl, (by show 2 ≤ sizeLine; decide), fun t5 nt5 => ?_⟩
          have sb := same_upd (o := .tup [.str x, v]) nt5
          have eb := sb _ _ ea
          have tk : TupK (upd H8 t5 (.tup [.str x, v])) (upd (upd H8 t5 (.tup [.str x, v])) D1 (.lst (us ++ [.ref t5]))) := fun b xs e => (upd_ne (ne_of e eb fun z => by cases z)).trans e
          refine ⟨us, eb, big8 (by omega), same_putD hD1 (sa.trans sb), us ++ [.ref t5], upd_same, ?_, ?_⟩
          · rw [yes_more hm]
            exact FAt.snoc (tk _ _ upd_same) (fa.keep ((tupK_same sb).trans tk))
          · rw [List.length_append]
            show us.length + 1 ≤ i + 1
            omega
      rintro H7 ⟨sa, us, ea, fa, na'⟩
      have fa2 : FAt H7 v us ["tree"] := fa
      have S8 := S7.trans sa
      have e8A := sa _ _ e7A
      have e8D := sa _ _ e7D
      obtain ⟨tv, rfl, etv⟩ : ∃ tv, us = [V.ref tv] ∧ H7 tv = some (.tup [.str "tree", v]) := by
        cases fa2 with
        | cons e r =>
          cases r
          exact ⟨_, rfl, e⟩
      -- some = [book, row]
      refine ⟨_, rfl, a, cl "BadTree", cl "BadBook", dx, _, false, rfl, e8A, e8D, S.eT, (S.isT "BadBook" (by decide +kernel)).trans (by decide +kernel), (by show 2 ≤ sizeLine; decide), fun t5 nt5 => ?_⟩
      have s91 := same_upd (o := .tup [.str "book", .bl false]) nt5
      have e91A := s91 _ _ e8A
      have e91D := s91 _ _ e8D
      refine ⟨_, rfl, a, cl "BadTree", cl "BadRow", dx, _, false, rfl, e91A, e91D, S.eT, (S.isT "BadRow" (by decide +kernel)).trans (by decide +kernel), (by show 2 ≤ sizeLine; decide), fun t6 nt6 => ⟨(by show 2 ≤ sizeLine; decide), fun l4 nl4 => ?_⟩⟩
      have s92 := same_upd (o := .tup [.str "row", .bl false]) nt6
      have s93 := same_upd (o := .lst [.ref t5, .ref t6]) nl4
      have S91 := (s91.trans s92).trans s93
      have et5 := s93 _ _ (s92 _ _ (upd_same (H := H7) (a := t5) (o := .tup [.str "book", .bl false])))
      have et6 := s93 _ _ (upd_same (H := upd H7 t5 (.tup [.str "book", .bl false])) (a := t6) (o := .tup [.str "row", .bl false]))
      have el4 : upd (upd (upd H7 t5 (.tup [.str "book", .bl false])) t6 (.tup [.str "row", .bl false])) l4 (.lst [.ref t5, .ref t6]) l4 = some (.lst [.ref t5, .ref t6]) := upd_same
      have e9A := S91 _ _ e8A
      have e9D := S91 _ _ e8D
      have ea9 := S91 _ _ ea
      have nl4H : H2 l4 = none := S8.free ((s91.trans s92).free nl4)
      have etv1 := S91 _ _ etv
      have S9 := S8.trans S91
      generalize upd (upd (upd H7 t5 (.tup [.str "book", .bl false])) t6 (.tup [.str "row", .bl false])) l4 (.lst [.ref t5, .ref t6]) = H8 at *
      -- some.append(layers)
      refine ⟨_, rfl, .inl ⟨rfl, _, SqL.of el4⟩, _, rfl, a, cl "BadTree", cl "BadLayers", dx, _, false, rfl, e9A, e9D, S.eT, (S.isT "BadLayers" (by decide +kernel)).trans (by decide +kernel), (by show 2 ≤ sizeLine; decide), fun t7 nt7 => ?_⟩
      have s94 := same_upd (o := .tup [.str "layers", .bl false]) nt7
      have el4' := s94 _ _ el4
      refine ⟨l4, _, _, rfl, rfl, el4', (by show 2 < sizeLine; decide), ?_⟩
      have ne9 : D1 ≠ l4 := fun z => by
        rw [z] at ea9
        rw [el4] at ea9
        cases ea9
      have ke : ∀ {b : Addr} {o : HO}, H8 b = some o → b ≠ l4 → upd (upd H8 t7 (.tup [.str "layers", .bl false])) l4 (.lst ([.ref t5, .ref t6] ++ [.ref t7])) b = some o := fun {b o} e n => (upd_ne n).trans (s94 _ _ e)
      have S10 : Same H2 (upd (upd H8 t7 (.tup [.str "layers", .bl false])) l4 (.lst ([.ref t5, .ref t6] ++ [.ref t7]))) := same_putD nl4H (S9.trans s94)
      have n4 : ∀ {b : Addr} {o : HO}, H8 b = some o → (∀ xs, o ≠ .lst xs) → b ≠ l4 := fun {b o} e n => ne_of e el4 fun z => n _ z
      have eaA := ke e9A (n4 e9A (fun xs z => by unfold L2.KT.ExcV at z; cases z))
      have eaD := ke e9D (n4 e9D fun _ z => by cases z)
      have ea10 := ke ea9 ne9
      have bat2 : BAt (upd (upd H8 t7 (.tup [.str "layers", .bl false])) l4 (.lst ([.ref t5, .ref t6] ++ [.ref t7]))) [.ref t5, .ref t6, .ref t7] [("book", false), ("row", false), ("layers", false)] :=
        .cons (ke et5 (n4 et5 fun _ z => by cases z)) (.cons (ke et6 (n4 et6 fun _ z => by cases z)) (.cons ((upd_ne (ne_of (upd_same (H := H8) (a := t7) (o := .tup [.str "layers", .bl false])) el4' fun z => by cases z)).trans upd_same) .nil))
      have el4b : upd (upd H8 t7 (.tup [.str "layers", .bl false])) l4 (.lst ([.ref t5, .ref t6] ++ [.ref t7])) l4 = some (.lst [.ref t5, .ref t6, .ref t7]) := upd_same
      have etv2 := ke etv1 (n4 etv1 fun _ z => by cases z)
      generalize upd (upd H8 t7 (.tup [.str "layers", .bl false])) l4 (.lst ([.ref t5, .ref t6] ++ [.ref t7])) = H9 at *
      -- found + [place ..]
      refine ⟨_, rfl, _, rfl, l4, rfl, ⟨_, SqL.of el4b⟩, fun D2 hD2 => ?_⟩
      refine lc_it (walk_list (K := K) (a := l4) (xs := [V.ref t5, .ref t6, .ref t7])) (fun i H' => Same H9 H' ∧ H' D2 = some (.lst [])) ⟨same_upd hD2, upd_same⟩ (fun i H' _ q => SqL.of (q.1 _ _ el4b)) ?_ ?_
      · rintro i y H10 H11 hi ⟨sc, ec⟩ ⟨rfl, hy⟩
        obtain ⟨t, x, b, rfl, hm, ht⟩ := bat2.at_ hy
        have hm2 := List.mem_of_getElem? hm
        have this : ∀ q ∈ ([("book", false), ("row", false), ("layers", false)] : List (Str × Bool)), q.2 = false := by decide +kernel
        have z : b = false := this _ hm2
        subst z
        exact ⟨t, _, rfl, SqT.of (sc _ _ ht), rfl, _, _, rfl, _, _, rfl, rfl, rfl, _, rfl, false, rfl, iteF ⟨sc, ec⟩⟩
      rintro H10 ⟨sc, ec⟩
      refine ⟨D1, D2, _, _, rfl, rfl, sc _ _ ea10, ec, (by show 1 ≤ sizeLine; decide), fun l5 nl5 => ?_⟩
      have sd := same_upd (o := .lst ([.ref tv] ++ [])) nl5
      have Sd := sc.trans sd
      have el5 : upd H10 l5 (.lst ([.ref tv] ++ [])) l5 = some (.lst [.ref tv]) := upd_same
      have edA := Sd _ _ eaA
      have edD := Sd _ _ eaD
      have etv3 := Sd _ _ etv2
      have S11 := S10.trans Sd
      have nl5H : H2 l5 = none := (S10.trans sc).free nl5
      generalize upd H10 l5 (.lst ([.ref tv] ++ [])) = H11 at *
      refine ⟨_, rfl, a, cl "BadTree", cl "BadText", dx, _, false, rfl, edA, edD, S.eT, (S.isT "BadText" (by decide +kernel)).trans (by decide +kernel), _, rfl, iteF ?_⟩
      refine ⟨_, rfl, a, cl "BadTree", cl "Refused", dx, _, false, rfl, edA, edD, S.eT, (S.isT "Refused" (by decide +kernel)).trans (by decide +kernel), _, rfl, iteF ?_⟩
      refine ⟨_, rfl, l5, _, rfl, .inl (SqL.of el5), rfl, _, rfl, ?_⟩
      refine iteT ⟨_, rfl, l5, _, _, _, rfl, rfl, SqL.of el5, at0, ?_⟩
      exact kq H11 tv S11 etv3
    · refine ⟨S.exX, fun a na => ?_⟩
      have lk_word : List.lookup ("word" : Str) [(("word" : Str), v), ("line", lv)] = some v := by rw [List.lookup_cons, beq_yes]
      have lk_line : List.lookup ("line" : Str) [(("word" : Str), v), ("line", lv)] = some lv := by rw [List.lookup_cons, beq_no (by decide +kernel), List.lookup_cons, beq_yes]
      -- a, the error, is kept
      have e0A : upd H2 a (L2.KT.ExcV (.ref (cl "BadText")) (some dx) a) a = some (L2.KT.ExcV (.ref (cl "BadText")) (some dx) a) := upd_same
      have e0D : upd H2 a (L2.KT.ExcV (.ref (cl "BadText")) (some dx) a) dx = some (.xd [("word", v), ("line", lv)]) := same_upd na _ _ hdx
      have s0 := same_upd (o := L2.KT.ExcV (.ref (cl "BadText")) (some dx) a) na
      generalize upd H2 a (L2.KT.ExcV (.ref (cl "BadText")) (some dx) a) = H3 at *
      refine ⟨_, rfl, rfl, _, rfl, iteF ?_⟩
      refine ⟨_, rfl, a, cl "BadText", cl "BadTree", dx, _, false, rfl, e0A, e0D, S.eX, (S.isX "BadTree" (by decide +kernel)).trans (by decide +kernel), (by show 2 ≤ sizeLine; decide), fun t1 nt1 => ?_⟩
      have s1 := same_upd (o := .tup [.str "tree", .bl false]) nt1
      have e1A := s1 _ _ e0A
      have e1D := s1 _ _ e0D
      refine ⟨_, rfl, a, cl "BadText", cl "BadPath", dx, _, false, rfl, e1A, e1D, S.eX, (S.isX "BadPath" (by decide +kernel)).trans (by decide +kernel), (by show 2 ≤ sizeLine; decide), fun t2 nt2 => ⟨(by show 2 ≤ sizeLine; decide), fun l1 nl1 => ?_⟩⟩
      have s2 := same_upd (o := .tup [.str "path", .bl false]) nt2
      have s3 := same_upd (o := .lst [.ref t1, .ref t2]) nl1
      have e3A := s3 _ _ (s2 _ _ e1A)
      have e3D := s3 _ _ (s2 _ _ e1D)
      have et1 := s3 _ _ (s2 _ _ (upd_same (H := H3) (a := t1) (o := .tup [.str "tree", .bl false])))
      have et2 := s3 _ _ (upd_same (H := upd H3 t1 (.tup [.str "tree", .bl false])) (a := t2) (o := .tup [.str "path", .bl false]))
      have el1 : upd (upd (upd H3 t1 (.tup [.str "tree", .bl false])) t2 (.tup [.str "path", .bl false])) l1 (.lst [.ref t1, .ref t2]) l1 = some (.lst [.ref t1, .ref t2]) := upd_same
      have S3 := ((s0.trans s1).trans s2).trans s3
      generalize upd (upd (upd H3 t1 (.tup [.str "tree", .bl false])) t2 (.tup [.str "path", .bl false])) l1 (.lst [.ref t1, .ref t2]) = H4 at *
      -- some = some + [..]
      refine ⟨_, rfl, _, rfl, a, cl "BadText", cl "BadUpper", dx, _, false, rfl, e3A, e3D, S.eX, (S.isX "BadUpper" (by decide +kernel)).trans (by decide +kernel), (by show 2 ≤ sizeLine; decide), fun t3 nt3 => ?_⟩
      have s4 := same_upd (o := .tup [.str "upper", .bl false]) nt3
      have e4A := s4 _ _ e3A
      have e4D := s4 _ _ e3D
      refine ⟨_, rfl, a, cl "BadText", cl "BadDeed", dx, _, false, rfl, e4A, e4D, S.eX, (S.isX "BadDeed" (by decide +kernel)).trans (by decide +kernel), (by show 2 ≤ sizeLine; decide), fun t4 nt4 => ⟨(by show 2 ≤ sizeLine; decide), fun l2 nl2 => ?_⟩⟩
      have s5 := same_upd (o := .tup [.str "deed", .bl false]) nt4
      have s6 := same_upd (o := .lst [.ref t3, .ref t4]) nl2
      have S46 := (s4.trans s5).trans s6
      have et3 := s6 _ _ (s5 _ _ (upd_same (H := H4) (a := t3) (o := .tup [.str "upper", .bl false])))
      have et4 := s6 _ _ (upd_same (H := upd H4 t3 (.tup [.str "upper", .bl false])) (a := t4) (o := .tup [.str "deed", .bl false]))
      have el2 : upd (upd (upd H4 t3 (.tup [.str "upper", .bl false])) t4 (.tup [.str "deed", .bl false])) l2 (.lst [.ref t3, .ref t4]) l2 = some (.lst [.ref t3, .ref t4]) := upd_same
      have e6A := S46 _ _ e3A
      have e6D := S46 _ _ e3D
      have et1' := S46 _ _ et1
      have et2' := S46 _ _ et2
      have el1' := S46 _ _ el1
      have S6 := S3.trans S46
      generalize upd (upd (upd H4 t3 (.tup [.str "upper", .bl false])) t4 (.tup [.str "deed", .bl false])) l2 (.lst [.ref t3, .ref t4]) = H5 at *
      refine ⟨l1, l2, _, _, rfl, rfl, el1', el2, (by show 4 ≤ sizeLine; decide), fun l3 nl3 => ?_⟩
      have s7 := same_upd (o := .lst ([.ref t1, .ref t2] ++ [.ref t3, .ref t4])) nl3
      have el3 : upd H5 l3 (.lst ([.ref t1, .ref t2] ++ [.ref t3, .ref t4])) l3 = some (.lst [.ref t1, .ref t2, .ref t3, .ref t4]) := upd_same
      have bat : BAt (upd H5 l3 (.lst ([.ref t1, .ref t2] ++ [.ref t3, .ref t4]))) [.ref t1, .ref t2, .ref t3, .ref t4] [("tree", false), ("path", false), ("upper", false), ("deed", false)] :=
        .cons (s7 _ _ et1') (.cons (s7 _ _ et2') (.cons (s7 _ _ et3) (.cons (s7 _ _ et4) .nil)))
      have e7A := s7 _ _ e6A
      have e7D := s7 _ _ e6D
      have S7 := S6.trans s7
      generalize upd H5 l3 (.lst ([.ref t1, .ref t2] ++ [.ref t3, .ref t4])) = H6 at *
      -- found
      refine ⟨_, rfl, l3, rfl, ⟨_, SqL.of el3⟩, fun D1 hD1 => ?_⟩
      refine lc_it (walk_list (K := K) (a := l3) (xs := [V.ref t1, .ref t2, .ref t3, .ref t4])) (fun i H' => Same H6 H' ∧ ∃ us, H' D1 = some (.lst us) ∧ FAt H' v us (yes (([("tree", false), ("path", false), ("upper", false), ("deed", false)] : List (Str × Bool)).take i)) ∧ us.length ≤ i) ⟨same_upd hD1, [], upd_same, .nil, Nat.le_refl _⟩ (fun i H' _ q => SqL.of (q.1 _ _ el3)) ?_ ?_
      · rintro i y H7 H8 hi ⟨sa, us, ea, fa, na'⟩ ⟨rfl, hy⟩
        obtain ⟨t, x, b, rfl, hm, ht⟩ := bat.at_ hy
        refine ⟨t, _, rfl, SqT.of (sa _ _ ht), rfl, _, _, rfl, _, _, rfl, rfl, rfl, _, rfl, b, rfl, ?_⟩
        have hi4 : i < 4 := hi
        cases b with
        | false =>
          refine iteF ⟨sa, us, ea, ?_, by omega⟩
          rw [yes_more hm]
          show FAt H8 v us (yes _ ++ [])
          rw [List.append_nil]
          exact fa
        | true =>
          have hm2 := List.mem_of_getElem? hm
          have : ∀ q ∈ ([("tree", false), ("path", false), ("upper", false), ("deed", false)] : List (Str × Bool)), q.2 = false := by decide +kernel
          have z := this _ hm2
          cases z
      rintro H7 ⟨sa, us, ea, fa, na'⟩
      have fa2 : FAt H7 v us [] := fa
      have S8 := S7.trans sa
      have e8A := sa _ _ e7A
      have e8D := sa _ _ e7D
      obtain rfl : us = [] := by
        cases fa2
        rfl
      -- some = [book, row]
      refine ⟨_, rfl, a, cl "BadText", cl "BadBook", dx, _, false, rfl, e8A, e8D, S.eX, (S.isX "BadBook" (by decide +kernel)).trans (by decide +kernel), (by show 2 ≤ sizeLine; decide), fun t5 nt5 => ?_⟩
      have s91 := same_upd (o := .tup [.str "book", .bl false]) nt5
      have e91A := s91 _ _ e8A
      have e91D := s91 _ _ e8D
      refine ⟨_, rfl, a, cl "BadText", cl "BadRow", dx, _, false, rfl, e91A, e91D, S.eX, (S.isX "BadRow" (by decide +kernel)).trans (by decide +kernel), (by show 2 ≤ sizeLine; decide), fun t6 nt6 => ⟨(by show 2 ≤ sizeLine; decide), fun l4 nl4 => ?_⟩⟩
      have s92 := same_upd (o := .tup [.str "row", .bl false]) nt6
      have s93 := same_upd (o := .lst [.ref t5, .ref t6]) nl4
      have S91 := (s91.trans s92).trans s93
      have et5 := s93 _ _ (s92 _ _ (upd_same (H := H7) (a := t5) (o := .tup [.str "book", .bl false])))
      have et6 := s93 _ _ (upd_same (H := upd H7 t5 (.tup [.str "book", .bl false])) (a := t6) (o := .tup [.str "row", .bl false]))
      have el4 : upd (upd (upd H7 t5 (.tup [.str "book", .bl false])) t6 (.tup [.str "row", .bl false])) l4 (.lst [.ref t5, .ref t6]) l4 = some (.lst [.ref t5, .ref t6]) := upd_same
      have e9A := S91 _ _ e8A
      have e9D := S91 _ _ e8D
      have ea9 := S91 _ _ ea
      have nl4H : H2 l4 = none := S8.free ((s91.trans s92).free nl4)
      have S9 := S8.trans S91
      generalize upd (upd (upd H7 t5 (.tup [.str "book", .bl false])) t6 (.tup [.str "row", .bl false])) l4 (.lst [.ref t5, .ref t6]) = H8 at *
      -- some.append(layers)
      refine ⟨_, rfl, .inl ⟨rfl, _, SqL.of el4⟩, _, rfl, a, cl "BadText", cl "BadLayers", dx, _, false, rfl, e9A, e9D, S.eX, (S.isX "BadLayers" (by decide +kernel)).trans (by decide +kernel), (by show 2 ≤ sizeLine; decide), fun t7 nt7 => ?_⟩
      have s94 := same_upd (o := .tup [.str "layers", .bl false]) nt7
      have el4' := s94 _ _ el4
      refine ⟨l4, _, _, rfl, rfl, el4', (by show 2 < sizeLine; decide), ?_⟩
      have ne9 : D1 ≠ l4 := fun z => by
        rw [z] at ea9
        rw [el4] at ea9
        cases ea9
      have ke : ∀ {b : Addr} {o : HO}, H8 b = some o → b ≠ l4 → upd (upd H8 t7 (.tup [.str "layers", .bl false])) l4 (.lst ([.ref t5, .ref t6] ++ [.ref t7])) b = some o := fun {b o} e n => (upd_ne n).trans (s94 _ _ e)
      have S10 : Same H2 (upd (upd H8 t7 (.tup [.str "layers", .bl false])) l4 (.lst ([.ref t5, .ref t6] ++ [.ref t7]))) := same_putD nl4H (S9.trans s94)
      have n4 : ∀ {b : Addr} {o : HO}, H8 b = some o → (∀ xs, o ≠ .lst xs) → b ≠ l4 := fun {b o} e n => ne_of e el4 fun z => n _ z
      have eaA := ke e9A (n4 e9A (fun xs z => by unfold L2.KT.ExcV at z; cases z))
      have eaD := ke e9D (n4 e9D fun _ z => by cases z)
      have ea10 := ke ea9 ne9
      have bat2 : BAt (upd (upd H8 t7 (.tup [.str "layers", .bl false])) l4 (.lst ([.ref t5, .ref t6] ++ [.ref t7]))) [.ref t5, .ref t6, .ref t7] [("book", false), ("row", false), ("layers", false)] :=
        .cons (ke et5 (n4 et5 fun _ z => by cases z)) (.cons (ke et6 (n4 et6 fun _ z => by cases z)) (.cons ((upd_ne (ne_of (upd_same (H := H8) (a := t7) (o := .tup [.str "layers", .bl false])) el4' fun z => by cases z)).trans upd_same) .nil))
      have el4b : upd (upd H8 t7 (.tup [.str "layers", .bl false])) l4 (.lst ([.ref t5, .ref t6] ++ [.ref t7])) l4 = some (.lst [.ref t5, .ref t6, .ref t7]) := upd_same

      generalize upd (upd H8 t7 (.tup [.str "layers", .bl false])) l4 (.lst ([.ref t5, .ref t6] ++ [.ref t7])) = H9 at *
      -- found + [place ..]
      refine ⟨_, rfl, _, rfl, l4, rfl, ⟨_, SqL.of el4b⟩, fun D2 hD2 => ?_⟩
      refine lc_it (walk_list (K := K) (a := l4) (xs := [V.ref t5, .ref t6, .ref t7])) (fun i H' => Same H9 H' ∧ H' D2 = some (.lst [])) ⟨same_upd hD2, upd_same⟩ (fun i H' _ q => SqL.of (q.1 _ _ el4b)) ?_ ?_
      · rintro i y H10 H11 hi ⟨sc, ec⟩ ⟨rfl, hy⟩
        obtain ⟨t, x, b, rfl, hm, ht⟩ := bat2.at_ hy
        have hm2 := List.mem_of_getElem? hm
        have this : ∀ q ∈ ([("book", false), ("row", false), ("layers", false)] : List (Str × Bool)), q.2 = false := by decide +kernel
        have z : b = false := this _ hm2
        subst z
        exact ⟨t, _, rfl, SqT.of (sc _ _ ht), rfl, _, _, rfl, _, _, rfl, rfl, rfl, _, rfl, false, rfl, iteF ⟨sc, ec⟩⟩
      rintro H10 ⟨sc, ec⟩
      refine ⟨D1, D2, _, _, rfl, rfl, sc _ _ ea10, ec, (by show 0 ≤ sizeLine; decide), fun l5 nl5 => ?_⟩
      have sd := same_upd (o := .lst ([] ++ [])) nl5
      have Sd := sc.trans sd
      have el5 : upd H10 l5 (.lst ([] ++ [])) l5 = some (.lst []) := upd_same
      have edA := Sd _ _ eaA
      have edD := Sd _ _ eaD

      have S11 := S10.trans Sd
      have nl5H : H2 l5 = none := (S10.trans sc).free nl5
      generalize upd H10 l5 (.lst ([] ++ [])) = H11 at *
      refine ⟨_, rfl, a, cl "BadText", cl "BadText", dx, _, true, rfl, edA, edD, S.eX, (S.isX "BadText" (by decide +kernel)).trans (by decide +kernel), _, rfl, iteT ?_⟩
      refine ⟨_, rfl, .inl ⟨rfl, _, SqL.of el5⟩, _, rfl, a, cl "BadText", dx, _, lv, rfl, edA, edD, S.fX, S.nl, lk_line, _, rfl, a, cl "BadText", dx, _, v, rfl, edA, edD, S.fX, S.nw, lk_word, (by show 3 ≤ sizeLine; decide), fun t8 nt8 => ?_⟩
      have se := same_upd (o := .tup [.str "text", lv, v]) nt8
      have el5' := se _ _ el5
      refine ⟨l5, _, _, rfl, rfl, el5', (by show 0 < sizeLine; decide), ?_⟩
      have S12 : Same H2 (upd (upd H11 t8 (.tup [.str "text", lv, v])) l5 (.lst ([] ++ [.ref t8]))) := same_putD nl5H (S11.trans se)
      have ke2 : ∀ {b : Addr} {o : HO}, upd H11 t8 (.tup [.str "text", lv, v]) b = some o → (∀ xs, o ≠ .lst xs) → upd (upd H11 t8 (.tup [.str "text", lv, v])) l5 (.lst ([] ++ [.ref t8])) b = some o := fun {b o} e n => (upd_ne (ne_of e el5' fun z => n _ z)).trans e
      have efA := ke2 (se _ _ edA) (fun xs z => by unfold L2.KT.ExcV at z; cases z)
      have efD := ke2 (se _ _ edD) fun _ z => by cases z
      have et8 := ke2 upd_same fun _ z => by cases z
      have el5f : upd (upd H11 t8 (.tup [.str "text", lv, v])) l5 (.lst ([] ++ [.ref t8])) l5 = some (.lst [.ref t8]) := upd_same
      generalize upd (upd H11 t8 (.tup [.str "text", lv, v])) l5 (.lst ([] ++ [.ref t8])) = H12 at *
      refine ⟨_, rfl, a, cl "BadText", cl "Refused", dx, _, false, rfl, efA, efD, S.eX, (S.isX "Refused" (by decide +kernel)).trans (by decide +kernel), _, rfl, iteF ?_⟩
      refine ⟨_, rfl, l5, _, rfl, .inl (SqL.of el5f), rfl, _, rfl, ?_⟩
      refine iteT ⟨_, rfl, l5, _, _, _, rfl, rfl, SqL.of el5f, at0, ?_⟩
      exact kq H12 t8 S12 et8
end
end KD23
end L2
set_option Elab.async false
set_option linter.all false
set_option maxRecDepth 100000
set_option maxHeartbeats 4000000
/-! k92: _law_like, _law_right -/
namespace L2
namespace KD24
open PySem PySem.Spec PyProof.Rows LamX NdefX KB KN KH KL KR KM KX KD1 KD2 KD3 KD4 KD5 KD6 KD7 KMa KD8 KD9 KD10 KD11 KD12 KD13 KD14 KD15 KMb KD16 KD17 KMc KD18 KD19 KD20 KD21 KD22 KD23
abbrev s_llike : Stmt := top 53
abbrev s_lright : Stmt := top 65
/-- data that can be shown -/
structure Sh (d : PyData) : Prop where
  show_ : d.showable = true
  nodict : d.hasDict = false
  deep : d.depth ≤ 100
  short : d.shown.length ≤ sizeLine
/-- a def by its name, nothing being shown around it -/
def CaG (P : Program) (w : World) (K : PySem.W.Frag) (mg : Str → Option Value) (base : Heap) (k : Nat) (x : Str) (ps : List Str) (sp : Sp) : Prop :=
  ∃ (f : Addr) (fd : FuncData), FnG P w K mg base k f fd ps sp ∧ mg x = some (.ref f) ∧ PySem.W.keepIn K (.ref f) = true ∧ Binds K fd ps []
section
variable {P : Program} {w : World} {K : PySem.W.Frag} {mg : Str → Option Value} {base : Heap}
theorem _root_.L2.Fun.okG {x qual : Str} {st : Stmt} {f : Addr} {fd : FuncData} {N ps : List Str} {k : Nat} {sp : Sp} (F : Fun K x qual st f fd) (S : FnScope N ps (defScope st)) (len : ∀ vs H Q E, sp vs H Q E → vs.length = ps.length)
    (hbody : ∀ (cdv : Value) (A : Around) (outer : List Env) (s : Shared) (H : Hp) (vs : List V) (Q : VK) (E : XK), A.guards = some [] → Room k (A.deeper (envOfC qual (defScope st) s.heap.objs.size f cdv)) → sp vs H Q E →
      ∃ t, PSs (cxOf CX0 P w K mg base N qual (defScope st) f cdv A outer s H E).nox (defBody st) t ∧ t { nx := fun _ H' => Q .non H', rt := Q } (start N vs) H) : FnG P w K mg base (k + 1) f fd ps sp := by
  obtain ⟨oc, od, kV, doc, pm, an, cdv, ct, osl, rfl, lk, hcd⟩ := F.ex
  exact fnG_of lk hcd S len fun A outer s H vs Q E hG hr hsp => hbody cdv A outer s H vs Q E hG hr hsp
theorem _root_.L2.KD3.FunT.okG {x : Str} {st : Stmt} {f c : Addr} {fd : FuncData} {N ps : List Str} {k : Nat} {sp : Sp} (F : FunT K mg x st f fd c) (S : FnScope N ps (defScope st)) (len : ∀ vs H Q E, sp vs H Q E → vs.length = ps.length)
    (hbody : ∀ (A : Around) (outer : List Env) (s : Shared) (H : Hp) (vs : List V) (Q : VK) (E : XK), A.guards = some [] → Room k (A.deeper (envOfC x (defScope st) s.heap.objs.size f (.ref c))) → sp vs H Q E →
      ∃ t, PSs (cxOf CX0 P w K mg base N x (defScope st) f (.ref c) A outer s H E).nox (defBody st) t ∧ t { nx := fun _ H' => Q .non H', rt := Q } (start N vs) H) : FnG P w K mg base (k + 1) f fd ps sp := by
  obtain ⟨oc, od, kV, doc, pm, an, ct, osl, rfl, lk, hcd⟩ := F.ex
  exact fnG_of lk hcd S len fun A outer s H vs Q E hG hr hsp => hbody A outer s H vs Q E hG hr hsp
end
section
variable {X : Cx} {k : Nat} {ps : List Str} {sp : Sp} {x : Str} {p pos : Pos} {e : Expr} {es : List Expr} {t : TA}
theorem pe_caG (c : CaG X.prog X.w X.K X.mg X.base k x ps sp) (hG : X.A.guards = some []) (hr : Room k X.A) (hg : Gl X x) (ha : PA X (e :: es) t) (hdb : (x == ("__debug__" : Str)) = false := by decide)
    (he : starEach (e :: es) X.env = (false, eval e X.env) :: starEach es X.env := by rfl) (hpl : (backTo pos (starEach es X.env)).any (·.1) = false := by rfl) : PE X (.Call (.Name x p) (e :: es) [] pos) (tCall sp [] E0 t) := by
  obtain ⟨f, fd, F, m, kp, b⟩ := c
  exact pe_callG F hG hr hg m kp b ha hdb he hpl
end
section
variable {P : Program} {w : World} {K : PySem.W.Frag} {mg : Str → Option Value} {base : Heap} {f : Addr} {fd0 : FuncData} {cl : Str → Addr} {T : Tb}
def spLike (K : PySem.W.Frag) : Sp := fun vs H Q _ => ∃ (a b : Addr) (d : PyData), vs = [.ref a, .ref b] ∧ Dp K H (.ref a) d ∧ Dp K H (.ref b) d ∧ Sh d ∧ Q (.bl true) H
theorem sc_llike : FnScope ["_law_answer", "_law_due_here"] ["_law_answer", "_law_due_here"] (defScope s_llike) := ⟨rfl, rfl, rfl, by decide +kernel, rfl, by decide +kernel, by decide +kernel⟩
theorem ok_llike (X : Tx mg) (F : Fun K "_law_like" "_law_like" s_llike f fd0) : FnG P w K mg base 1 f fd0 ["_law_answer", "_law_due_here"] (spLike K) := by
  refine F.okG sc_llike (fun vs H Q E h => ?_) (fun cdv A outer s H vs Q E hG hr h => ?_)
  · obtain ⟨a, b, d, rfl, _⟩ := h
    rfl
  · obtain ⟨a, b, d, rfl, ha, hb, sh, q⟩ := h
    have hu : (A.deeper (envOfC "_law_like" (defScope s_llike) s.heap.objs.size f cdv)).units + 200 < cLine := by
      have := hr.un
      omega
    refine ⟨_, pss_one (ps_ret (pe_cmpR op_eq (pe_callB (call_reprD hG hu) (by rfl) (X.b "repr") (by decide +kernel) (pa_cons (pv 0) pa_nil)) (pe_callB (call_reprD hG hu) (by rfl) (X.b "repr") (by decide +kernel) (pa_cons (pv 1) pa_nil)) (nomark _))), ?_⟩
    refine ⟨_, rfl, a, d, rfl, ha, sh.show_, sh.nodict, sh.deep, sh.short, _, rfl, b, d, rfl, hb, sh.show_, sh.nodict, sh.deep, sh.short, rfl, ?_⟩
    show Q (.bl (decide (V.str d.shown = V.str d.shown))) H
    rw [decide_eq_true rfl]
    exact q
/-- what is no text -/
def NS (H : Hp) (v : V) : Prop := v = .non ∨ (∃ i, v = .int i) ∨ (∃ b, v = .bl b) ∨ (∃ a xs, v = .ref a ∧ H a = some (.tup xs)) ∨ (∃ a xs, v = .ref a ∧ H a = some (.lst xs)) ∨ ∃ a, v = .ref a ∧ H a = some (.dK [])
theorem NS.no {H : Hp} {v : V} (h : NS H v) : NoStr K H v := by
  rcases h with rfl | ⟨i, rfl⟩ | ⟨b, rfl⟩ | ⟨a, xs, rfl, e⟩ | ⟨a, xs, rfl, e⟩ | ⟨a, rfl, e⟩
  · exact ⟨.type "NoneType", .base .non, kit_ty (by decide +kernel)⟩
  · exact ⟨.type "int", .base (.int i), kit_ty (by decide +kernel)⟩
  · exact ⟨.type "bool", .base (.bl b), kit_ty (by decide +kernel)⟩
  · exact ⟨.type "tuple", .base (.tup e), kit_ty (by decide +kernel)⟩
  · exact ⟨.type "list", .base (.lst e), kit_ty (by decide +kernel)⟩
  · exact ⟨.type "dict", .base (.dK e), kit_ty (by decide +kernel)⟩
theorem NS.keep {H H' : Hp} {v : V} (h : NS H v) (k : ∀ b o, H b = some o → (∀ ps, o ≠ .tbl ps) → (∀ o', o ≠ Lk o') → H' b = some o) : NS H' v := by
  rcases h with rfl | ⟨i, rfl⟩ | ⟨b, rfl⟩ | ⟨a, xs, rfl, e⟩ | ⟨a, xs, rfl, e⟩ | ⟨a, rfl, e⟩
  · exact .inl rfl
  · exact .inr (.inl ⟨i, rfl⟩)
  · exact .inr (.inr (.inl ⟨b, rfl⟩))
  · exact .inr (.inr (.inr (.inl ⟨a, xs, rfl, k _ _ e (fun _ z => by cases z) fun _ z => by cases z⟩)))
  · exact .inr (.inr (.inr (.inr (.inl ⟨a, xs, rfl, k _ _ e (fun _ z => by cases z) fun _ z => by cases z⟩))))
  · exact .inr (.inr (.inr (.inr (.inr ⟨a, rfl, k _ _ e (fun _ z => by cases z) fun _ z => by cases z⟩))))
/-- the answer for a text, as data -/
def ansT (z : Str) : PyData := match readM z with
  | .error (k, e) => .tuple [.str "text", .int (k : Nat), .int (e : Nat)]
  | .ok (root, ps) => if isTreeB root ps = true then .list [treeData root ps] else .tuple [.str "tree", treeData root ps]
def ansN : PyData := .tuple [.str "text", .none, .none]
end
end KD24
end L2
set_option Elab.async false
set_option linter.all false
set_option maxRecDepth 100000
set_option maxHeartbeats 4000000
/-! k92: _law_right -/
namespace L2
namespace KD25
open PySem PySem.Spec PyProof.Rows LamX NdefX KB KN KH KL KR KM KX KD1 KD2 KD3 KD4 KD5 KD6 KD7 KMa KD8 KD9 KD10 KD11 KD12 KD13 KD14 KD15 KMb KD16 KD17 KMc KD18 KD19 KD20 KD21 KD22 KD23 KD24
def asgArg (s : Stmt) : Expr := match s with
  | .If _ [.Assign _ (.Call _ as _ _) _] _ _ => as.getD 0 (.Constant .none 0 ⟨0, 0, 0, 0⟩)
  | _ => .Constant .none 0 ⟨0, 0, 0, 0⟩
def callArg (e : Expr) : Expr := match e with
  | .Call _ as _ _ => as.getD 0 (.Constant .none 0 ⟨0, 0, 0, 0⟩)
  | _ => .Constant .none 0 ⟨0, 0, 0, 0⟩
abbrev eR1 : Expr := asgArg ((defBody s_lright).getD 1 (.Pass ⟨0, 0, 0, 0⟩))
abbrev eR2 : Expr := callArg (retArg ((defBody s_lright).getD 2 (.Pass ⟨0, 0, 0, 0⟩)) 0)
abbrev qRight : Str := ("_law_right" ++ ".<locals>.") ++ "<lambda>"
abbrev wR1 : LW := ⟨qRight, lamArgs eR1, lamBody eR1, lamScope eR1⟩
abbrev wR2 : LW := ⟨qRight, lamArgs eR2, lamBody eR2, lamScope eR2⟩
theorem hfree1 : ∀ y ∈ (lamScope eR1).names, y.2 = .free → (defScope s_lright).names.lookup y.1 = some .cell ∨ (defScope s_lright).names.lookup y.1 = some .free := by decide +kernel
theorem hin1 : (("_law_due_here" : Str), NameKind.free) ∈ (lamScope eR1).names := by decide +kernel
theorem honly1 : ∀ z ∈ (lamScope eR1).names, z.2 = .free → z.1 = ("_law_due_here" : Str) := by decide +kernel
theorem hfree2 : ∀ y ∈ (lamScope eR2).names, y.2 = .free → (defScope s_lright).names.lookup y.1 = some .cell ∨ (defScope s_lright).names.lookup y.1 = some .free := by decide +kernel
theorem hin2 : (("_law_text" : Str), NameKind.free) ∈ (lamScope eR2).names := by decide +kernel
theorem honly2 : ∀ z ∈ (lamScope eR2).names, z.2 = .free → z.1 = ("_law_text" : Str) := by decide +kernel
section
variable {P : Program} {w : World} {K : PySem.W.Frag} {mg : Str → Option Value} {base : Heap} {f : Addr} {fd0 : FuncData} {cl : Str → Addr} {T : Tb} {CT CB : Addr}
/-- lambda: need_tree(due[0]) -/
def spL1 (T : Tb) (CT : Addr) (x : V) : Sp := fun vs H Q E => ∃ (l : Addr) (v : V), x = .ref l ∧ vs = [] ∧ H l = some (.lst [v]) ∧ spNeed T CT [v] H Q E
theorem lok1 (cN : Ca (L2.CX P w) P w K mg base 24 "need_tree" ["tree"] (spNeed T CT)) : LOk (L2.CX P w) P w K mg base 25 wR1 "_law_due_here" [] (spL1 T CT) := by
  refine lok_of (N := ["_law_due_here"]) (nscope_by (by decide +kernel)) (fun cl pm cdv ctv us hl => match us, hl with | [], _ => rfl) (fun x vs H Q E h => ?_) (fun f cl cc A outer s H vs x Q E hr h => ?_)
  · obtain ⟨l, v, _, rfl, _⟩ := h
    rfl
  · obtain ⟨l, v, rfl, rfl, hl, h⟩ := h
    refine ⟨_, pe_caX cN hr (by rfl) (fun σ => passAt (takes_of rfl rfl rfl rfl) σ) (pa_cons (pe_ix ix_list (pv 0) pe_int (fun _ _ => rfl)) pa_nil), ?_⟩
    exact ⟨_, rfl, l, _, _, _, rfl, rfl, SqL.of hl, at0, h⟩
/-- lambda: read_tree(text) -/
def spL2 (K : PySem.W.Frag) (T : Tb) (CB CT : Addr) (x : V) : Sp := fun vs H Q E => vs = [] ∧ spRead K T CB CT [x] H Q E
theorem lok2 (cR : Ca (L2.CX P w) P w K mg base 25 "read_tree" ["text"] (spRead K T CB CT)) : LOk (L2.CX P w) P w K mg base 26 wR2 "_law_text" [] (spL2 K T CB CT) := by
  refine lok_of (N := ["_law_text"]) (nscope_by (by decide +kernel)) (fun cl pm cdv ctv us hl => match us, hl with | [], _ => rfl) (fun x vs H Q E h => ?_) (fun f cl cc A outer s H vs x Q E hr h => ?_)
  · obtain ⟨rfl, _⟩ := h
    rfl
  · obtain ⟨rfl, h⟩ := h
    refine ⟨_, pe_caX cR hr (by rfl) (fun σ => passAt (takes_of rfl rfl rfl rfl) σ) (pa_cons (pv 0) pa_nil), ?_⟩
    exact ⟨_, rfl, h⟩
end
theorem read_sane {z : Str} {root : Node} {ps : KN.Pairs} (hz : z.length ≤ 1000000) (h : readM z = .ok (root, ps)) : Sane root ∧ SaneP ps := by
  unfold readM at h
  cases e : foldA (KD17.wordsOf z) 0 RS.init [] with
  | error x =>
    rw [e] at h
    cases h
  | ok x =>
    obtain ⟨s, evs⟩ := x
    rw [e] at h
    cases h
    have rows := fold_all e
    have evok := paired_ev rows
    have evl : evs.length < sizeLine := by
      have h1 := paired_len rows
      have h2 := words_len z
      have h3 := sizeLine_eq
      omega
    exact ⟨sane_node evok evl 7 [], sane_ps evok evl⟩
/-- an answer at p -/
inductive AnsAt (H : Hp) (p : Addr) : PyData → Prop where
  | text0 : H p = some (.tup [.str "text", .non, .non]) → AnsAt H p ansN
  | text {k e : Int} : H p = some (.tup [.str "text", .int k, .int e]) → AnsAt H p (.tuple [.str "text", .int k, .int e])
  | list {u : V} {root : Node} {ps : KN.Pairs} : H p = some (.lst [u]) → TreeAt H u root ps → AnsAt H p (.list [treeData root ps])
  | tree {u : V} {root : Node} {ps : KN.Pairs} : H p = some (.tup [.str "tree", u]) → TreeAt H u root ps → AnsAt H p (.tuple [.str "tree", treeData root ps])
/-- lists and tuples are kept -/
def TL (H H' : Hp) : Prop := TupK H H' ∧ ∀ b xs, H b = some (.lst xs) → H' b = some (.lst xs)
theorem AnsAt.keep {H H' : Hp} {p : Addr} {d : PyData} (k : TL H H') (a : AnsAt H p d) : AnsAt H' p d := by
  cases a with
  | text0 e => exact .text0 (k.1 _ _ e)
  | text e => exact .text (k.1 _ _ e)
  | list e t => exact .list (k.2 _ _ e) (t.keep k.1)
  | tree e t => exact .tree (k.1 _ _ e) (t.keep k.1)
theorem AnsAt.dp {K : PySem.W.Frag} {H : Hp} {p : Addr} {d : PyData} (a : AnsAt H p d) : Dp K H (.ref p) d := by
  cases a with
  | text0 e => exact .tup (SqT.of e) (.cons (.str _) (.cons .non (.cons .non .nil)))
  | text e => exact .tup (SqT.of e) (.cons (.str _) (.cons (.int _) (.cons (.int _) .nil)))
  | list e t => exact .lst (SqL.of e) (.cons t.dp .nil)
  | tree e t => exact .tup (SqT.of e) (.cons (.str _) (.cons t.dp .nil))
theorem tl_kp {T : Tb} {H H' : Hp} (k : Kp T H H') : TL H H' := ⟨tupK_ext k.1, fun _ _ e => k.lst e⟩
theorem tl_same {H H' : Hp} (s : Same H H') : TL H H' := ⟨tupK_same s, fun _ _ e => s _ _ e⟩
theorem TL.trans {H H1 H2 : Hp} (a : TL H H1) (b : TL H1 H2) : TL H H2 := ⟨a.1.trans b.1, fun c xs e => b.2 c xs (a.2 c xs e)⟩
theorem tl_del {H : Hp} {c : Addr} {o : Obj} (e : H c = some (Lk o)) : TL H (del H c) := ⟨tupK_del e, fun b xs h => by
  rw [del_ne (ne_of h e fun z => by unfold Lk at z; cases z)]
  exact h⟩
/-- what is to be answered -/
def ansV : V → PyData
  | .str z => ansT z
  | _ => ansN
theorem ns_ans {H : Hp} {v : V} (h : NS H v) : ansV v = ansN ∧ ∀ z, v ≠ .str z := by
  rcases h with rfl | ⟨i, rfl⟩ | ⟨b, rfl⟩ | ⟨a, xs, rfl, e⟩ | ⟨a, xs, rfl, e⟩ | ⟨a, rfl, e⟩ <;> exact ⟨rfl, fun z y => by cases y⟩
theorem ans_err {z : Str} {k e : Nat} (h : readM z = .error (k, e)) : ansT z = .tuple [.str "text", .int (k : Nat), .int (e : Nat)] := by
  unfold ansT
  rw [h]
theorem ans_yes {z : Str} {root : Node} {ps : KN.Pairs} (h : readM z = .ok (root, ps)) (b : isTreeB root ps = true) : ansT z = .list [treeData root ps] := by
  unfold ansT
  rw [h]
  exact if_pos b
theorem ans_no {z : Str} {root : Node} {ps : KN.Pairs} (h : readM z = .ok (root, ps)) (b : isTreeB root ps = false) : ansT z = .tuple [.str "tree", treeData root ps] := by
  unfold ansT
  rw [h]
  exact if_neg (by rw [b]; decide)
theorem lock_comm {H : Hp} {c d : Addr} {o : Obj} {x : HO} (h : d ≠ c) : upd (upd H d x) c (Lk o) = upd (upd H c (Lk o)) d x := by
  funext b
  by_cases h1 : b = c
  · rw [h1, upd_same, upd_ne (Ne.symm h), upd_same]
  · rw [upd_ne h1]
    by_cases h2 : b = d
    · rw [h2, upd_same, upd_same]
    · rw [upd_ne h2, upd_ne h2, upd_ne h1]
section
variable {K : PySem.W.Frag} {T : Tb} {CB CT : Addr}
/-- raising under a lock -/
theorem exc_lock {H H4 : Hp} {c d : Addr} {o : Obj} {x : HO} {cls : Value} {E : XK} (e : H c = some (Lk o)) (k : Kp T (del H c) H4) (nd : H4 d = none) (q : ∀ H', Kp T H H' → H' d = none → (∀ b xs, H4 b = some (.tup xs) → H' b = some (.tup xs)) → E cls (some d) (upd H' d x)) (n : upd H4 d x c = none) : E cls (some d) (upd (upd H4 d x) c (Lk o)) := by
  have hdc : d ≠ c := fun z => by
    rw [z, upd_same] at n
    cases n
  have n4 : H4 c = none := by
    rw [upd_ne (Ne.symm hdc)] at n
    exact n
  rw [lock_comm hdc]
  exact q _ (kp_lock e k n4) (by rw [upd_ne hdc]; exact nd) fun b xs y => (upd_ne (fun z => by rw [z, n4] at y; cases y)).trans y
/-- need_tree under a lock -/
theorem need_lock {H : Hp} {c : Addr} {o : Obj} {v : V} {Q : VK} {E : XK} (e : H c = some (Lk o)) (h : spNeed T CT [v] H Q E) :
    spNeed T CT [v] (del H c) (fun v H2 => H2 c = none → Q v (upd H2 c (Lk o))) (fun cls d H2 => H2 c = none → E cls d (upd H2 c (Lk o))) := by
  obtain ⟨v', root, ps, hv, ht, hs, hp, hT, q1, q2⟩ := h
  refine ⟨v', root, ps, hv, ht.keep (tupK_del e), hs, hp, tabs_del e hT, fun b H' k n => q1 b _ (kp_lock e k n), fun b H' d k nd n => ?_⟩
  exact exc_lock (T := T) e k nd (fun H2 k2 n2 _ => q2 b H2 d k2 n2) n
/-- read_tree under a lock -/
theorem read_lock {H : Hp} {c : Addr} {o : Obj} {v : V} {Q : VK} {E : XK} (e : H c = some (Lk o)) (hv : NS H v ∨ ∃ z, v = .str z) (h : spRead K T CB CT [v] H Q E) :
    spRead K T CB CT [v] (del H c) (fun v H2 => H2 c = none → Q v (upd H2 c (Lk o))) (fun cls d H2 => H2 c = none → E cls d (upd H2 c (Lk o))) := by
  obtain ⟨v', ev, hT, h⟩ := h
  obtain rfl : v = v' := by injection ev
  refine ⟨v, rfl, tabs_del e hT, ?_⟩
  rcases h with ⟨hn, q⟩ | ⟨z, rfl, hz, q1, q2⟩
  · refine .inl ⟨?_, fun H' d k nd n => exc_lock (T := T) e k nd (fun H2 k2 n2 _ => q H2 d k2 n2) n⟩
    rcases hv with hv | ⟨z, rfl⟩
    · exact NS.no (hv.keep fun b u hb _ h2 => by
        rw [del_ne (ne_of hb e (h2 _))]
        exact hb)
    · obtain ⟨t, ty, kk⟩ := hn
      cases ty with
      | base b =>
        cases b
        rw [kit_ty (by decide +kernel : kitB "str" "str" = some true)] at kk
        cases kk
  · refine .inr ⟨z, rfl, hz, fun k e' he H' d kk nd n => exc_lock (T := T) e kk nd (fun H2 k2 n2 _ => q1 k e' he H2 d k2 n2) n, fun root ps ok => ⟨fun b H' u kk tr n => (q2 root ps ok).1 b _ u (kp_lock e kk n) (tr.keep (tupK_lock n)), fun b H' d u kk tr nd n => ?_⟩⟩
    exact exc_lock (T := T) e kk nd (fun H2 k2 n2 t2 => (q2 root ps ok).2 b H2 d u k2 (tr.keep t2) n2) n
end
section
variable {P : Program} {w : World} {K : PySem.W.Frag} {mg : Str → Option Value} {base : Heap} {f : Addr} {fd0 : FuncData} {cl : Str → Addr} {T : Tb} {CT CB : Addr}
def spRight (T : Tb) : Sp := fun vs H Q _ => ∃ v : V, vs = [v] ∧ Tabs T H ∧ ((NS H v ∧ Sh ansN) ∨ ∃ z : Str, v = .str z ∧ z.length ≤ 1000000 ∧ Sh (ansT z)) ∧ ∀ H', Kp T H H' → Q (.bl true) H'
theorem sc_lright : FnScope ["_law_text", "_law_due_here"] ["_law_text"] (defScope s_lright) := ⟨rfl, rfl, rfl, by decide +kernel, rfl, by decide +kernel, by decide +kernel⟩
theorem ok_lright {c Pt : Addr} (X : Tx mg) (cD : Ca CX0 P w K mg base 10 "_law_due" ["_law_text"] (spDue K)) (cS : Ca CX0 P w K mg base 27 "_law_said" ["_law_call"] (spSaid P w K mg base 26 cl)) (cL : CaG P w K mg base 1 "_law_like" ["_law_answer", "_law_due_here"] (spLike K))
    (cN : Ca (L2.CX P w) P w K mg base 24 "need_tree" ["tree"] (spNeed T (cl "BadTree"))) (cR : Ca (L2.CX P w) P w K mg base 25 "read_tree" ["text"] (spRead K T (cl "BadText") (cl "BadTree")))
    (F : FunT K mg "_law_right" s_lright f fd0 c) (TB : TabB base mg c Pt) (hm : (Pt, qRight) ∈ T) (hu : ∀ p ∈ T, p.1 = Pt → p.2 = qRight) : FnG P w K mg base 28 f fd0 ["_law_text"] (spRight T) := by
  refine F.okG sc_lright (fun vs H Q E h => ?_) (fun A outer s H vs Q E hG hr h => ?_)
  · obtain ⟨v, rfl, _⟩ := h
    rfl
  · obtain ⟨v, rfl, hT, hv, q⟩ := h
    have hr1 : Room 1 _ := hr.mono (by decide)
    have hr10 : Room 10 _ := hr.mono (by decide)
    have nd := sc_lright.nd
    refine ⟨_, pss_cons (ps_set (i := 1) nd rfl (Or.inr rfl) (pe_ca cD hr10 (by rfl) (pa_cons (pv 0) pa_nil)))
      (pss_cons (ps_if (pt_val (pe_callB call_isi (by rfl) (X.b "isinstance") (by decide +kernel) (pa_cons (pv 1) (pa_cons (pe_bltn (v := .ty "list") (by rfl) (X.b "list") (by decide +kernel) rfl) pa_nil))))
        (pss_one (ps_set (i := 1) nd rfl (Or.inr rfl) (pe_caLk cS hr (by rfl) (y := "_law_due_here") (j := 1) rfl rfl rfl (pa_cons (pe_lam TB rfl hm hu hfree1) pa_nil)))) pss_nil)
      (pss_one (ps_ret (pe_caG cL hG hr1 (by rfl) (pa_cons (pe_caLk cS hr (by rfl) (y := "_law_text") (j := 0) rfl rfl rfl (pa_cons (pe_lam TB rfl hm hu hfree2) pa_nil)) (pa_cons (pv 1) pa_nil)))))), ?_⟩
    have sh : Sh (ansV v) := by
      rcases hv with ⟨hv, s⟩ | ⟨z, rfl, _, s⟩
      · rw [(ns_ans hv).1]
        exact s
      · exact s
    replace hv : NS H v ∨ ∃ z, v = .str z ∧ z.length ≤ 1000000 := by
      rcases hv with ⟨hv, _⟩ | ⟨z, e, hz, _⟩
      · exact .inl hv
      · exact .inr ⟨z, e, hz⟩
    refine ⟨_, rfl, v, rfl, ?_⟩
    rcases id hv with hns | ⟨z, ez, hz⟩
    · refine .inl ⟨hns.no, fun H1 t s1 e1 => ?_⟩
      have k1 := kp_same s1 hT
      have a1 : AnsAt H1 t (ansV v) := by
        rw [(ns_ans hns).1]
        exact .text0 e1
      refine ⟨_, rfl, _, _, .type "tuple", .type "list", false, rfl, .ty "list", .base (.tup e1), kit_ty (by decide +kernel), _, rfl, iteF ?_⟩
      refine ⟨k1.2, fun f2 c2 G1 nf2 ex2 t2 hf2 hc2 => ⟨v, rfl, fun cy o u hcy hod ru ncy => ?_⟩⟩
      have oc := oneCell_by hcy hin2 honly2
      have l1 := same_upd (o := Lk o) ncy
      have kc : Kp T H1 (upd G1 cy (Lk o)) := ⟨ex2.trans (ext_same l1), t2.ext l1⟩
      have kHc := k1.trans kc
      have lamat : LamAt (upd G1 cy (Lk o)) f2 wR2 "_law_text" v := ⟨_, c2, cy, o, u, l1 _ _ hf2, l1 _ _ hc2, oc, upd_same, hod, ru⟩
      have hlk : upd G1 cy (Lk o) cy = some (Lk o) := upd_same
      have fin : ∀ (G4 G5 : Hp) (p2 : Addr) (d : PyData), Kp T (upd G1 cy (Lk o)) G4 → Same G4 G5 → AnsAt G5 p2 d → d = ansV v → ∃ w, ([some v, some (V.ref t)] : L2.St)[1]? = some (some w) ∧ spLike K [.ref p2, w] (del G5 cy) Q E0 := fun G4 G5 p2 d k4 s5 a5 ed => by
        have k5 := k4.same s5
        have kd : Kp T G1 (del G5 cy) := kp_unlock ncy k5
        have lk5 : G5 cy = some (Lk o) := k5.1 _ _ hlk lk_tbl
        have kk : Kp T H (del G5 cy) := ⟨((k1.1).trans ex2).trans kd.1, kd.2⟩
        have a2 : AnsAt (del G5 cy) t (ansV v) := (a1).keep ((tl_kp (T := T) ⟨ex2, t2⟩).trans (tl_kp kd))
        have a1 := a5.keep (tl_del lk5)
        rw [ed] at a1
        exact ⟨_, rfl, p2, t, ansV v, rfl, a1.dp, a2.dp, sh, q _ kk⟩
      refine ⟨f2, fun vs G3 Q3 E3 => vs = [] ∧ (NS G3 v ∨ ∃ z, v = .str z) ∧ spRead K T (cl "BadText") (cl "BadTree") [v] G3 Q3 E3,
        fun v' G4 => Kp T (upd G1 cy (Lk o)) G4 ∧ ∃ root ps z, v = .str z ∧ readM z = .ok (root, ps) ∧ isTreeB root ps = true ∧ TreeAt G4 v' root ps,
        fun c d G4 => ∃ dx G, d = some dx ∧ Kp T (upd G1 cy (Lk o)) G ∧ G dx = none ∧ ((c = .ref (cl "BadText") ∧ ((NS H v ∧ G4 = upd G dx xN) ∨ ∃ z k e, v = .str z ∧ readM z = .error (k, e) ∧ G4 = upd G dx (xT e (.int (k : Nat))))) ∨
          (c = .ref (cl "BadTree") ∧ ∃ u root ps z, v = .str z ∧ readM z = .ok (root, ps) ∧ isTreeB root ps = false ∧ TreeAt G u root ps ∧ G4 = upd G dx (.xd [("value", u)]))),
        rfl, ⟨wR2, "_law_text", v, spL2 K T (cl "BadText") (cl "BadTree"), lamat, lok2 cR, fun G3 Q3 E3 c3 o3 e3 h3 => ⟨rfl, read_lock e3 h3.2.1 h3.2.2⟩⟩, fun G3 s3 Q' E' hQ' hE' => ?_, fun v' G4 hR G5 p2 s5 e5 => ?_, fun c d G4 hX => ?_⟩
      · have k3 : Kp T (upd G1 cy (Lk o)) G3 := kp_same s3 kc.2
        rcases hv with hv | ⟨z, rfl, hz⟩
        · have hv3 : NS G3 v := hv.keep fun b u' hb h1 _ => (kHc.trans k3).1 b u' hb h1
          exact ⟨rfl, .inl hv3, v, rfl, k3.2, .inl ⟨hv3.no, fun G d kG nd => hE' _ _ _ ⟨d, G, rfl, k3.trans kG, nd, .inl ⟨rfl, .inl ⟨hv, rfl⟩⟩⟩⟩⟩
        · refine ⟨rfl, .inr ⟨z, rfl⟩, _, rfl, k3.2, .inr ⟨z, rfl, hz, fun k e he G d kG nd => hE' _ _ _ ⟨d, G, rfl, k3.trans kG, nd, .inl ⟨rfl, .inr ⟨z, k, e, rfl, he, rfl⟩⟩⟩, fun root ps ok => ⟨fun b G u' kG tr => hQ' _ _ ⟨k3.trans kG, root, ps, z, rfl, ok, b, tr⟩, fun b G d u' kG tr nd => hE' _ _ _ ⟨d, G, rfl, k3.trans kG, nd, .inr ⟨rfl, u', root, ps, z, rfl, ok, b, tr, rfl⟩⟩⟩⟩⟩
      · obtain ⟨k4, root, ps, z, ev, ok, b, tr⟩ := hR
        refine fin G4 G5 p2 _ k4 s5 (.list e5 (tr.keep (tupK_same s5))) ?_
        rw [ev]
        exact (ans_yes ok b).symm
      · obtain ⟨dx, G, rfl, kG, nd, h⟩ := hX
        have sG : ∀ {x : HO}, Same G (upd G dx x) := same_upd nd
        rcases h with ⟨rfl, h⟩ | ⟨rfl, u', root, ps, z, ev, ok, b, tr, rfl⟩
        · rcases h with ⟨hns, rfl⟩ | ⟨z, k, e, ev, he, rfl⟩
          · refine ⟨dx, rfl, .inr ⟨rfl, .non, .non, upd_same, fun G5 p2 s5 e5 => fin G G5 p2 _ kG (sG.trans s5) (.text0 e5) (ns_ans hns).1.symm⟩⟩
          · refine ⟨dx, rfl, .inr ⟨rfl, _, _, upd_same, fun G5 p2 s5 e5 => fin G G5 p2 _ kG (sG.trans s5) (.text e5) ?_⟩⟩
            rw [ev]
            exact (ans_err he).symm
        · refine ⟨dx, rfl, .inl ⟨rfl, u', upd_same, fun G5 p2 s5 e5 => fin G G5 p2 _ kG (sG.trans s5) (.tree e5 (tr.keep (tupK_same (sG.trans s5)))) ?_⟩⟩
          rw [ev]
          exact (ans_no ok b).symm
    · refine .inr ⟨z, ez, hz, fun k e he H1 t s1 e1 => ?_, fun root ps ok H0 l uu s0 e0 tr0 => ?_⟩
      · have k1 := kp_same s1 hT
        have a1 : AnsAt H1 t (ansV v) := by
          rw [ez]
          show AnsAt H1 t (ansT z)
          rw [ans_err he]
          exact .text e1
        refine ⟨_, rfl, _, _, .type "tuple", .type "list", false, rfl, .ty "list", .base (.tup e1), kit_ty (by decide +kernel), _, rfl, iteF ?_⟩
        refine ⟨k1.2, fun f2 c2 G1 nf2 ex2 t2 hf2 hc2 => ⟨v, rfl, fun cy o u hcy hod ru ncy => ?_⟩⟩
        have oc := oneCell_by hcy hin2 honly2
        have l1 := same_upd (o := Lk o) ncy
        have kc : Kp T H1 (upd G1 cy (Lk o)) := ⟨ex2.trans (ext_same l1), t2.ext l1⟩
        have kHc := k1.trans kc
        have lamat : LamAt (upd G1 cy (Lk o)) f2 wR2 "_law_text" v := ⟨_, c2, cy, o, u, l1 _ _ hf2, l1 _ _ hc2, oc, upd_same, hod, ru⟩
        have hlk : upd G1 cy (Lk o) cy = some (Lk o) := upd_same
        have fin : ∀ (G4 G5 : Hp) (p2 : Addr) (d : PyData), Kp T (upd G1 cy (Lk o)) G4 → Same G4 G5 → AnsAt G5 p2 d → d = ansV v → ∃ w, ([some v, some (V.ref t)] : L2.St)[1]? = some (some w) ∧ spLike K [.ref p2, w] (del G5 cy) Q E0 := fun G4 G5 p2 d k4 s5 a5 ed => by
          have k5 := k4.same s5
          have kd : Kp T G1 (del G5 cy) := kp_unlock ncy k5
          have lk5 : G5 cy = some (Lk o) := k5.1 _ _ hlk lk_tbl
          have kk : Kp T H (del G5 cy) := ⟨((k1.1).trans ex2).trans kd.1, kd.2⟩
          have a2 : AnsAt (del G5 cy) t (ansV v) := (a1).keep ((tl_kp (T := T) ⟨ex2, t2⟩).trans (tl_kp kd))
          have a1 := a5.keep (tl_del lk5)
          rw [ed] at a1
          exact ⟨_, rfl, p2, t, ansV v, rfl, a1.dp, a2.dp, sh, q _ kk⟩
        refine ⟨f2, fun vs G3 Q3 E3 => vs = [] ∧ (NS G3 v ∨ ∃ z, v = .str z) ∧ spRead K T (cl "BadText") (cl "BadTree") [v] G3 Q3 E3,
          fun v' G4 => Kp T (upd G1 cy (Lk o)) G4 ∧ ∃ root ps z, v = .str z ∧ readM z = .ok (root, ps) ∧ isTreeB root ps = true ∧ TreeAt G4 v' root ps,
          fun c d G4 => ∃ dx G, d = some dx ∧ Kp T (upd G1 cy (Lk o)) G ∧ G dx = none ∧ ((c = .ref (cl "BadText") ∧ ((NS H v ∧ G4 = upd G dx xN) ∨ ∃ z k e, v = .str z ∧ readM z = .error (k, e) ∧ G4 = upd G dx (xT e (.int (k : Nat))))) ∨
            (c = .ref (cl "BadTree") ∧ ∃ u root ps z, v = .str z ∧ readM z = .ok (root, ps) ∧ isTreeB root ps = false ∧ TreeAt G u root ps ∧ G4 = upd G dx (.xd [("value", u)]))),
          rfl, ⟨wR2, "_law_text", v, spL2 K T (cl "BadText") (cl "BadTree"), lamat, lok2 cR, fun G3 Q3 E3 c3 o3 e3 h3 => ⟨rfl, read_lock e3 h3.2.1 h3.2.2⟩⟩, fun G3 s3 Q' E' hQ' hE' => ?_, fun v' G4 hR G5 p2 s5 e5 => ?_, fun c d G4 hX => ?_⟩
        · have k3 : Kp T (upd G1 cy (Lk o)) G3 := kp_same s3 kc.2
          rcases hv with hv | ⟨z, rfl, hz⟩
          · have hv3 : NS G3 v := hv.keep fun b u' hb h1 _ => (kHc.trans k3).1 b u' hb h1
            exact ⟨rfl, .inl hv3, v, rfl, k3.2, .inl ⟨hv3.no, fun G d kG nd => hE' _ _ _ ⟨d, G, rfl, k3.trans kG, nd, .inl ⟨rfl, .inl ⟨hv, rfl⟩⟩⟩⟩⟩
          · refine ⟨rfl, .inr ⟨z, rfl⟩, _, rfl, k3.2, .inr ⟨z, rfl, hz, fun k e he G d kG nd => hE' _ _ _ ⟨d, G, rfl, k3.trans kG, nd, .inl ⟨rfl, .inr ⟨z, k, e, rfl, he, rfl⟩⟩⟩, fun root ps ok => ⟨fun b G u' kG tr => hQ' _ _ ⟨k3.trans kG, root, ps, z, rfl, ok, b, tr⟩, fun b G d u' kG tr nd => hE' _ _ _ ⟨d, G, rfl, k3.trans kG, nd, .inr ⟨rfl, u', root, ps, z, rfl, ok, b, tr, rfl⟩⟩⟩⟩⟩
        · obtain ⟨k4, root, ps, z, ev, ok, b, tr⟩ := hR
          refine fin G4 G5 p2 _ k4 s5 (.list e5 (tr.keep (tupK_same s5))) ?_
          rw [ev]
          exact (ans_yes ok b).symm
        · obtain ⟨dx, G, rfl, kG, nd, h⟩ := hX
          have sG : ∀ {x : HO}, Same G (upd G dx x) := same_upd nd
          rcases h with ⟨rfl, h⟩ | ⟨rfl, u', root, ps, z, ev, ok, b, tr, rfl⟩
          · rcases h with ⟨hns, rfl⟩ | ⟨z, k, e, ev, he, rfl⟩
            · refine ⟨dx, rfl, .inr ⟨rfl, .non, .non, upd_same, fun G5 p2 s5 e5 => fin G G5 p2 _ kG (sG.trans s5) (.text0 e5) (ns_ans hns).1.symm⟩⟩
            · refine ⟨dx, rfl, .inr ⟨rfl, _, _, upd_same, fun G5 p2 s5 e5 => fin G G5 p2 _ kG (sG.trans s5) (.text e5) ?_⟩⟩
              rw [ev]
              exact (ans_err he).symm
          · refine ⟨dx, rfl, .inl ⟨rfl, u', upd_same, fun G5 p2 s5 e5 => fin G G5 p2 _ kG (sG.trans s5) (.tree e5 (tr.keep (tupK_same (sG.trans s5)))) ?_⟩⟩
            rw [ev]
            exact (ans_no ok b).symm
      · have k0 := kp_same s0 hT
        refine ⟨_, rfl, _, _, .type "list", .type "list", true, rfl, .ty "list", .base (.lst e0), kit_ty (by decide +kernel), _, rfl, iteT ?_⟩
        refine ⟨k0.2, fun f1 c1 G1 nf1 ex1 t1 hf1 hc1 => ⟨.ref l, rfl, fun cy o u hcy hod ru ncy => ?_⟩⟩
        have oc := oneCell_by hcy hin1 honly1
        have l1 := same_upd (o := Lk o) ncy
        have kc : Kp T H0 (upd G1 cy (Lk o)) := ⟨ex1.trans (ext_same l1), t1.ext l1⟩
        have lamat : LamAt (upd G1 cy (Lk o)) f1 wR1 "_law_due_here" (.ref l) := ⟨_, c1, cy, o, u, l1 _ _ hf1, l1 _ _ hc1, oc, upd_same, hod, ru⟩
        have hlk : upd G1 cy (Lk o) cy = some (Lk o) := upd_same
        have evok : ∀ ev : List Ev, True := fun _ => True.intro
        obtain ⟨san, sap⟩ : Sane root ∧ SaneP ps := read_sane hz ok
        refine ⟨f1, fun vs G3 Q3 E3 => vs = [] ∧ G3 l = some (.lst [uu]) ∧ spNeed T (cl "BadTree") [uu] G3 Q3 E3,
          fun v' G4 => Kp T (upd G1 cy (Lk o)) G4 ∧ v' = uu ∧ isTreeB root ps = true,
          fun c d G4 => ∃ dx G, d = some dx ∧ Kp T (upd G1 cy (Lk o)) G ∧ G dx = none ∧ c = .ref (cl "BadTree") ∧ isTreeB root ps = false ∧ G4 = upd G dx (.xd [("value", uu)]),
          rfl, ⟨wR1, "_law_due_here", .ref l, spL1 T (cl "BadTree"), lamat, (lok1 cN).mono (by decide), fun G3 Q3 E3 c3 o3 e3 h3 => ⟨l, uu, rfl, rfl, (tl_del e3).2 _ _ h3.2.1, need_lock e3 h3.2.2⟩⟩, fun G3 s3 Q' E' hQ' hE' => ?_, fun v' G4 hR G5 p2 s5 e5 => ?_, fun c d G4 hX => ?_⟩
        · have k3 : Kp T (upd G1 cy (Lk o)) G3 := kp_same s3 kc.2
          have k03 := kc.trans k3
          exact ⟨rfl, k03.lst e0, uu, root, ps, rfl, tr0.keep (tupK_ext k03.1), san, sap, k3.2, fun b G kG => hQ' _ _ ⟨k3.trans kG, rfl, b⟩, fun b G d kG nd => hE' _ _ _ ⟨d, G, rfl, k3.trans kG, nd, rfl, b, rfl⟩⟩
        · obtain ⟨k4, rfl, b⟩ := hR
          have k5 := k4.same s5
          have kd : Kp T G1 (del G5 cy) := kp_unlock ncy k5
          have lk5 : G5 cy = some (Lk o) := k5.1 _ _ hlk lk_tbl
          have k1 : Kp T H (del G5 cy) := ⟨(k0.1.trans ex1).trans kd.1, kd.2⟩
          have a1 : AnsAt (del G5 cy) p2 (ansV v) := by
            rw [ez]
            show AnsAt _ p2 (ansT z)
            rw [ans_yes ok b]
            exact AnsAt.keep (tl_del lk5) (.list e5 (tr0.keep ((tupK_ext (kc.trans k4).1).trans (tupK_same s5))))
          try dsimp only
          generalize del G5 cy = H1 at *
          refine ⟨k1.2, fun f2 c2 G1 nf2 ex2 t2 hf2 hc2 => ⟨v, rfl, fun cy o u hcy hod ru ncy => ?_⟩⟩
          have oc := oneCell_by hcy hin2 honly2
          have l1 := same_upd (o := Lk o) ncy
          have kc : Kp T H1 (upd G1 cy (Lk o)) := ⟨ex2.trans (ext_same l1), t2.ext l1⟩
          have kHc := k1.trans kc
          have lamat : LamAt (upd G1 cy (Lk o)) f2 wR2 "_law_text" v := ⟨_, c2, cy, o, u, l1 _ _ hf2, l1 _ _ hc2, oc, upd_same, hod, ru⟩
          have hlk : upd G1 cy (Lk o) cy = some (Lk o) := upd_same
          have fin : ∀ (G4 G5 : Hp) (p3 : Addr) (d : PyData), Kp T (upd G1 cy (Lk o)) G4 → Same G4 G5 → AnsAt G5 p3 d → d = ansV v → ∃ w, ([some v, some (V.ref p2)] : L2.St)[1]? = some (some w) ∧ spLike K [.ref p3, w] (del G5 cy) Q E0 := fun G4 G5 p3 d k4 s5 a5 ed => by
            have k5 := k4.same s5
            have kd : Kp T G1 (del G5 cy) := kp_unlock ncy k5
            have lk5 : G5 cy = some (Lk o) := k5.1 _ _ hlk lk_tbl
            have kk : Kp T H (del G5 cy) := ⟨((k1.1).trans ex2).trans kd.1, kd.2⟩
            have a2 : AnsAt (del G5 cy) p2 (ansV v) := (a1).keep ((tl_kp (T := T) ⟨ex2, t2⟩).trans (tl_kp kd))
            have a1 := a5.keep (tl_del lk5)
            rw [ed] at a1
            exact ⟨_, rfl, p3, p2, ansV v, rfl, a1.dp, a2.dp, sh, q _ kk⟩
          refine ⟨f2, fun vs G3 Q3 E3 => vs = [] ∧ (NS G3 v ∨ ∃ z, v = .str z) ∧ spRead K T (cl "BadText") (cl "BadTree") [v] G3 Q3 E3,
            fun v' G4 => Kp T (upd G1 cy (Lk o)) G4 ∧ ∃ root ps z, v = .str z ∧ readM z = .ok (root, ps) ∧ isTreeB root ps = true ∧ TreeAt G4 v' root ps,
            fun c d G4 => ∃ dx G, d = some dx ∧ Kp T (upd G1 cy (Lk o)) G ∧ G dx = none ∧ ((c = .ref (cl "BadText") ∧ ((NS H v ∧ G4 = upd G dx xN) ∨ ∃ z k e, v = .str z ∧ readM z = .error (k, e) ∧ G4 = upd G dx (xT e (.int (k : Nat))))) ∨
              (c = .ref (cl "BadTree") ∧ ∃ u root ps z, v = .str z ∧ readM z = .ok (root, ps) ∧ isTreeB root ps = false ∧ TreeAt G u root ps ∧ G4 = upd G dx (.xd [("value", u)]))),
            rfl, ⟨wR2, "_law_text", v, spL2 K T (cl "BadText") (cl "BadTree"), lamat, lok2 cR, fun G3 Q3 E3 c3 o3 e3 h3 => ⟨rfl, read_lock e3 h3.2.1 h3.2.2⟩⟩, fun G3 s3 Q' E' hQ' hE' => ?_, fun v' G4 hR G5 p3 s5 e5 => ?_, fun c d G4 hX => ?_⟩
          · have k3 : Kp T (upd G1 cy (Lk o)) G3 := kp_same s3 kc.2
            rcases hv with hv | ⟨z, rfl, hz⟩
            · have hv3 : NS G3 v := hv.keep fun b u' hb h1 _ => (kHc.trans k3).1 b u' hb h1
              exact ⟨rfl, .inl hv3, v, rfl, k3.2, .inl ⟨hv3.no, fun G d kG nd => hE' _ _ _ ⟨d, G, rfl, k3.trans kG, nd, .inl ⟨rfl, .inl ⟨hv, rfl⟩⟩⟩⟩⟩
            · refine ⟨rfl, .inr ⟨z, rfl⟩, _, rfl, k3.2, .inr ⟨z, rfl, hz, fun k e he G d kG nd => hE' _ _ _ ⟨d, G, rfl, k3.trans kG, nd, .inl ⟨rfl, .inr ⟨z, k, e, rfl, he, rfl⟩⟩⟩, fun root ps ok => ⟨fun b G u' kG tr => hQ' _ _ ⟨k3.trans kG, root, ps, z, rfl, ok, b, tr⟩, fun b G d u' kG tr nd => hE' _ _ _ ⟨d, G, rfl, k3.trans kG, nd, .inr ⟨rfl, u', root, ps, z, rfl, ok, b, tr, rfl⟩⟩⟩⟩⟩
          · obtain ⟨k4, root, ps, z, ev, ok, b, tr⟩ := hR
            refine fin G4 G5 p3 _ k4 s5 (.list e5 (tr.keep (tupK_same s5))) ?_
            rw [ev]
            exact (ans_yes ok b).symm
          · obtain ⟨dx, G, rfl, kG, nd, h⟩ := hX
            have sG : ∀ {x : HO}, Same G (upd G dx x) := same_upd nd
            rcases h with ⟨rfl, h⟩ | ⟨rfl, u', root, ps, z, ev, ok, b, tr, rfl⟩
            · rcases h with ⟨hns, rfl⟩ | ⟨z, k, e, ev, he, rfl⟩
              · refine ⟨dx, rfl, .inr ⟨rfl, .non, .non, upd_same, fun G5 p3 s5 e5 => fin G G5 p3 _ kG (sG.trans s5) (.text0 e5) (ns_ans hns).1.symm⟩⟩
              · refine ⟨dx, rfl, .inr ⟨rfl, _, _, upd_same, fun G5 p3 s5 e5 => fin G G5 p3 _ kG (sG.trans s5) (.text e5) ?_⟩⟩
                rw [ev]
                exact (ans_err he).symm
            · refine ⟨dx, rfl, .inl ⟨rfl, u', upd_same, fun G5 p3 s5 e5 => fin G G5 p3 _ kG (sG.trans s5) (.tree e5 (tr.keep (tupK_same (sG.trans s5)))) ?_⟩⟩
              rw [ev]
              exact (ans_no ok b).symm
        · obtain ⟨dx, G, rfl, kG, nd, rfl, b, rfl⟩ := hX
          refine ⟨dx, rfl, .inl ⟨rfl, uu, upd_same, fun G5 p2 s5 e5 => ?_⟩⟩
          have sG : Same G (upd G dx (.xd [("value", uu)])) := same_upd nd
          have k5 := kG.same (sG.trans s5)
          have kd : Kp T G1 (del G5 cy) := kp_unlock ncy k5
          have lk5 : G5 cy = some (Lk o) := k5.1 _ _ hlk lk_tbl
          have k1 : Kp T H (del G5 cy) := ⟨(k0.1.trans ex1).trans kd.1, kd.2⟩
          have a1 : AnsAt (del G5 cy) p2 (ansV v) := by
            rw [ez]
            show AnsAt _ p2 (ansT z)
            rw [ans_no ok b]
            exact AnsAt.keep (tl_del lk5) (.tree e5 (tr0.keep (tupK_ext (kc.trans k5).1)))
          try dsimp only
          generalize del G5 cy = H1 at *
          refine ⟨k1.2, fun f2 c2 G1 nf2 ex2 t2 hf2 hc2 => ⟨v, rfl, fun cy o u hcy hod ru ncy => ?_⟩⟩
          have oc := oneCell_by hcy hin2 honly2
          have l1 := same_upd (o := Lk o) ncy
          have kc : Kp T H1 (upd G1 cy (Lk o)) := ⟨ex2.trans (ext_same l1), t2.ext l1⟩
          have kHc := k1.trans kc
          have lamat : LamAt (upd G1 cy (Lk o)) f2 wR2 "_law_text" v := ⟨_, c2, cy, o, u, l1 _ _ hf2, l1 _ _ hc2, oc, upd_same, hod, ru⟩
          have hlk : upd G1 cy (Lk o) cy = some (Lk o) := upd_same
          have fin : ∀ (G4 G5 : Hp) (p3 : Addr) (d : PyData), Kp T (upd G1 cy (Lk o)) G4 → Same G4 G5 → AnsAt G5 p3 d → d = ansV v → ∃ w, ([some v, some (V.ref p2)] : L2.St)[1]? = some (some w) ∧ spLike K [.ref p3, w] (del G5 cy) Q E0 := fun G4 G5 p3 d k4 s5 a5 ed => by
            have k5 := k4.same s5
            have kd : Kp T G1 (del G5 cy) := kp_unlock ncy k5
            have lk5 : G5 cy = some (Lk o) := k5.1 _ _ hlk lk_tbl
            have kk : Kp T H (del G5 cy) := ⟨((k1.1).trans ex2).trans kd.1, kd.2⟩
            have a2 : AnsAt (del G5 cy) p2 (ansV v) := (a1).keep ((tl_kp (T := T) ⟨ex2, t2⟩).trans (tl_kp kd))
            have a1 := a5.keep (tl_del lk5)
            rw [ed] at a1
            exact ⟨_, rfl, p3, p2, ansV v, rfl, a1.dp, a2.dp, sh, q _ kk⟩
          refine ⟨f2, fun vs G3 Q3 E3 => vs = [] ∧ (NS G3 v ∨ ∃ z, v = .str z) ∧ spRead K T (cl "BadText") (cl "BadTree") [v] G3 Q3 E3,
            fun v' G4 => Kp T (upd G1 cy (Lk o)) G4 ∧ ∃ root ps z, v = .str z ∧ readM z = .ok (root, ps) ∧ isTreeB root ps = true ∧ TreeAt G4 v' root ps,
            fun c d G4 => ∃ dx G, d = some dx ∧ Kp T (upd G1 cy (Lk o)) G ∧ G dx = none ∧ ((c = .ref (cl "BadText") ∧ ((NS H v ∧ G4 = upd G dx xN) ∨ ∃ z k e, v = .str z ∧ readM z = .error (k, e) ∧ G4 = upd G dx (xT e (.int (k : Nat))))) ∨
              (c = .ref (cl "BadTree") ∧ ∃ u root ps z, v = .str z ∧ readM z = .ok (root, ps) ∧ isTreeB root ps = false ∧ TreeAt G u root ps ∧ G4 = upd G dx (.xd [("value", u)]))),
            rfl, ⟨wR2, "_law_text", v, spL2 K T (cl "BadText") (cl "BadTree"), lamat, lok2 cR, fun G3 Q3 E3 c3 o3 e3 h3 => ⟨rfl, read_lock e3 h3.2.1 h3.2.2⟩⟩, fun G3 s3 Q' E' hQ' hE' => ?_, fun v' G4 hR G5 p3 s5 e5 => ?_, fun c d G4 hX => ?_⟩
          · have k3 : Kp T (upd G1 cy (Lk o)) G3 := kp_same s3 kc.2
            rcases hv with hv | ⟨z, rfl, hz⟩
            · have hv3 : NS G3 v := hv.keep fun b u' hb h1 _ => (kHc.trans k3).1 b u' hb h1
              exact ⟨rfl, .inl hv3, v, rfl, k3.2, .inl ⟨hv3.no, fun G d kG nd => hE' _ _ _ ⟨d, G, rfl, k3.trans kG, nd, .inl ⟨rfl, .inl ⟨hv, rfl⟩⟩⟩⟩⟩
            · refine ⟨rfl, .inr ⟨z, rfl⟩, _, rfl, k3.2, .inr ⟨z, rfl, hz, fun k e he G d kG nd => hE' _ _ _ ⟨d, G, rfl, k3.trans kG, nd, .inl ⟨rfl, .inr ⟨z, k, e, rfl, he, rfl⟩⟩⟩, fun root ps ok => ⟨fun b G u' kG tr => hQ' _ _ ⟨k3.trans kG, root, ps, z, rfl, ok, b, tr⟩, fun b G d u' kG tr nd => hE' _ _ _ ⟨d, G, rfl, k3.trans kG, nd, .inr ⟨rfl, u', root, ps, z, rfl, ok, b, tr, rfl⟩⟩⟩⟩⟩
          · obtain ⟨k4, root, ps, z, ev, ok, b, tr⟩ := hR
            refine fin G4 G5 p3 _ k4 s5 (.list e5 (tr.keep (tupK_same s5))) ?_
            rw [ev]
            exact (ans_yes ok b).symm
          · obtain ⟨dx, G, rfl, kG, nd, h⟩ := hX
            have sG : ∀ {x : HO}, Same G (upd G dx x) := same_upd nd
            rcases h with ⟨rfl, h⟩ | ⟨rfl, u', root, ps, z, ev, ok, b, tr, rfl⟩
            · rcases h with ⟨hns, rfl⟩ | ⟨z, k, e, ev, he, rfl⟩
              · refine ⟨dx, rfl, .inr ⟨rfl, .non, .non, upd_same, fun G5 p3 s5 e5 => fin G G5 p3 _ kG (sG.trans s5) (.text0 e5) (ns_ans hns).1.symm⟩⟩
              · refine ⟨dx, rfl, .inr ⟨rfl, _, _, upd_same, fun G5 p3 s5 e5 => fin G G5 p3 _ kG (sG.trans s5) (.text e5) ?_⟩⟩
                rw [ev]
                exact (ans_err he).symm
            · refine ⟨dx, rfl, .inl ⟨rfl, u', upd_same, fun G5 p3 s5 e5 => fin G G5 p3 _ kG (sG.trans s5) (.tree e5 (tr.keep (tupK_same (sG.trans s5)))) ?_⟩⟩
              rw [ev]
              exact (ans_no ok b).symm
end
end KD25
end L2
set_option Elab.async false
set_option linter.all false
set_option maxRecDepth 100000
set_option maxHeartbeats 4000000
/-! k92: an answer can be shown: its size -/
namespace L2
namespace KMd
open PySem PySem.Spec PyProof.Rows LamX NdefX KB KN KH KL KR KM KX KD1 KD2 KD3 KD4 KD5 KD6 KD7 KMa KD8 KD9 KD10 KD11 KD12 KD13 KD14 KD15 KMb KD16 KD17 KMc KD18 KD19 KD20 KD21 KD22 KD23 KD24 KD25
/-! ### the folders' paths are apart -/
def fpE : Ev → Option Path
  | .folder q => some q
  | _ => none
def fps (evs : List Ev) : List Path := evs.filterMap fpE
theorem step_fp {s s' : RS} {evs : List Ev} {ws : List Str} {ev : Ev} (g : GoodS s evs) (h : stepA s ws = .ok (ev, s')) : GoodS s' (evs ++ [ev]) ∧ s'.folders = s.folders ++ (fpE ev).toList ∧ ∀ q, fpE ev = some q → q ∉ s.folders := by
  rw [stepA_eq] at h
  by_cases hk : badK s ws
  · rw [if_pos hk] at h
    cases h
  · rw [if_neg hk] at h
    cases e : takeA s ws with
    | error x =>
      rw [e] at h
      cases h
    | ok x =>
      obtain ⟨ev', s'', a⟩ := x
      rw [e] at h
      simp only at h
      by_cases hl : a < ws.length
      · rw [if_pos hl] at h
        cases h
      · rw [if_neg hl] at h
        cases h
        refine ⟨take_good g e, ?_⟩
        unfold takeA at e
        by_cases h0 : at_ ws 0 = sWord
        · rw [if_pos h0] at e
          cases hn : numIn (at_ ws 1) with
          | none =>
            rw [hn] at e
            cases e
          | some n =>
            rw [hn] at e
            simp only at e
            by_cases h1 : n ≤ s.num.getD (-1)
            · rw [if_pos h1] at e
              cases e
            · rw [if_neg h1] at e
              by_cases h2 : isWordB (at_ ws 2) = false
              · rw [if_pos h2] at e
                cases e
              · rw [if_neg h2] at e
                cases e
                exact ⟨(List.append_nil _).symm, fun q hq => by cases hq⟩
        · rw [if_neg h0] at e
          cases hp : pathIn (at_ ws 1) 6 with
          | none =>
            rw [hp] at e
            cases e
          | some p =>
            rw [hp] at e
            simp only at e
            by_cases h1 : p = [] ∨ p.dropLast ∉ s.folders ∨ ltP s.last p = false
            · rw [if_pos h1] at e
              cases e
            · rw [if_neg h1] at e
              have h1c : ltP s.last p = true := by
                cases e : ltP s.last p with
                | true => rfl
                | false => exact absurd (.inr (.inr e)) h1
              by_cases h2 : at_ ws 0 = sFolder
              · rw [if_pos h2] at e
                cases e
                exact ⟨rfl, fun q hq => by cases hq; exact g.new h1c⟩
              · rw [if_neg h2] at e
                cases hn : numIn (at_ ws 2) with
                | none =>
                  rw [hn] at e
                  cases e
                | some n =>
                  rw [hn] at e
                  cases e
                  exact ⟨(List.append_nil _).symm, fun q hq => by cases hq⟩
theorem fold_fp : ∀ {l : List (List Str)} {k : Nat} {s s' : RS} {evs0 evs : List Ev}, GoodS s evs0 → s.folders = [] :: fps evs0 → s.folders.Nodup → foldA l k s evs0 = .ok (s', evs) → (fps evs).Nodup
  | [], k, s, s', evs0, evs, g, h1, h2, h => by
    cases h
    rw [h1] at h2
    exact (List.nodup_cons.mp h2).2
  | ws :: r, k, s, s', evs0, evs, g, h1, h2, h => by
    have h' : (match stepA s ws with
      | .error e => (.error (k, e) : Except (Nat × Nat) (RS × List Ev))
      | .ok (ev, s1) => foldA r (k + 1) s1 (evs0 ++ [ev])) = .ok (s', evs) := h
    cases e : stepA s ws with
    | error x =>
      rw [e] at h'
      cases h'
    | ok x =>
      obtain ⟨ev, s1⟩ := x
      rw [e] at h'
      obtain ⟨g1, e1, e2⟩ := step_fp g e
      have efp : fps (evs0 ++ [ev]) = fps evs0 ++ (fpE ev).toList := by
        unfold fps
        rw [List.filterMap_append]
        cases hf : fpE ev <;> simp [List.filterMap, hf]
      refine fold_fp g1 ?_ ?_ h'
      · rw [e1, h1, efp]
        rfl
      · rw [e1]
        cases hf : fpE ev with
        | none =>
          show (s.folders ++ []).Nodup
          rw [List.append_nil]
          exact h2
        | some q =>
          show (s.folders ++ [q]).Nodup
          rw [List.nodup_append]
          refine ⟨h2, by simp, fun x hx y hy exy => ?_⟩
          have : y = q := by simpa using hy
          exact e2 q hf (by rw [← this, ← exy]; exact hx)
/-! ### how many nodes -/
/-- q lies strictly under p -/
def su (p q : Path) : Prop := p.length < q.length ∧ q.take p.length = p
instance (p q : Path) : Decidable (su p q) := by
  unfold su
  infer_instance
def un (evs : List Ev) (p : Path) : Nat := (evs.map fun ev => if su p (pathOfEv ev) then 1 else 0).sum
theorem un_le : ∀ (evs : List Ev) (p : Path), un evs p ≤ evs.length
  | [], p => Nat.le_refl _
  | e :: r, p => by
    have ih := un_le r p
    show (if su p (pathOfEv e) then 1 else 0) + un r p ≤ r.length + 1
    split <;> omega
theorem su_last {p q : Path} {x : Str} : su (p ++ [x]) q → su p q ∧ p.length + 1 < q.length ∧ q[p.length]? = some x := by
  rintro ⟨h1, h2⟩
  rw [List.length_append] at h1 h2
  have h1' : p.length + 1 < q.length := h1
  have h2' : q.take (p.length + 1) = p ++ [x] := h2
  refine ⟨⟨by omega, ?_⟩, h1', ?_⟩
  · have := congrArg (List.take p.length) h2'
    rw [List.take_take, Nat.min_eq_left (by omega)] at this
    rw [this]
    simp
  · have := congrArg (fun l => l[p.length]?) h2'
    simp only [List.getElem?_take] at this
    rw [if_pos (by omega)] at this
    rw [this]
    simp
/-- at most one of xs -/
theorem su_one (p q : Path) : ∀ {xs : List Str}, xs.Nodup → (xs.map fun x => if su (p ++ [x]) q then 1 else 0).sum ≤ if su p q ∧ p.length + 1 < q.length then 1 else 0
  | [], _ => Nat.zero_le _
  | x :: r, h => by
    obtain ⟨h1, h2⟩ := List.nodup_cons.mp h
    have ih := su_one p q h2
    rw [List.map_cons, List.sum_cons]
    by_cases c : su (p ++ [x]) q
    · rw [if_pos c]
      obtain ⟨c1, c2, c3⟩ := su_last c
      rw [if_pos ⟨c1, c2⟩]
      have z : (r.map fun y => if su (p ++ [y]) q then 1 else 0).sum = 0 := by
        have : ∀ y ∈ r, (if su (p ++ [y]) q then 1 else 0 : Nat) = 0 := fun y hy => by
          rw [if_neg]
          intro z
          have := (su_last z).2.2
          rw [c3] at this
          exact h1 (by rw [Option.some.inj this]; exact hy)
        clear ih h h1 h2 c3
        induction r with
        | nil => rfl
        | cons a l ihl =>
          rw [List.map_cons, List.sum_cons, this a List.mem_cons_self, ihl fun y hy => this y (List.mem_cons_of_mem _ hy)]
      omega
    · rw [if_neg c, Nat.zero_add]
      exact ih
theorem sum_add {α : Type} (f g : α → Nat) : ∀ l : List α, (l.map fun a => f a + g a).sum = (l.map f).sum + (l.map g).sum
  | [] => rfl
  | a :: r => by
    rw [List.map_cons, List.sum_cons, sum_add f g r, List.map_cons, List.sum_cons, List.map_cons, List.sum_cons]
    omega
theorem sum_swap {α β : Type} (f : α → β → Nat) (l : List α) : ∀ m : List β, (l.map fun a => (m.map fun b => f a b).sum).sum = (m.map fun b => (l.map fun a => f a b).sum).sum
  | [] => by
    simp only [List.map_nil, List.sum_nil]
    induction l with
    | nil => rfl
    | cons a r ih =>
      rw [List.map_cons, List.sum_cons, ih]
      rfl
  | b :: r => by
    simp only [List.map_cons, List.sum_cons]
    rw [sum_add, sum_swap f l r]
theorem sum_mono {α : Type} {f g : α → Nat} : ∀ {l : List α}, (∀ a ∈ l, f a ≤ g a) → (l.map f).sum ≤ (l.map g).sum
  | [], _ => Nat.le_refl _
  | a :: r, h => by
    rw [List.map_cons, List.sum_cons, List.map_cons, List.sum_cons]
    have h1 := h a List.mem_cons_self
    have h2 := sum_mono fun b hb => h b (List.mem_cons_of_mem a hb)
    omega
theorem ents_count (evs : List Ev) (p : Path) : (entsR evs p).length = (evs.map fun ev => if (entOf p ev).isSome then 1 else 0).sum := by
  induction evs with
  | nil => rfl
  | cons e r ih =>
    unfold entsR at ih ⊢
    rw [List.filterMap_cons, List.map_cons, List.sum_cons, ← ih]
    cases h : entOf p e with
    | none => simp
    | some x => simp; omega
/-- entries and what lies under distinct folders among them -/
theorem under_sum {evs : List Ev} (hok : ∀ ev ∈ evs, EvOk ev) (p : Path) {xs : List Str} (hx : xs.Nodup) : (entsR evs p).length + (xs.map fun x => un evs (p ++ [x])).sum ≤ un evs p := by
  have e1 : (xs.map fun x => un evs (p ++ [x])).sum = (evs.map fun ev => (xs.map fun x => if su (p ++ [x]) (pathOfEv ev) then 1 else 0).sum).sum := by
    unfold un
    exact sum_swap (fun x ev => if su (p ++ [x]) (pathOfEv ev) then 1 else 0) xs evs
  rw [e1, ents_count, ← sum_add]
  unfold un
  refine sum_mono fun ev hev => ?_
  have h1 := su_one p (pathOfEv ev) hx
  rw [ent_iff (hok ev hev) p]
  by_cases c : (pathOfEv ev).length = p.length + 1 ∧ (pathOfEv ev).dropLast = p
  · rw [if_pos c]
    rw [if_neg (fun z => by have := z.2; omega)] at h1
    have hs : su p (pathOfEv ev) := by
      refine ⟨by omega, ?_⟩
      have h2 := c.2
      rw [List.dropLast_eq_take, c.1] at h2
      exact h2
    rw [if_pos hs]
    simp only [Option.isSome_some, if_true]
    omega
  · rw [if_neg c]
    simp only [Option.isSome_none, Bool.false_eq_true, if_false]
    by_cases hs : su p (pathOfEv ev) ∧ p.length + 1 < (pathOfEv ev).length
    · rw [if_pos hs] at h1
      rw [if_pos hs.1]
      omega
    · rw [if_neg hs] at h1
      omega
theorem folder_names (p : Path) : ∀ evs : List Ev, (((entsR evs p).filterMap fun e => if e.2 = none then some e.1 else none).map fun x => p ++ [x]).Sublist (fps evs)
  | [] => List.Sublist.slnil
  | ev :: r => by
    have ih := folder_names p r
    have ee : entsR (ev :: r) p = (entOf p ev).toList ++ entsR r p := by
      unfold entsR
      rw [List.filterMap_cons]
      cases entOf p ev <;> rfl
    rw [ee, List.filterMap_append, List.map_append]
    cases ev with
    | file q n =>
      have e2 : ((((entOf p (.file q n)).toList.filterMap fun e => if e.2 = none then some e.1 else none)).map fun x => p ++ [x]) = [] := by
        show (((if q ≠ [] ∧ q.dropLast = p then some (lastOf q, some n) else none : Option (Str × Option Int)).toList.filterMap _).map _) = []
        split <;> rfl
      rw [e2]
      exact ih
    | word n z => exact ih
    | folder q =>
      show List.Sublist ((((if q ≠ [] ∧ q.dropLast = p then some (lastOf q, none) else none : Option (Str × Option Int)).toList.filterMap fun e => if e.2 = none then some e.1 else none).map fun x => p ++ [x]) ++ _) (q :: fps r)
      by_cases c : q ≠ [] ∧ q.dropLast = p
      · rw [if_pos c]
        show List.Sublist ((p ++ [lastOf q]) :: _) (q :: fps r)
        rw [← c.2, join_last c.1]
        rw [c.2]
        exact List.Sublist.cons₂ q ih
      · rw [if_neg c]
        exact List.Sublist.cons q ih
theorem nodup_of_map {α β : Type} {f : α → β} {l : List α} (h : (l.map f).Nodup) : l.Nodup := (List.pairwise_map.mp h).imp fun h e => h (by rw [e])
theorem count_key (evs : List Ev) (k : Nat) (p : Path) (hc : ∀ p, (nodeE k evs p).count ≤ un evs p) : ∀ l : List (Str × Option Int), cntL (l.map (stepE k evs p)) ≤ l.length + ((l.filterMap fun e => if e.2 = none then some e.1 else none).map fun x => un evs (p ++ [x])).sum
  | [] => Nat.le_refl _
  | (x, o) :: r => by
    have ih := count_key evs k p hc r
    show (1 + (stepE k evs p (x, o)).2.count) + cntL (r.map (stepE k evs p)) ≤ _
    cases o with
    | some n =>
      show (1 + 0) + _ ≤ (r.length + 1) + ((r.filterMap _).map _).sum
      omega
    | none =>
      have hc := hc (p ++ [x])
      show (1 + (nodeE k evs (p ++ [x])).count) + _ ≤ (r.length + 1) + (un evs (p ++ [x]) + ((r.filterMap _).map _).sum)
      omega
theorem count_le {evs : List Ev} (hok : ∀ ev ∈ evs, EvOk ev) (nd : (fps evs).Nodup) : ∀ (k : Nat) (p : Path), (nodeE k evs p).count ≤ un evs p
  | 0, p => Nat.zero_le _
  | k + 1, p => by
    rw [nodeE_succ]
    show (Ents.ofList ((entsR evs p).map (stepE k evs p))).count ≤ _
    rw [cnt_eq, toList_ofList]
    have hx : ((entsR evs p).filterMap fun e => if e.2 = none then some e.1 else none).Nodup := nodup_of_map (f := fun x => p ++ [x]) (List.Nodup.sublist (folder_names p evs) nd)
    refine Nat.le_trans ?_ (under_sum hok p hx)
    exact count_key evs k p (fun p => count_le hok nd k p) _
theorem un_ps : ∀ evs : List Ev, un evs [] + (psOf evs).length ≤ evs.length
  | [] => Nat.le_refl _
  | ev :: r => by
    have ih := un_ps r
    have e1 : psOf (ev :: r) = (pairOf ev).toList ++ psOf r := by
      unfold psOf
      rw [List.filterMap_cons]
      cases pairOf ev <;> rfl
    rw [e1, List.length_append]
    show ((if su [] (pathOfEv ev) then 1 else 0) + un r []) + _ ≤ r.length + 1
    cases ev with
    | file q n =>
      show _ + (0 + _) ≤ _
      split <;> omega
    | folder q =>
      show _ + (0 + _) ≤ _
      split <;> omega
    | word n z =>
      rw [if_neg (fun z => absurd z.1 (Nat.lt_irrefl _))]
      show _ + (1 + _) ≤ _
      omega
/-! ### what is shown -/
mutual
def OkN : Node → Prop
  | .file n => 0 ≤ n ∧ n < 10000
  | .folder es => OkE es
def OkE : Ents → Prop
  | .nil => True
  | .cons x n r => isWordB x = true ∧ OkN n ∧ OkE r
end
theorem okE_of : ∀ {l : List (Str × Node)}, (∀ e ∈ l, isWordB e.1 = true ∧ OkN e.2) → OkE (Ents.ofList l)
  | [], _ => True.intro
  | (x, n) :: r, h => ⟨(h _ List.mem_cons_self).1, (h _ List.mem_cons_self).2, okE_of fun e he => h e (List.mem_cons_of_mem _ he)⟩
theorem ok_node {evs : List Ev} (h : ∀ ev ∈ evs, EvOk ev) : ∀ (k : Nat) (p : Path), OkN (nodeE k evs p)
  | 0, p => True.intro
  | k + 1, p => by
    rw [nodeE_succ]
    refine okE_of fun e he => ?_
    obtain ⟨⟨x, o⟩, hx, rfl⟩ := List.mem_map.mp he
    have hw := ents_word h hx
    refine ⟨hw.1, ?_⟩
    cases o with
    | some n => exact hw.2 n rfl
    | none => exact ok_node h k _
theorem repr_word {x : Str} (h : isWordB x = true) : (reprText x).length ≤ 82 := by
  have h2 : ∀ c ∈ x.cps.toList, c < 16 ^ 8 := fun c hc => by
    have h3 := word_ok h
    unfold PyData.strOk at h3
    rw [← Array.all_toList] at h3
    have h4 := of_decide_eq_true (List.all_eq_true.mp h3 c hc)
    exact Nat.lt_of_lt_of_le h4 (by decide)
  have h3 := StrLaws.reprText_len x h2
  have h4 := word_short h
  omega
theorem int_short {n : Int} (h0 : 0 ≤ n) (h1 : n < 10000) : (PyData.shown (.int n)).length ≤ 5 ∧ n.natAbs.log2 < 1920 := by
  have e : n.natAbs < 10 ^ 4 := by omega
  have h2 := int_text_length_le10 (k := 4) (by decide) e
  refine ⟨?_, ?_⟩
  · show (Str.ofString (toString n)).length ≤ 5
    rw [PySem.ofString_length]
    exact h2
  · have h3 : n.natAbs < 2 ^ 14 := by omega
    by_cases hz : n.natAbs = 0
    · rw [hz]
      decide
    · have := (Nat.log2_lt hz).mpr h3
      omega
mutual
theorem shown_node : ∀ n : Node, OkN n → (n.data.shown).length ≤ 20 + 110 * n.count
  | .file n, h => by
    have h1 := fmt_text [PyData.shown (.str sFile), PyData.shown (.int n)]
    have h2 := (int_short h.1 h.2).1
    have h3 : (PyData.shown (.str sFile)).length ≤ 6 := by
      show (reprText sFile).length ≤ 6
      decide +kernel
    have e : (Node.file n).data.shown = tupleText [PyData.shown (.str sFile), PyData.shown (.int n)] := by
      simp [Node.data, PyData.shown, PyData.shownAll]
    rw [e]
    rw [piled_cons, piled_cons, piled_nil] at h1
    omega
  | .folder es, h => by
    have h0 := shown_ents es h
    have h1 := fmt_text [PyData.shown (.str sFolder), tupleText (PyData.shownAll es.data)]
    have h2 := fmt_text (PyData.shownAll es.data)
    have h3 : (PyData.shown (.str sFolder)).length ≤ 8 := by
      show (reprText sFolder).length ≤ 8
      decide +kernel
    have e : (Node.folder es).data.shown = tupleText [PyData.shown (.str sFolder), tupleText (PyData.shownAll es.data)] := by
      simp [Node.data, PyData.shown, PyData.shownAll]
    rw [e]
    rw [piled_cons, piled_cons, piled_nil] at h1
    show _ ≤ 20 + 110 * es.count
    omega
theorem shown_ents : ∀ es : Ents, OkE es → piled (PyData.shownAll es.data) ≤ 110 * es.count
  | .nil, _ => Nat.le_refl _
  | .cons x n r, h => by
    have h1 := shown_ents r h.2.2
    have h2 := shown_node n h.2.1
    have h3 := repr_word h.1
    have h4 := fmt_text [reprText x, n.data.shown]
    have e : PyData.shownAll (Ents.cons x n r).data = tupleText [reprText x, n.data.shown] :: PyData.shownAll r.data := by
      simp [Ents.data, PyData.shown, PyData.shownAll]
    rw [e, piled_cons]
    rw [piled_cons, piled_cons, piled_nil] at h4
    show _ ≤ 110 * ((1 + n.count) + r.count)
    omega
end
theorem shown_pairs : ∀ ps : KN.Pairs, (∀ q ∈ ps, isWordB q.2 = true ∧ 0 ≤ q.1 ∧ q.1 < 10000) → piled (PyData.shownAll (ps.map pairData)) ≤ 110 * ps.length
  | [], _ => Nat.le_refl _
  | q :: r, h => by
    have h1 := shown_pairs r fun y hy => h y (List.mem_cons_of_mem _ hy)
    obtain ⟨a1, a2, a3⟩ := h q List.mem_cons_self
    have h2 := (int_short a2 a3).1
    have h3 := repr_word a1
    have h4 := fmt_text [PyData.shown (.int q.1), reprText q.2]
    have e : PyData.shownAll ((q :: r).map pairData) = tupleText [PyData.shown (.int q.1), reprText q.2] :: PyData.shownAll (r.map pairData) := by
      simp [pairData, PyData.shown, PyData.shownAll]
    rw [e, piled_cons]
    rw [piled_cons, piled_cons, piled_nil] at h4
    rw [List.length_cons]
    omega
theorem shown_tree {root : Node} {ps : KN.Pairs} (h1 : OkN root) (h2 : ∀ q ∈ ps, isWordB q.2 = true ∧ 0 ≤ q.1 ∧ q.1 < 10000) : (treeData root ps).shown.length ≤ 40 + 110 * (root.count + ps.length) := by
  have a1 := shown_node root h1
  have a2 := shown_pairs ps h2
  have a3 := fmt_text [root.data.shown, tupleText (PyData.shownAll (ps.map pairData))]
  have a4 := fmt_text (PyData.shownAll (ps.map pairData))
  have e : (treeData root ps).shown = tupleText [root.data.shown, tupleText (PyData.shownAll (ps.map pairData))] := by
    simp [treeData, PyData.shown, PyData.shownAll]
  rw [e]
  rw [piled_cons, piled_cons, piled_nil] at a3
  omega
mutual
theorem showable_node : ∀ n : Node, OkN n → n.data.showable = true
  | .file n, h => by
    have := (int_short h.1 h.2).2
    simp [Node.data, PyData.showable, PyData.showableAll, this]
  | .folder es, h => by
    have := showable_ents es h
    simp [Node.data, PyData.showable, PyData.showableAll, this]
theorem showable_ents : ∀ es : Ents, OkE es → PyData.showableAll es.data = true
  | .nil, _ => by simp [Ents.data, PyData.showableAll]
  | .cons x n r, h => by
    have h1 := showable_ents r h.2.2
    have h2 := showable_node n h.2.1
    simp [Ents.data, PyData.showable, PyData.showableAll, h1, h2]
end
theorem showable_pairs : ∀ ps : KN.Pairs, (∀ q ∈ ps, isWordB q.2 = true ∧ 0 ≤ q.1 ∧ q.1 < 10000) → PyData.showableAll (ps.map pairData) = true
  | [], _ => by simp [PyData.showableAll]
  | q :: r, h => by
    have h1 := showable_pairs r fun y hy => h y (List.mem_cons_of_mem _ hy)
    obtain ⟨a1, a2, a3⟩ := h q List.mem_cons_self
    have := (int_short a2 a3).2
    simp [pairData, PyData.showable, PyData.showableAll, h1, this]
mutual
theorem nodict_node : ∀ n : Node, n.data.hasDict = false
  | .file n => by simp [Node.data, PyData.hasDict, PyData.hasDictAll]
  | .folder es => by
    have := nodict_ents es
    simp [Node.data, PyData.hasDict, PyData.hasDictAll, this]
theorem nodict_ents : ∀ es : Ents, PyData.hasDictAll es.data = false
  | .nil => by simp [Ents.data, PyData.hasDictAll]
  | .cons x n r => by
    have h1 := nodict_ents r
    have h2 := nodict_node n
    simp [Ents.data, PyData.hasDict, PyData.hasDictAll, h1, h2]
end
theorem nodict_pairs : ∀ ps : KN.Pairs, PyData.hasDictAll (ps.map pairData) = false
  | [] => by simp [PyData.hasDictAll]
  | q :: r => by
    have h1 := nodict_pairs r
    simp [pairData, PyData.hasDict, PyData.hasDictAll, h1]
mutual
theorem dp_node : ∀ n : Node, n.data.depth ≤ 3 * n.depth + 1
  | .file n => by simp [Node.data, PyData.depth, PyData.depthAll]
  | .folder es => by
    have := dp_ents es
    simp only [Node.data, PyData.depth, PyData.depthAll]
    show _ ≤ 3 * (es.depth + 1) + 1
    omega
theorem dp_ents : ∀ es : Ents, PyData.depthAll es.data ≤ 3 * es.depth + 2
  | .nil => by simp [Ents.data, PyData.depthAll]
  | .cons x n r => by
    have h1 := dp_ents r
    have h2 := dp_node n
    simp only [Ents.data, PyData.depth, PyData.depthAll]
    show _ ≤ 3 * (max n.depth r.depth) + 2
    omega
end
theorem depth_nodeE (evs : List Ev) : ∀ (k : Nat) (p : Path), (nodeE k evs p).depth ≤ k + 1
  | 0, p => Nat.le_refl _
  | k + 1, p => by
    rw [nodeE_succ]
    refine Nat.succ_le_succ (depth_ents fun e he => ?_)
    rw [toList_ofList] at he
    obtain ⟨⟨x, o⟩, hx, rfl⟩ := List.mem_map.mp he
    cases o with
    | some n => exact Nat.zero_le _
    | none => exact depth_nodeE evs k _
theorem read_events {z : Str} {root : Node} {ps : KN.Pairs} (h : readM z = .ok (root, ps)) : ∃ evs : List Ev, root = nodeE 7 evs [] ∧ ps = psOf evs ∧ (∀ ev ∈ evs, EvOk ev) ∧ evs.length ≤ z.length + 1 ∧ (fps evs).Nodup := by
  unfold readM at h
  cases e : foldA (KD17.wordsOf z) 0 RS.init [] with
  | error x =>
    rw [e] at h
    cases h
  | ok x =>
    obtain ⟨s, evs⟩ := x
    rw [e] at h
    cases h
    have rows := fold_all e
    refine ⟨evs, rfl, rfl, paired_ev rows, ?_, fold_fp good0 rfl (by simp [RS.init]) e⟩
    have h1 := paired_len rows
    have h2 := words_len z
    omega
theorem read_err : ∀ {l : List (List Str)} {k : Nat} {s : RS} {evs : List Ev} {a b : Nat}, foldA l k s evs = .error (a, b) → a < k + l.length ∧ b ≤ 3
  | [], k, s, evs, a, b, h => by cases h
  | ws :: r, k, s, evs, a, b, h => by
    have h' : (match stepA s ws with
      | .error e => (.error (k, e) : Except (Nat × Nat) (RS × List Ev))
      | .ok (ev, s1) => foldA r (k + 1) s1 (evs ++ [ev])) = .error (a, b) := h
    cases e : stepA s ws with
    | error x =>
      rw [e] at h'
      cases h'
      refine ⟨by rw [List.length_cons]; omega, ?_⟩
      unfold stepA at e
      split at e
      · split at e
        · cases e; decide
        · split at e
          · cases e; decide
          · split at e
            · cases e; decide
            · split at e
              · cases e; decide
              · cases e
      · split at e
        · cases e; decide
        · split at e
          · cases e; decide
          · split at e
            · cases e; decide
            · split at e
              · split at e
                · cases e; decide
                · cases e
              · split at e
                · cases e; decide
                · split at e
                  · cases e; decide
                  · cases e
    | ok x =>
      obtain ⟨ev, s1⟩ := x
      rw [e] at h'
      have := read_err h'
      rw [List.length_cons]
      omega
theorem dnat_short {a : Nat} (h1 : a < 10 ^ 9) : (PyData.shown (.int (a : Nat))).length ≤ 10 ∧ (a : Int).natAbs.log2 < 1920 := by
  have h2 := int_text_length_le10 (a := (a : Int)) (k := 9) (by decide) (by omega)
  refine ⟨?_, ?_⟩
  · show (Str.ofString (toString (a : Int))).length ≤ 10
    rw [PySem.ofString_length]
    exact h2
  · have e : (a : Int).natAbs = a := rfl
    rw [e]
    by_cases hz : a = 0
    · rw [hz]
      decide
    · have := (Nat.log2_lt hz).mpr (show a < 2 ^ 30 by omega)
      omega
theorem sh_err {a b : Nat} (h1 : a < 10 ^ 9) (h2 : b < 10 ^ 9) : Sh (.tuple [.str "text", .int (a : Nat), .int (b : Nat)]) := by
  have a1 := dnat_short h1
  have a2 := dnat_short h2
  refine ⟨?_, ?_, ?_, ?_⟩
  · simp only [PyData.showable, PyData.showableAll, decide_eq_true a1.2, decide_eq_true a2.2, Bool.and_true, Bool.true_and]
  · simp [PyData.hasDict, PyData.hasDictAll]
  · simp [PyData.depth, PyData.depthAll]
  · have h3 := fmt_text [PyData.shown (.str "text"), PyData.shown (.int (a : Nat)), PyData.shown (.int (b : Nat))]
    have h4 : (PyData.shown (.str "text")).length ≤ 6 := by
      show (reprText "text").length ≤ 6
      decide +kernel
    have e : PyData.shown (.tuple [.str "text", .int (a : Nat), .int (b : Nat)]) = tupleText [PyData.shown (.str "text"), PyData.shown (.int (a : Nat)), PyData.shown (.int (b : Nat))] := by
      simp [PyData.shown, PyData.shownAll]
    rw [e]
    rw [piled_cons, piled_cons, piled_cons, piled_nil] at h3
    have : (100 : Nat) ≤ sizeLine := by decide
    omega
theorem dp_pairs : ∀ ps : KN.Pairs, PyData.depthAll (ps.map pairData) ≤ 2
  | [] => by simp [PyData.depthAll]
  | q :: r => by
    have := dp_pairs r
    simp [pairData, PyData.depth, PyData.depthAll]
    omega
theorem sh_treeT {root : Node} {ps : KN.Pairs} (h1 : OkN root) (h2 : ∀ q ∈ ps, isWordB q.2 = true ∧ 0 ≤ q.1 ∧ q.1 < 10000) (hc : root.count + ps.length ≤ 100001) (hd : root.depth ≤ 8) :
    (treeData root ps).showable = true ∧ (treeData root ps).hasDict = false ∧ (treeData root ps).depth ≤ 50 ∧ (treeData root ps).shown.length ≤ 11000200 := by
  have a1 := showable_node root h1
  have a2 := showable_pairs ps h2
  have a3 := nodict_node root
  have a4 := nodict_pairs ps
  have a5 := dp_node root
  have a6 := dp_pairs ps
  have a7 := shown_tree h1 h2
  refine ⟨?_, ?_, ?_, by omega⟩
  · simp [treeData, PyData.showable, PyData.showableAll, a1, a2]
  · simp [treeData, PyData.hasDict, PyData.hasDictAll, a3, a4]
  · simp only [treeData, PyData.depth, PyData.depthAll]
    omega
theorem sh_ansT {z : Str} (hz : z.length ≤ 100000) : Sh (ansT z) := by
  unfold ansT
  cases e : readM z with
  | error x =>
    obtain ⟨a, b⟩ := x
    show Sh (.tuple [.str "text", .int (a : Nat), .int (b : Nat)])
    have h : a < 0 + (KD17.wordsOf z).length ∧ b ≤ 3 := by
      unfold readM at e
      cases e2 : foldA (KD17.wordsOf z) 0 RS.init [] with
      | error y =>
        rw [e2] at e
        cases e
        exact read_err e2
      | ok y =>
        rw [e2] at e
        cases e
    have := words_len z
    exact sh_err (by omega) (by omega)
  | ok x =>
    obtain ⟨root, ps⟩ := x
    obtain ⟨evs, rfl, rfl, hok, hl, nd⟩ := read_events e
    have c1 := count_le hok nd 7 []
    have c2 := un_ps evs
    obtain ⟨b1, b2, b3, b4⟩ := sh_treeT (ok_node hok 7 []) (ps_ok hok) (by omega) (depth_nodeE evs 7 [])
    have big : 12000000 ≤ sizeLine := by decide
    show Sh (if isTreeB (nodeE 7 evs []) (psOf evs) = true then .list [treeData (nodeE 7 evs []) (psOf evs)] else .tuple [.str "tree", treeData (nodeE 7 evs []) (psOf evs)])
    split
    · have e : (PyData.list [treeData (nodeE 7 evs []) (psOf evs)]).shown = listText [(treeData (nodeE 7 evs []) (psOf evs)).shown] := by
        simp [PyData.shown, PyData.shownAll]
      refine ⟨?_, ?_, ?_, ?_⟩
      · simp [PyData.showable, PyData.showableAll, b1]
      · simp [PyData.hasDict, PyData.hasDictAll, b2]
      · simp only [PyData.depth, PyData.depthAll]
        omega
      · have h3 := listText_len_le [(treeData (nodeE 7 evs []) (psOf evs)).shown]
        simp only [List.map_cons, List.map_nil, List.sum_cons, List.sum_nil, List.length_cons, List.length_nil] at h3
        rw [e]
        omega
    · have e : (PyData.tuple [.str "tree", treeData (nodeE 7 evs []) (psOf evs)]).shown = tupleText [PyData.shown (.str "tree"), (treeData (nodeE 7 evs []) (psOf evs)).shown] := by
        simp [PyData.shown, PyData.shownAll]
      refine ⟨?_, ?_, ?_, ?_⟩
      · simp only [PyData.showable, PyData.showableAll, b1, Bool.and_true]
      · simp [PyData.hasDict, PyData.hasDictAll, b2]
      · simp only [PyData.depth, PyData.depthAll]
        omega
      · rw [e]
        have h3 := fmt_text [PyData.shown (.str "tree"), (treeData (nodeE 7 evs []) (psOf evs)).shown]
        have h4 : (PyData.shown (.str "tree")).length ≤ 6 := by
          show (reprText "tree").length ≤ 6
          decide +kernel
        rw [piled_cons, piled_cons, piled_nil] at h3
        omega
theorem sh_ansN : Sh ansN := ⟨by decide +kernel, by decide +kernel, by decide +kernel, by decide +kernel⟩
end KMd
end L2
set_option Elab.async false
set_option linter.all false
set_option maxRecDepth 100000
set_option maxHeartbeats 4000000
/-! k92: the draws: _law_mixed, _law_folded, _law_draw, _law_begun -/
namespace L2
namespace KD26
open PySem PySem.Spec PyProof.Rows LamX NdefX KB KN KH KL KR KM KX KD1 KD2 KD3 KD4 KD5 KD6 KD7 KMa KD8 KD9 KD10 KD11 KD12 KD13 KD14 KD15 KMb KD16 KMc KD18 KD19 KD20 KD21 KD22 KD23 KD24 KD25 KMd
abbrev s_mixed : Stmt := top 49
abbrev s_folded : Stmt := top 50
abbrev s_draw : Stmt := top 51
abbrev s_begun : Stmt := top 52
abbrev qC : Str := "cells"
abbrev qG : Str := "great"
abbrev qS : Str := "spot"
theorem q_cg : ¬ qC = qG := by decide +kernel
theorem q_cs : ¬ qC = qS := by decide +kernel
theorem q_gs : ¬ qG = qS := by decide +kernel
def dsm (a b c : V) : List (Key × V) := [(.inr qC, a), (.inr qG, b), (.inr qS, c)]
section
variable {a b c v : V}
theorem dm_c : valV (dsm a b c) (.inr qC) = some a := valV_pos rfl
theorem dm_g : valV (dsm a b c) (.inr qG) = some b := (valV_neg (ir q_cg)).trans (valV_pos rfl)
theorem dm_s : valV (dsm a b c) (.inr qS) = some c := (valV_neg (ir q_cs)).trans ((valV_neg (ir q_gs)).trans (valV_pos rfl))
theorem dm_pg : putK (dsm a b c) (.inr qG) v = dsm a v c := by
  rw [put_any dm_g]
  show [if (.inr qC : Key) = .inr qG then _ else _, if (.inr qG : Key) = .inr qG then _ else _, if (.inr qS : Key) = .inr qG then _ else _] = _
  rw [if_pos rfl, if_neg (ir q_cg), if_neg (ir (Ne.symm q_gs))]
  rfl
theorem dm_ps : putK (dsm a b c) (.inr qS) v = dsm a b v := by
  rw [put_any dm_s]
  show [if (.inr qC : Key) = .inr qS then _ else _, if (.inr qG : Key) = .inr qS then _ else _, if (.inr qS : Key) = .inr qS then _ else _] = _
  rw [if_pos rfl, if_neg (ir q_cs), if_neg (ir q_gs)]
  rfl
theorem mergeM : mergeK [] [((.inr qC : Key), a), (.inr qG, b), (.inr qS, c)] = dsm a b c := by
  have h1 : valV [((.inr qC : Key), a)] (.inr qG) = none := valV_neg (ir q_cg)
  have h2 : valV [((.inr qC : Key), a), (.inr qG, b)] (.inr qS) = none := (valV_neg (ir q_cs)).trans (valV_neg (ir q_gs))
  have e1 : putK [((.inr qC : Key), a)] (.inr qG) b = [((.inr qC : Key), a), (.inr qG, b)] := by
    unfold putK
    rw [valV_any, h1]
    rfl
  show putK (putK [((.inr qC : Key), a)] ((.inr qG : Key)) b) ((.inr qS : Key)) c = _
  rw [e1]
  unfold putK
  rw [valV_any, h2]
  rfl
end
/-- what the draws are made from: at m the dict, at cl the cells, at gl the great cells; at most S draws so far -/
structure MA (H : Hp) (m cl gl : Addr) (S : Nat) : Prop where
  ex : ∃ (cs gs : List Int) (n : Int), H m = some (.dK (dsm (.ref cl) (.ref gl) (.int n))) ∧ H cl = some (.lst (cs.map V.int)) ∧ cs.length = 64 ∧ H gl = some (.lst (gs.map V.int)) ∧ 0 ≤ n ∧ n ≤ S
  ne : cl ≠ gl
theorem MA.keep {H H' : Hp} {m cl gl : Addr} {S : Nat} (h : MA H m cl gl S) (k : ∀ b o, (b = m ∨ b = cl ∨ b = gl) → H b = some o → H' b = some o) : MA H' m cl gl S := by
  obtain ⟨cs, gs, n, e1, e2, e3, e4, e5⟩ := h.ex
  exact ⟨⟨cs, gs, n, k _ _ (.inl rfl) e1, k _ _ (.inr (.inl rfl)) e2, e3, k _ _ (.inr (.inr rfl)) e4, e5⟩, h.ne⟩
theorem MA.same {H H' : Hp} {m cl gl : Addr} {S : Nat} (h : MA H m cl gl S) (k : Same H H') : MA H' m cl gl S := h.keep fun b o _ e => k b o e
theorem MA.le {H : Hp} {m cl gl : Addr} {S S' : Nat} (h : MA H m cl gl S) (k : S ≤ S') : MA H m cl gl S' := by
  obtain ⟨cs, gs, n, e1, e2, e3, e4, e5, e6⟩ := h.ex
  exact ⟨⟨cs, gs, n, e1, e2, e3, e4, e5, by omega⟩, h.ne⟩
theorem ixNN {n j : Nat} (hj : j < n) : ixN n (j : Int) = some j := by
  unfold ixN
  rw [if_pos (by omega), if_pos (by omega)]
  simp
theorem ints_at {gs : List Int} {j : Nat} (h : j < gs.length) : (gs.map V.int)[j]? = some (.int gs[j]) := by simp [h]
theorem ints_set {gs : List Int} {j : Nat} {v : Int} : (gs.map V.int).set j (.int v) = (gs.set j v).map V.int := by rw [List.map_set]
section
variable {P : Program} {w : World} {K : PySem.W.Frag} {mg : Str → Option Value} {base : Heap} {f : Addr} {fd0 : FuncData}
def spMixed : Sp := fun vs H Q _ => ∃ c n : Int, vs = [.int c, .int n] ∧ 0 ≤ n ∧ n ≤ 1000000 ∧ ∀ r : Int, Q (.int r) H
theorem sc_mixed : FnScope ["_law_cell", "_law_n", "_law_blend"] ["_law_cell", "_law_n"] (defScope s_mixed) := ⟨rfl, rfl, rfl, by decide +kernel, rfl, by decide +kernel, by decide +kernel⟩
theorem ok_mixed (X : Tx mg) (F : Fun K "_law_mixed" "_law_mixed" s_mixed f fd0) : FnOk P w K mg base CX0 1 f fd0 ["_law_cell", "_law_n"] spMixed := by
  refine F.ok sc_mixed (fun vs H Q E h => ?_) (fun cdv A outer s0 H vs Q E hr h => ?_)
  · obtain ⟨c, n, rfl, _⟩ := h
    rfl
  · obtain ⟨c, n, rfl, n0, n1, q⟩ := h
    have nd := sc_mixed.nd
    refine ⟨_, pss_cons (ps_set (i := 2) nd rfl (Or.inl rfl)
        (pe_op op_add (pe_op op_add (pe_op op_mod (pe_callTy call_int1 (by rfl) (X.b "int") (by decide +kernel) (pa_cons (pe_op op_mul (pe_op op_mul (pv 0) (pe_op op_add pe_int (pe_op op_mul pe_int (pv 1)))) pe_int) pa_nil)) pe_int)
          (pe_op op_mul (pe_op op_mul pe_int (pv 1)) (pv 1))) (pe_op op_mul pe_int (pv 1))))
      (pss_one (ps_ret (pe_op op_fdiv (pe_op op_mod (pe_callTy call_int1 (by rfl) (X.b "int") (by decide +kernel) (pa_cons (pe_op op_mul (pv 2) pe_int) pa_nil)) pe_int) pe_int))), ?_⟩
    have big : ∀ {i : Int}, 0 ≤ i → i ≤ 10000000000 → (-(2 ^ 64) < i ∧ i < 2 ^ 64) := fun h0 h1 => by omega
    refine ⟨_, rfl, _, rfl, _, _, rfl, rfl, .inr (big n0 (by omega)), _, _, rfl, rfl, _, _, rfl, rfl, .inr (big (by omega) (by omega)), _, _, rfl, rfl, .inr (by omega), .inl ⟨_, rfl, _, _, rfl, rfl, (by show (0:Int) < 2147483647; decide), ?_⟩⟩
    refine ⟨_, rfl, _, _, rfl, rfl, .inr (big n0 (by omega)), _, rfl, _, _, rfl, rfl, .inr (big n0 (by omega)), _, _, rfl, rfl, ?_⟩
    refine ⟨_, rfl, _, _, rfl, rfl, .inr (big n0 (by omega)), _, _, rfl, rfl, ?_⟩
    exact ⟨_, rfl, _, _, rfl, rfl, .inr (by omega), .inl ⟨_, rfl, _, _, rfl, rfl, (by show (0:Int) < 2147483629; decide), _, _, rfl, rfl, (by unfold CDiv; omega), q _⟩⟩
def spDraw : Sp := fun vs H Q _ => ∃ (m cl gl : Addr) (lim : Int) (S : Nat), vs = [.ref m, .int lim] ∧ MA H m cl gl S ∧ S < 900000 ∧ 0 < lim ∧ lim < 1073741824 ∧ ∀ (r : Int) H', 0 ≤ r → r < lim → MA H' m cl gl (S + 1) → Bt [m, gl] H H' → Q (.int r) H'
theorem sc_draw : FnScope ["_law_m", "_law_limit", "_law_n", "_law_lot", "_law_here", "_law_cell"] ["_law_m", "_law_limit"] (defScope s_draw) := ⟨rfl, rfl, rfl, by decide +kernel, rfl, by decide +kernel, by decide +kernel⟩
theorem ok_draw (X : Tx mg) (cM : Ca CX0 P w K mg base 1 "_law_mixed" ["_law_cell", "_law_n"] spMixed) (F : Fun K "_law_draw" "_law_draw" s_draw f fd0) : FnOk P w K mg base CX0 2 f fd0 ["_law_m", "_law_limit"] spDraw := by
  refine F.ok sc_draw (fun vs H Q E h => ?_) (fun cdv A outer s0 H vs Q E hr h => ?_)
  · obtain ⟨m, cl, gl, lim, S, rfl, _⟩ := h
    rfl
  · obtain ⟨m, cl, gl, lim, S, rfl, hm, hS, l0, l1, q⟩ := h
    have hr1 : Room 1 _ := hr.mono (by decide)
    have hu := hu_of hr
    have nd := sc_draw.nd
    refine ⟨_, pss_cons (ps_set (i := 2) nd rfl (Or.inl rfl) (pe_dget hu (pv 0) pe_str (fun _ _ => rfl)))
      (pss_cons (ps_dput hu (pv 0) pe_str (pe_op op_add (pv 2) pe_int) rfl)
      (pss_cons (ps_if (pt_cmpR (op_neNil hr.units0) (pe_dget hu (pv 0) pe_str (fun _ _ => rfl)) (pe_lst pa_nil) (nomark _))
        (pss_cons (ps_set (i := 3) nd rfl (Or.inl rfl) (pe_dget hu (pv 0) pe_str (fun _ _ => rfl)))
        (pss_cons (ps_set (i := 4) nd rfl (Or.inl rfl) (pe_op op_mod (pe_callTy call_int1 (by rfl) (X.b "int") (by decide +kernel) (pa_cons (pv 2) pa_nil)) (pe_callB call_len_seq (by rfl) (X.b "len") PySem.boot_len (pa_cons (pv 3) pa_nil))))
        (pss_cons (ps_set (i := 5) nd rfl (Or.inl rfl) (pe_ix ix_list (pv 3) (pv 4) (fun _ _ => rfl)))
        (pss_one (ps_if (pt_cmpR op_gt (pv 5) pe_int (nomark _))
          (pss_cons (ps_asg (pe_op op_fdiv (pv 5) (pv 1)) (pg_sub (pv 3) (pv 4) set_list))
          (pss_one (ps_ret (pe_op op_mod (pe_callTy call_int1 (by rfl) (X.b "int") (by decide +kernel) (pa_cons (pv 5) pa_nil)) (pv 1))))) pss_nil)))))
        pss_nil)
      (pss_cons (ps_set (i := 3) nd rfl (Or.inl rfl) (pe_dget hu (pv 0) pe_str (fun _ _ => rfl)))
      (pss_one (ps_ret (pe_op op_mod (pe_callTy call_int1 (by rfl) (X.b "int") (by decide +kernel) (pa_cons
        (pe_ca cM hr1 (by rfl) (pa_cons (pe_ca cM hr1 (by rfl) (pa_cons (pe_op op_add (pe_ix ix_list (pv 3) (pe_op op_mod (pe_callTy call_int1 (by rfl) (X.b "int") (by decide +kernel) (pa_cons (pv 2) pa_nil)) pe_int) (fun _ _ => rfl)) (pe_op op_mul pe_int (pe_op op_fdiv (pv 2) pe_int))) (pa_cons (pv 2) pa_nil))) (pa_cons (pe_op op_add (pv 2) pe_int) pa_nil))) pa_nil)) (pv 1))))))), ?_⟩
    obtain ⟨cs, gs, n, e1, e2, e3, e4, n0, nS⟩ := hm.ex
    have ncg := hm.ne
    obtain ⟨k, rfl⟩ := Int.eq_ofNat_of_zero_le n0
    have dg := DGet.k (k := .inr qS) e1
    rw [dm_s] at dg
    have dp := DPut.k (k := .inr qS) (v := .int ((k : Int) + 1)) e1 (by show 3 < sizeLine; decide)
    rw [dm_ps] at dp
    refine ⟨_, rfl, m, _, rfl, dg, _, rfl, _, _, rfl, rfl, _, rfl, m, _, rfl, dp, ?_⟩
    have k1 : ∀ {b : Addr} {o : HO}, H b = some o → b ≠ m → upd H m (.dK (dsm (.ref cl) (.ref gl) (.int ((k : Int) + 1)))) b = some o := fun {b o} e h => (upd_ne h).trans e
    have f1 : upd H m (.dK (dsm (.ref cl) (.ref gl) (.int ((k : Int) + 1)))) m = some (.dK (dsm (.ref cl) (.ref gl) (.int ((k : Int) + 1)))) := upd_same
    have f2 := k1 e2 (ne_of e2 e1 fun z => by cases z)
    have f4 := k1 e4 (ne_of e4 e1 fun z => by cases z)
    have B1 : Bt [m, gl] H (upd H m (.dK (dsm (.ref cl) (.ref gl) (.int ((k : Int) + 1))))) := fun b o e hb => k1 e fun z => hb (by rw [z]; exact List.mem_cons_self)
    have ngm : gl ≠ m := ne_of e4 e1 fun z => by cases z
    generalize upd H m (.dK (dsm (.ref cl) (.ref gl) (.int ((k : Int) + 1)))) = H1 at *
    have dgG := DGet.k (k := .inr qG) f1
    rw [dm_g] at dgG
    have dgC := DGet.k (k := .inr qC) f1
    rw [dm_c] at dgC
    refine ⟨_, rfl, m, _, rfl, dgG, (by show 0 ≤ sizeLine; decide), fun t nt => ?_⟩
    have s2 := same_upd (o := .lst []) nt
    refine ⟨gl, t, _, rfl, rfl, SqL.of (s2 _ _ f4), SqL.of upd_same, _, rfl, ?_⟩
    have g1 := s2 _ _ f1
    have g2 := s2 _ _ f2
    have g4 := s2 _ _ f4
    have B2 := B1.trans (bt_same (F := []) s2) (fun x hx => by cases hx)
    generalize upd H1 t (.lst []) = H2 at *
    have M2 : MA H2 m cl gl (S + 1) := ⟨⟨cs, gs, (k : Int) + 1, g1, g2, e3, g4, by omega, by omega⟩, ncg⟩
    refine iteN (fun h0 => ?_) (fun h0 => ?_)
    · have dgG2 := DGet.k (k := .inr qG) g1
      rw [dm_g] at dgG2
      have hl : 0 < gs.length := Nat.pos_of_ne_zero fun z => of_decide_eq_false h0 (by rw [List.length_eq_zero_iff.mp z]; rfl)
      have hj : k % gs.length < gs.length := Nat.mod_lt _ hl
      refine ⟨_, rfl, m, _, rfl, dgG2, _, rfl, .inl ⟨_, rfl, _, rfl, gl, _, rfl, .inl (SqL.of g4), _, _, rfl, rfl, (by rw [List.length_map]; omega), ?_⟩⟩
      refine ⟨_, rfl, _, rfl, gl, _, _, _, rfl, rfl, SqL.of g4, (by rw [List.length_map]; exact atI_nat (j := k % gs.length) (ints_at hj)), ?_⟩
      refine ⟨_, rfl, _, _, rfl, rfl, _, rfl, ?_⟩
      refine itek (fun h1 => ?_) (fun h1 => ?_)
      · refine ⟨_, rfl, _, rfl, _, _, rfl, rfl, ⟨l0, l1⟩, _, rfl, _, rfl, gl, _, _, k % gs.length, rfl, rfl, g4, (by rw [List.length_map]; exact ixNN hj), ?_⟩
        refine ⟨_, rfl, .inl ⟨_, rfl, _, rfl, _, _, rfl, rfl, l0, ?_⟩⟩
        refine q _ _ (Int.emod_nonneg _ (by omega)) (Int.emod_lt_of_pos _ l0) ⟨⟨cs, gs.set (k % gs.length) (gs[k % gs.length] / lim), (k : Int) + 1, (upd_ne (Ne.symm ngm)).trans g1, (upd_ne ncg).trans g2, e3, ?_, by omega, by omega⟩, ncg⟩ fun b o e hb => ?_
        · rw [upd_same, ints_set]
        · rw [upd_ne (fun z => hb (by rw [z]; exact List.mem_cons_of_mem _ List.mem_cons_self))]
          exact B2 b o e hb
      · have dgC2 := DGet.k (k := .inr qC) g1
        rw [dm_c] at dgC2
        have hj : k % 64 < cs.length := by omega
        refine ⟨_, rfl, m, _, rfl, dgC2, _, rfl, _, rfl, .inl ⟨_, rfl, _, _, rfl, rfl, (by show (0:Int) < 64; decide), cl, _, _, _, rfl, rfl, SqL.of g2, atI_nat (j := k % 64) (ints_at hj), ?_⟩⟩
        refine ⟨_, rfl, _, _, rfl, rfl, ⟨(by decide), (by decide)⟩, _, _, rfl, rfl, .inl (by omega), _, _, rfl, rfl, _, rfl, _, _, rfl, n0, by omega, fun r1 => ?_⟩
        refine ⟨_, rfl, _, _, rfl, rfl, _, _, rfl, by omega, by omega, fun r2 => .inl ⟨_, rfl, _, rfl, _, _, rfl, rfl, l0, ?_⟩⟩
        exact q _ H2 (Int.emod_nonneg _ (by omega)) (Int.emod_lt_of_pos _ l0) M2 B2
    · have dgC2 := DGet.k (k := .inr qC) g1
      rw [dm_c] at dgC2
      have hj : k % 64 < cs.length := by omega
      refine ⟨_, rfl, m, _, rfl, dgC2, _, rfl, _, rfl, .inl ⟨_, rfl, _, _, rfl, rfl, (by show (0:Int) < 64; decide), cl, _, _, _, rfl, rfl, SqL.of g2, atI_nat (j := k % 64) (ints_at hj), ?_⟩⟩
      refine ⟨_, rfl, _, _, rfl, rfl, ⟨(by decide), (by decide)⟩, _, _, rfl, rfl, .inl (by omega), _, _, rfl, rfl, _, rfl, _, _, rfl, n0, by omega, fun r1 => ?_⟩
      refine ⟨_, rfl, _, _, rfl, rfl, _, _, rfl, by omega, by omega, fun r2 => .inl ⟨_, rfl, _, rfl, _, _, rfl, rfl, l0, ?_⟩⟩
      exact q _ H2 (Int.emod_nonneg _ (by omega)) (Int.emod_lt_of_pos _ l0) M2 B2
end
end KD26
end L2
set_option Elab.async false
set_option linter.all false
set_option maxRecDepth 100000
set_option maxHeartbeats 4000000
/-! k92: _law_folded, _law_begun -/
namespace L2
namespace KD27
open PySem PySem.Spec PyProof.Rows LamX NdefX KB KN KH KL KR KM KX KD1 KD2 KD3 KD4 KD5 KD6 KD7 KMa KD8 KD9 KD10 KD11 KD12 KD13 KD14 KD15 KMb KD16 KMc KD18 KD19 KD20 KD21 KD22 KD23 KD24 KD25 KMd KD26
section
variable {P : Program} {w : World} {K : PySem.W.Frag} {mg : Str → Option Value} {base : Heap} {f : Addr} {fd0 : FuncData}
def spFolded (K : PySem.W.Frag) : Sp := fun vs H Q _ => ∃ (a : Addr) (ns : List Int), vs = [.ref a] ∧ SqL K H a (ns.map V.int) ∧ ∀ H' l (cs : List Int), Same H H' → H l = none → H' l = some (.lst (cs.map V.int)) → cs.length = 64 → Q (.ref l) H'
abbrev nFolded : List Str := ["_law_script", "_law_n", "_law_found", "_law_cell"]
theorem sc_folded : FnScope nFolded ["_law_script"] (defScope s_folded) := ⟨rfl, rfl, rfl, by decide +kernel, rfl, by decide +kernel, by decide +kernel⟩
theorem set_to {H : Hp} {D : Addr} {cs : List Int} {j : Nat} {v : Int} : upd H D (.lst ((cs.map V.int).set j (.int v))) D = some (.lst ((cs.set j v).map V.int)) := by rw [upd_same, ints_set]
theorem ok_folded (X : Tx mg) (F : Fun K "_law_folded" "_law_folded" s_folded f fd0) : FnOk P w K mg base CX0 1 f fd0 ["_law_script"] (spFolded K) := by
  refine F.ok sc_folded (fun vs H Q E h => ?_) (fun cdv A outer s0 H vs Q E hr h => ?_)
  · obtain ⟨a, ns, rfl, _⟩ := h
    rfl
  · obtain ⟨a, ns, rfl, ha, q⟩ := h
    have nd := sc_folded.nd
    refine ⟨_, pss_cons (ps_setLc (i := 2) (own := [("_law_n", 1)]) (g := gName 1) (tt := tYes) rfl nd rfl rfl (sw_true rfl rfl rfl (by decide +kernel)) (pi_range1 (by rfl) (X.b "range") (pa_cons pe_int pa_nil)) (blkOk_by (N := nFolded) (sc := defScope s_folded) (by decide +kernel)) (fun _ _ _ _ _ => pg_name (i := 1) nd rfl (Or.inl rfl)) (fun _ _ _ _ _ => pts_nil) (fun _ _ _ _ _ => pe_op op_add pe_int (pv 1)))
      (pss_cons (ps_for PassesOwn.never rfl (pi_enum (by rfl) (X.b "enumerate") (pa_cons (pv 0) pa_nil)) (pg_tup rfl (pgs_cons (pg_name (i := 1) nd rfl (Or.inl rfl)) (pgs_cons (pg_name (i := 3) nd rfl (Or.inl rfl)) pgs_nil)))
        (pss_one (ps_asg (pe_op op_mod (pe_callTy call_int1 (by rfl) (X.b "int") (by decide +kernel) (pa_cons (pe_op op_add (pe_op op_mul (pe_ix ix_list (pv 2) (pe_op op_mod (pe_callTy call_int1 (by rfl) (X.b "int") (by decide +kernel) (pa_cons (pv 1) pa_nil)) pe_int) (fun _ _ => rfl)) pe_int) (pv 3)) pa_nil)) pe_int)
          (pg_sub (pv 2) (pe_op op_mod (pe_callTy call_int1 (by rfl) (X.b "int") (by decide +kernel) (pa_cons (pv 1) pa_nil)) pe_int) set_list))))
      (pss_cons (ps_for PassesOwn.never rfl (pi_range2 (by rfl) (X.b "range") (pa_cons pe_int (pa_cons pe_int pa_nil))) (pg_name (i := 1) nd rfl (Or.inl rfl))
        (pss_one (ps_asg (pe_op op_mod (pe_callTy call_int1 (by rfl) (X.b "int") (by decide +kernel) (pa_cons (pe_op op_add (pe_ix ix_list (pv 2) (pv 1) (fun _ _ => rfl)) (pe_op op_mul (pe_ix ix_list (pv 2) (pe_op op_sub (pv 1) pe_int) (fun _ _ => rfl)) pe_int)) pa_nil)) pe_int)
          (pg_sub (pv 2) (pv 1) set_list))))
      (pss_one (ps_ret (pv 2))))), ?_⟩
    refine ⟨64, rfl, (by decide), (by decide), fun D hD => ?_⟩
    refine lc_it (walk_range (lo := 0) (n := 64)) (fun i H' => Same H H' ∧ ∃ cs : List Int, cs.length = i ∧ H' D = some (.lst (cs.map V.int))) ⟨same_upd hD, [], rfl, upd_same⟩ (fun _ _ _ _ => True.intro) ?_ ?_
    · rintro i x H1 H2 hi ⟨s1, cs, l1, e1⟩ ⟨rfl, rfl⟩
      refine ⟨rfl, _, rfl, _, _, rfl, rfl, _, e1, (by rw [List.length_map, l1]; exact Nat.lt_trans hi (by decide)), same_putD hD s1, cs ++ [17 + (0 + (i : Int))], by simp [l1], ?_⟩
      rw [upd_same, List.map_append]
      rfl
    rintro H1 ⟨s1, cs, l1, e1⟩
    refine ⟨_, rfl, a, _, rfl, s1.seq ha, ?_⟩
    refine for_it (walk_enum (K := K) (a := a) (xs := ns.map V.int)) (fun i σ H' => ∃ (x1 x3 : Option V) (cs : List Int), σ = [some (.ref a), x1, some (.ref D), x3] ∧ Same H H' ∧ cs.length = 64 ∧ H' D = some (.lst (cs.map V.int)))
      ⟨none, none, cs, rfl, s1, l1, e1⟩ (fun i σ H' _ ⟨_, _, _, _, s, _⟩ => s.seq ha) ?_ ?_
    · rintro i x σ H2 H3 hi ⟨x1, x3, cs, rfl, s2, l2, e2⟩ ⟨t, i', c', rfl, nt, rfl, hi', hc'⟩
      obtain rfl : V.int (i : Nat) = i' := Option.some.inj hi'
      obtain ⟨c, hc, rfl⟩ := map_at hc'
      refine ⟨t, _, rfl, SqT.of upd_same, rfl, _, _, rfl, _, _, rfl, rfl, ?_⟩
      have s3 := s2.upd (o := .tup [.int (i : Nat), .int c]) nt
      have e3 := same_upd (o := .tup [.int (i : Nat), .int c]) nt _ _ e2
      generalize upd H2 t (.tup [.int (i : Nat), .int c]) = H3 at *
      have hj : i % 64 < cs.length := by omega
      have hm : (0 : Int) < 64 := by decide
      refine ⟨_, rfl, _, rfl, .inl ⟨_, rfl, _, _, rfl, rfl, hm, D, _, _, _, rfl, rfl, SqL.of e3, atI_nat (j := i % 64) (ints_at hj), ?_⟩⟩
      refine ⟨_, _, rfl, rfl, .inr (by omega), _, rfl, _, _, rfl, rfl, .inl ⟨_, rfl, _, _, rfl, rfl, (by show (0 : Int) < 2147483647; decide), ?_⟩⟩
      refine ⟨_, rfl, _, rfl, .inl ⟨_, rfl, _, _, rfl, rfl, hm, D, _, _, i % 64, rfl, rfl, e3, (by rw [List.length_map]; exact ixNN hj), ?_⟩⟩
      refine ⟨_, _, _, rfl, same_putD hD s3, ?_, set_to⟩
      rw [List.length_set]
      exact l2
    rintro σ H2 ⟨x1, x3, cs, rfl, s2, l2, e2⟩
    refine ⟨1, 64, rfl, ⟨(by decide), (by decide), (by decide), (by decide)⟩, ?_⟩
    refine for_it (walk_range (lo := 1) (n := 63)) (fun i σ H' => ∃ (x1 x3 : Option V) (cs : List Int), σ = [some (.ref a), x1, some (.ref D), x3] ∧ Same H H' ∧ cs.length = 64 ∧ H' D = some (.lst (cs.map V.int)))
      ⟨x1, x3, cs, rfl, s2, l2, e2⟩ (fun _ _ _ _ _ => True.intro) ?_ ?_
    · rintro i x σ H3 H4 hi ⟨x1, x3, cs, rfl, s3, l3, e3⟩ ⟨rfl, hx⟩
      have hj : 1 + i < cs.length := by omega
      have hj0 : i < cs.length := by omega
      have e1i : (1 : Int) + (i : Int) = ((1 + i : Nat) : Int) := by omega
      obtain rfl : x = V.int ((1 + i : Nat) : Int) := hx.trans (congrArg V.int e1i)
      refine ⟨_, rfl, _, rfl, D, _, _, _, rfl, rfl, SqL.of e3, atI_nat (j := 1 + i) (ints_at hj), _, rfl, _, rfl, _, _, rfl, rfl, D, _, _, V.int cs[i], rfl, rfl, SqL.of e3, (by rw [show ((1 + i : Nat) : Int) - 1 = (i : Int) from by omega]; exact atI_nat (j := i) (ints_at hj0)), ?_⟩
      refine ⟨_, _, rfl, rfl, .inr (by omega), _, _, rfl, rfl, .inl ⟨_, rfl, _, _, rfl, rfl, (by show (0 : Int) < 2147483647; decide), ?_⟩⟩
      refine ⟨_, rfl, _, rfl, D, _, _, 1 + i, rfl, rfl, e3, (by rw [List.length_map]; exact ixNN hj), ?_⟩
      refine ⟨_, _, _, rfl, same_putD hD s3, ?_, set_to⟩
      rw [List.length_set]
      exact l3
    rintro σ H3 ⟨x1, x3, cs, rfl, s3, l3, e3⟩
    exact ⟨_, rfl, q _ D cs s3 hD e3 l3⟩
def spBegun (K : PySem.W.Frag) : Sp := fun vs H Q _ => ∃ (a : Addr) (ns : List Int), vs = [.ref a] ∧ SqL K H a (ns.map V.int) ∧ ns.length ≤ sizeLine ∧ ∀ H' m cl gl, Same H H' → MA H' m cl gl 0 → H m = none → H cl = none → H gl = none → Q (.ref m) H'
abbrev nBegun : List Str := ["_law_script", "_law_m", "_law_cell"]
theorem sc_begun : FnScope nBegun ["_law_script"] (defScope s_begun) := ⟨rfl, rfl, rfl, by decide +kernel, rfl, by decide +kernel, by decide +kernel⟩
theorem ok_begun (X : Tx mg) (cF : Ca CX0 P w K mg base 1 "_law_folded" ["_law_script"] (spFolded K)) (F : Fun K "_law_begun" "_law_begun" s_begun f fd0) : FnOk P w K mg base CX0 2 f fd0 ["_law_script"] (spBegun K) := by
  refine F.ok sc_begun (fun vs H Q E h => ?_) (fun cdv A outer s0 H vs Q E hr h => ?_)
  · obtain ⟨a, ns, rfl, _⟩ := h
    rfl
  · obtain ⟨a, ns, rfl, ha, hl, q⟩ := h
    have hr1 : Room 1 _ := hr.mono (by decide)
    have hu := hu_of hr
    have nd := sc_begun.nd
    refine ⟨_, pss_cons (ps_set (i := 1) nd rfl (Or.inl rfl) (pe_disp (pps_cons pe_str (pe_ca cF hr1 (by rfl) (pa_cons (pv 0) pa_nil)) (pps_cons pe_str (pe_lst pa_nil) (pps_cons pe_str pe_int pps_nil))) (by rfl) (by rfl) (fun z => by cases z) (by decide)))
      (pss_cons (ps_dput hu (pv 1) pe_str (pe_lc (own := [("_law_cell", 2)]) (g := gName 2) (tt := tYes) rfl nd (pi_list (pv 0)) (blkOk_by (N := nBegun) (sc := defScope s_begun) (by decide +kernel)) (fun _ _ _ _ _ => pg_name (i := 2) nd rfl (Or.inl rfl)) (fun _ _ _ _ _ => pts_nil)
        (fun _ _ _ _ _ => pe_ifExp (pt_cmpR op_ge (pv 2) (pe_op op_pow pe_int pe_int) (nomark _)) (pv 2) pe_int)) rfl)
      (pss_one (ps_ret (pv 1)))), ?_⟩
    intro m nm
    have s1 := same_upd (o := .dK []) nm
    have e1 : upd H m (.dK []) m = some (.dK []) := upd_same
    generalize upd H m (.dK []) = H1 at *
    refine ⟨_, rfl, a, ns, rfl, s1.seq ha, fun H2 cl cs s2 ncl e2 l2 => ⟨Nat.zero_le _, fun gl ngl => ?_⟩⟩
    have s3 := s2.upd (o := .lst []) ngl
    have e3 : upd H2 gl (.lst []) gl = some (.lst []) := upd_same
    have e2' := same_upd (o := .lst []) ngl _ _ e2
    have e1' := s3 _ _ e1
    have nglH1 : H1 gl = none := s2.free ngl
    generalize upd H2 gl (.lst []) = H3 at *
    refine ⟨e1', [(.inr qC, .ref cl), (.inr qG, .ref gl), (.inr qS, .int 0)], rfl, (by show 3 ≤ 15; decide), ?_⟩
    rw [mergeM]
    have s4 : Same H (upd H3 m (.dK (dsm (.ref cl) (.ref gl) (.int 0)))) := same_putD nm (s1.trans s3)
    have k4 : ∀ {b : Addr} {o : HO}, H3 b = some o → b ≠ m → upd H3 m (.dK (dsm (.ref cl) (.ref gl) (.int 0))) b = some o := fun {b o} e h => (upd_ne h).trans e
    have nclm : cl ≠ m := ne_of e2' e1' fun z => by cases z
    have e42 := k4 e2' nclm
    have e41 : upd H3 m (.dK (dsm (.ref cl) (.ref gl) (.int 0))) m = some (.dK (dsm (.ref cl) (.ref gl) (.int 0))) := upd_same
    generalize upd H3 m (.dK (dsm (.ref cl) (.ref gl) (.int 0))) = H4 at *
    refine ⟨_, rfl, a, rfl, ⟨_, s4.seq ha⟩, fun D hD => ?_⟩
    refine lc_it (walk_list (K := K) (a := a) (xs := ns.map V.int)) (fun i H' => Same H4 H' ∧ ∃ gs : List Int, gs.length = i ∧ H' D = some (.lst (gs.map V.int))) ⟨same_upd hD, [], rfl, upd_same⟩ (fun i H' _ q => (s4.trans q.1).seq ha) ?_ ?_
    · rintro i x H5 H6 hi ⟨s5, gs, l5, e5⟩ ⟨rfl, hx⟩
      obtain ⟨c, hc, rfl⟩ := map_at hx
      rw [List.length_map] at hi
      have fin : ∀ v : Int, ∃ acc, H6 D = some (.lst acc) ∧ acc.length < sizeLine ∧ (Same H4 (upd H6 D (.lst (acc ++ [.int v]))) ∧ ∃ gs : List Int, gs.length = i + 1 ∧ upd H6 D (.lst (acc ++ [.int v])) D = some (.lst (gs.map V.int))) := fun v =>
        ⟨_, e5, (by rw [List.length_map, l5]; omega), same_putD hD s5, gs ++ [v], by simp [l5], by rw [upd_same, List.map_append]; rfl⟩
      refine ⟨rfl, _, rfl, _, _, rfl, rfl, ⟨(by decide), (by decide), (by decide)⟩, _, _, rfl, rfl, _, rfl, ?_⟩
      refine itek (fun _ => ⟨_, rfl, fin _⟩) (fun _ => fin _)
    rintro H5 ⟨s5, gs, l5, e5⟩
    have e51 := s5 _ _ e41
    have dp := DPut.k (k := .inr qG) (v := .ref D) e51 (by show 3 < sizeLine; decide)
    rw [dm_pg] at dp
    refine ⟨_, rfl, m, _, rfl, dp, _, rfl, ?_⟩
    have e52 := s5 _ _ e42
    refine q _ m cl D (same_putD nm (s4.trans s5)) ⟨⟨cs, gs, 0, upd_same, (upd_ne nclm).trans e52, l2, (upd_ne (ne_of e5 e51 fun z => by cases z)).trans e5, Int.le_refl _, Int.le_refl _⟩, ?_⟩ nm (s1.free ncl) (s4.free hD)
    intro z
    rw [z, hD] at e42
    cases e42
end
end KD27
end L2
set_option Elab.async false
set_option linter.all false
set_option maxRecDepth 100000
set_option maxHeartbeats 4000000
/-! k92: a drawn tree is a tree -/
namespace L2
namespace KD28
open PySem PySem.Spec PyProof.Rows LamX NdefX KB KN KH KL KR KM KX KD1 KD2 KD3 KD4 KD5 KD6 KD7 KMa KD8 KD9 KD10 KD11 KD12 KD13 KD14 KD15 KMb KD16 KMc KD18 KD19 KD20 KD21 KD22 KD23 KD24 KD25 KMd KD26 KD27
abbrev abc : List Str := ["a", "b", "c"]
abbrev Lot := List (Str × Node)
/-- what _law_folder draws -/
def DrawnN : Nat → Node → Prop
  | 0, n => ∃ k : Int, n = .file k ∧ 0 ≤ k ∧ k < 4
  | d + 1, n => (∃ k : Int, n = .file k ∧ 0 ≤ k ∧ k < 4) ∨ ∃ l : Lot, n = .folder (Ents.ofList l) ∧ (l.map (·.1)).Sublist abc ∧ ∀ e ∈ l, DrawnN d e.2
def DrawnL (d : Nat) (l : Lot) : Prop := (l.map (·.1)).Sublist abc ∧ ∀ e ∈ l, DrawnN d e.2
theorem drawn_file {d : Nat} {k : Int} (h0 : 0 ≤ k) (h1 : k < 4) : DrawnN d (.file k) := by
  cases d with
  | zero => exact ⟨k, rfl, h0, h1⟩
  | succ d => exact .inl ⟨k, rfl, h0, h1⟩
theorem abc_rise {xs : List Str} (h : xs.Sublist abc) : risingB ltStr xs = true := by
  have key : ∀ ys ∈ ([[], ["c"], ["b"], ["b", "c"], ["a"], ["a", "c"], ["a", "b"], ["a", "b", "c"]] : List (List Str)), risingB ltStr ys = true := by decide +kernel
  refine key xs ?_
  rcases h with _ | ⟨_, h⟩ | ⟨_, h⟩
  · rcases h with _ | ⟨_, h⟩ | ⟨_, h⟩
    · rcases h with _ | ⟨_, h⟩ | ⟨_, h⟩
      · cases h; simp
      · cases h; simp
    · rcases h with _ | ⟨_, h⟩ | ⟨_, h⟩
      · cases h; simp
      · cases h; simp
  · rcases h with _ | ⟨_, h⟩ | ⟨_, h⟩
    · rcases h with _ | ⟨_, h⟩ | ⟨_, h⟩
      · cases h; simp
      · cases h; simp
    · rcases h with _ | ⟨_, h⟩ | ⟨_, h⟩
      · cases h; simp
      · cases h; simp
theorem abc_word : ∀ x ∈ abc, x.length = 1 ∧ isWordB x = true := by decide +kernel
theorem drawn_name {d : Nat} {l : Lot} (h : DrawnL d l) {e : Str × Node} (he : e ∈ l) : e.1.length = 1 ∧ isWordB e.1 = true := abc_word _ (h.1.subset (List.mem_map.mpr ⟨e, he, rfl⟩))
theorem num4 {k : Int} (h0 : 0 ≤ k) (h1 : k < 4) : isNumberB k = true := by
  unfold isNumberB
  rw [decide_eq_true h0, decide_eq_true (show k ≤ 99 by omega)]
  rfl
theorem four {k : Int} (h0 : 0 ≤ k) (h1 : k < 4) : k = 0 ∨ k = 1 ∨ k = 2 ∨ k = 3 := by omega
theorem drawn_is : ∀ {d j : Nat} {n : Node}, DrawnN d n → d ≤ j → isNodeB j n = true
  | 0, j, n, ⟨k, e, h0, h1⟩, _ => by
    subst e
    cases j <;> exact num4 h0 h1
  | d + 1, 0, n, _, h => by omega
  | d + 1, j + 1, n, h, hj => by
    rcases h with ⟨k, rfl, h0, h1⟩ | ⟨l, rfl, hs, ha⟩
    · exact num4 h0 h1
    · show (((Ents.ofList l).toList.all fun e => isWordB e.1 && isNodeB j e.2) && risingB ltStr ((Ents.ofList l).toList.map (·.1))) = true
      rw [toList_ofList, abc_rise hs, Bool.and_true]
      refine List.all_eq_true.mpr fun e he => ?_
      rw [(drawn_name (d := d) ⟨hs, ha⟩ he).2, drawn_is (ha e he) (by omega)]
      rfl
theorem smallE_of : ∀ {l : Lot}, (∀ e ∈ l, (e.1.length = 1 ∧ isWordB e.1 = true) ∧ Small e.2) → SmallE (Ents.ofList l)
  | [], _ => True.intro
  | (x, n) :: r, h => ⟨(h _ List.mem_cons_self).1, (h _ List.mem_cons_self).2, smallE_of fun e he => h e (List.mem_cons_of_mem _ he)⟩
theorem drawn_small : ∀ {d : Nat} {n : Node}, DrawnN d n → Small n
  | 0, n, ⟨k, e, h0, h1⟩ => by
    subst e
    exact four h0 h1
  | d + 1, n, h => by
    rcases h with ⟨k, rfl, h0, h1⟩ | ⟨l, rfl, hs, ha⟩
    · exact four h0 h1
    · exact smallE_of fun e he => ⟨drawn_name (d := d) ⟨hs, ha⟩ he, drawn_small (ha e he)⟩
theorem lot_len {d : Nat} {l : Lot} (h : DrawnL d l) : l.length ≤ 3 := by
  have := h.1.length_le
  rw [List.length_map] at this
  exact this
theorem drawn_sane : ∀ {d : Nat} {n : Node}, DrawnN d n → Sane n
  | 0, n, ⟨k, e, h0, h1⟩ => by
    subst e
    exact True.intro
  | d + 1, n, h => by
    rcases h with ⟨k, rfl, h0, h1⟩ | ⟨l, rfl, hs, ha⟩
    · exact True.intro
    · refine ⟨?_, saneE_of fun e he => ⟨big16 (k := 1) (Nat.le_of_eq (drawn_name (d := d) ⟨hs, ha⟩ he).1) (by decide), drawn_sane (ha e he)⟩⟩
      rw [toList_ofList]
      exact big8 (by have := lot_len (d := d) ⟨hs, ha⟩; omega)
theorem drawn_depth : ∀ {d : Nat} {n : Node}, DrawnN d n → n.depth ≤ d
  | 0, n, ⟨k, e, _⟩ => by
    subst e
    exact Nat.le_refl _
  | d + 1, n, h => by
    rcases h with ⟨k, rfl, _⟩ | ⟨l, rfl, hs, ha⟩
    · exact Nat.zero_le _
    · refine Nat.succ_le_succ (depth_ents fun e he => ?_)
      rw [toList_ofList] at he
      exact drawn_depth (ha e he)
theorem drawn_nums : ∀ {d : Nat} {n : Node}, DrawnN d n → ∀ k ∈ n.numbers, 0 ≤ k ∧ k < 4
  | 0, n, ⟨k, e, h0, h1⟩, m, hm => by
    subst e
    rw [List.mem_singleton.mp hm]
    exact ⟨h0, h1⟩
  | d + 1, n, h, m, hm => by
    rcases h with ⟨k, rfl, h0, h1⟩ | ⟨l, rfl, hs, ha⟩
    · rw [List.mem_singleton.mp hm]
      exact ⟨h0, h1⟩
    · have hm2 : m ∈ (Ents.ofList l).numbers := hm
      rw [nums_eq, toList_ofList] at hm2
      obtain ⟨e, he, hme⟩ := List.mem_flatMap.mp hm2
      exact drawn_nums (ha e he) m hme
theorem rising_sorted : ∀ {l : List Int}, l.Pairwise (· < ·) → risingB ltInt l = true
  | [], _ => rfl
  | [a], _ => rfl
  | a :: b :: r, h => by
    obtain ⟨h1, h2⟩ := List.pairwise_cons.mp h
    show (ltInt a b && risingB ltInt (b :: r)) = true
    rw [rising_sorted h2]
    unfold ltInt
    rw [decide_eq_true (h1 b List.mem_cons_self)]
    rfl
theorem sorted_len : ∀ {l : List Int} {a : Int}, l.Pairwise (· < ·) → (∀ k ∈ l, a ≤ k ∧ k < 4) → a ≤ 4 → (l.length : Int) ≤ 4 - a
  | [], a, _, _, h => by
    show (0 : Int) ≤ 4 - a
    omega
  | b :: r, a, h, hk, ha => by
    obtain ⟨h1, h2⟩ := List.pairwise_cons.mp h
    have hb := hk b List.mem_cons_self
    have ih := sorted_len (a := b + 1) h2 (fun k hkr => ⟨by have := h1 k hkr; omega, (hk k (List.mem_cons_of_mem _ hkr)).2⟩) (by omega)
    rw [List.length_cons]
    omega
/-- a drawn tree is a tree -/
theorem drawn_tree {l : Lot} {ps : KN.Pairs} (h : DrawnL 2 l) (hc : (Ents.ofList l).count ≤ 10) (h1 : ps.map (·.1) = sortSet (Node.folder (Ents.ofList l)).numbers) (h2 : ∀ p ∈ ps, p.2 = "x" ∨ p.2 = "y" ∨ p.2 = "word") :
    isTreeB (.folder (Ents.ofList l)) ps = true ∧ SmallP ps ∧ Sane (.folder (Ents.ofList l)) ∧ SmallE (Ents.ofList l) := by
  have hn : DrawnN 3 (.folder (Ents.ofList l)) := .inr ⟨l, rfl, h.1, h.2⟩
  have hnum := drawn_nums hn
  have hp : ∀ p ∈ ps, 0 ≤ p.1 ∧ p.1 < 4 := fun p hp => hnum _ (mem_sortSet.mp (by rw [← h1]; exact List.mem_map.mpr ⟨p, hp, rfl⟩))
  have hw : ∀ p ∈ ps, isWordB p.2 = true ∧ p.2.length ≤ 8 := fun p hp => by
    rcases h2 p hp with e | e | e <;> rw [e] <;> decide +kernel
  refine ⟨?_, ⟨?_, fun p hpp => ⟨four (hp p hpp).1 (hp p hpp).2, (hw p hpp).2⟩⟩, drawn_sane hn, drawn_small hn⟩
  · unfold isTreeB
    have c1 : (ps.all fun p => isNumberB p.1 && isWordB p.2) = true := List.all_eq_true.mpr fun p hpp => by
      rw [num4 (hp p hpp).1 (hp p hpp).2, (hw p hpp).1]
      rfl
    rw [drawn_is hn (by decide), c1, h1, rising_sorted (sort_sortSet _), decide_eq_true (show (Node.folder (Ents.ofList l)).count ≤ 60 from Nat.le_trans hc (by decide)), decide_eq_true rfl]
    rfl
  · have := sorted_len (l := sortSet (Node.folder (Ents.ofList l)).numbers) (a := 0) (sort_sortSet _) (fun k hk => hnum k (mem_sortSet.mp hk)) (by decide)
    rw [← h1, List.length_map] at this
    omega
end KD28
end L2
set_option Elab.async false
set_option linter.all false
set_option maxRecDepth 100000
set_option maxHeartbeats 4000000
/-! k92: _law_numbers, _law_folder -/
namespace L2
namespace KD29
open PySem PySem.Spec PyProof.Rows LamX NdefX KB KN KH KL KR KM KX KD1 KD2 KD3 KD4 KD5 KD6 KD7 KMa KD8 KD9 KD10 KD11 KD12 KD13 KD14 KD15 KMb KD16 KMc KD18 KD19 KD20 KD21 KD22 KD23 KD24 KD25 KMd KD26 KD27 KD28
abbrev s_lfolder : Stmt := top 54
abbrev s_lnumbers : Stmt := top 55
abbrev s_ltree : Stmt := top 56
section
variable {P : Program} {w : World} {K : PySem.W.Frag} {mg : Str → Option Value} {base : Heap} {f : Addr} {fd0 : FuncData} {k D : Nat}
def spLNumbers (D : Nat) : Sp := fun vs H Q _ => ∃ (v : V) (n : Node), vs = [v] ∧ n.depth < D ∧ NodeAt H v n ∧ n.numbers.length < sizeLine ∧ ∀ H' p, Same H H' → H' p = some (.lst (n.numbers.map V.int)) → Q (.ref p) H'
abbrev nLNums : List Str := ["_law_node", "_law_found", "_law_name", "_law_inner"]
theorem sc_lnumbers : FnScope nLNums ["_law_node"] (defScope s_lnumbers) := ⟨rfl, rfl, rfl, by decide +kernel, rfl, by decide +kernel, by decide +kernel⟩
theorem ok_lnumbers_step (X : Tx mg) (cN : Ca CX0 P w K mg base k "_law_numbers" ["_law_node"] (spLNumbers D)) (F : Fun K "_law_numbers" "_law_numbers" s_lnumbers f fd0) : FnOk P w K mg base CX0 (k + 1) f fd0 ["_law_node"] (spLNumbers (D + 1)) := by
  refine F.ok sc_lnumbers (fun vs H Q E h => ?_) (fun cdv A outer s H vs Q E hr h => ?_)
  · obtain ⟨v, n, rfl, _⟩ := h
    rfl
  · obtain ⟨v, n, rfl, hd, hn, hl, q⟩ := h
    have nd := sc_lnumbers.nd
    refine ⟨_, pss_cons (ps_if (pt_cmpR op_eq (pe_ix ix_tup (pv 0) pe_int (fun _ _ => rfl)) pe_str (nomark _)) (pss_one (ps_ret (pe_lst (pa_cons (pe_ix ix_tup (pv 0) pe_int (fun _ _ => rfl)) pa_nil)))) pss_nil)
      (pss_cons (ps_set (i := 1) nd rfl (Or.inl rfl) (pe_lst pa_nil))
      (pss_cons (ps_for PassesOwn.never rfl (pi_tup (pe_ix ix_tup (pv 0) pe_int (fun _ _ => rfl))) (pg_tup rfl (pgs_cons (pg_name (i := 2) nd rfl (Or.inl rfl)) (pgs_cons (pg_name (i := 3) nd rfl (Or.inl rfl)) pgs_nil)))
        (pss_one (ps_set (i := 1) nd rfl (Or.inl rfl) (pe_op op_cat (pv 1) (pe_ca cN hr (by rfl) (pa_cons (pv 3) pa_nil))))))
      (pss_one (ps_ret (pv 1))))), ?_⟩
    cases hn with
    | @file a m ha =>
      have s0 := SqT.of (K := K) ha
      refine ⟨_, rfl, a, _, _, _, rfl, rfl, s0, at0, rfl, _, rfl, ?_⟩
      refine (if_pos str_eq).mpr ?_
      refine ⟨_, rfl, a, _, _, _, rfl, rfl, s0, at1, (by show 1 ≤ sizeLine; decide), fun p np => ?_⟩
      exact q _ p (same_upd np) upd_same
    | @folder a b items es ha hb he =>
      have s0 := SqT.of (K := K) ha
      refine ⟨_, rfl, a, _, _, _, rfl, rfl, s0, at0, rfl, _, rfl, ?_⟩
      refine (if_neg (by rw [str_ne fold_ne]; exact Bool.false_ne_true)).mpr ?_
      have hl' : (numsL es.toList).length < sizeLine := by
        rw [← nums_eq]
        exact hl
      refine ⟨Nat.zero_le _, fun lp nlp => ?_⟩
      have s1 := same_upd (o := .lst []) nlp
      refine ⟨_, rfl, a, _, _, _, rfl, rfl, SqT.of (s1 _ _ ha), at1, b, rfl, ⟨_, SqT.of (s1 _ _ hb)⟩, ?_⟩
      refine for_it (walk_tup (K := K) (a := b) (xs := items)) (fun i σ H' => ∃ (x2 x3 : Option V) (p : Addr), σ = [some (.ref a), some (.ref p), x2, x3] ∧ Same H H' ∧ H' p = some (.lst ((numsL (es.toList.take i)).map V.int)))
        ⟨none, none, lp, rfl, s1, upd_same⟩ (fun i σ H' _ ⟨_, _, _, _, s, _⟩ => s.tup (SqT.of hb)) ?_ ?_
      · rintro i x σ H2 H3 hi ⟨x2, x3, p, rfl, s2, e2⟩ ⟨rfl, hx⟩
        obtain ⟨t, y, u, n, rfl, hm, ht, hnn⟩ := he.at_ hx
        have mem := List.mem_of_getElem? hm
        refine ⟨t, _, rfl, SqT.of (s2 _ _ ht), rfl, _, _, rfl, _, _, rfl, rfl, ?_⟩
        refine ⟨_, rfl, _, rfl, u, n, rfl, ?_, hnn.keep (tupK_same s2), Nat.lt_of_le_of_lt (numsL_mem mem) hl', fun H4 p4 s4 e4 => ?_⟩
        · have h1 := depth_mem mem
          have h2 : es.depth + 1 < D + 1 := hd
          show n.depth < D
          exact Nat.lt_of_le_of_lt h1 (by omega)
        refine ⟨p, p4, _, _, rfl, rfl, s4 _ _ e2, e4, ?_, fun p5 np5 => ⟨_, _, p5, rfl, (s2.trans s4).upd np5, ?_⟩⟩
        · rw [List.length_map, List.length_map]
          have h1 := numsL_le es.toList (i + 1)
          rw [numsL_more hm, List.length_append] at h1
          replace h1 : (numsL (es.toList.take i)).length + n.numbers.length ≤ (numsL es.toList).length := h1
          omega
        · rw [upd_same, numsL_more hm, List.map_append]
      · rintro σ H2 ⟨x2, x3, p, rfl, s2, e2⟩
        refine ⟨_, rfl, q _ p s2 ?_⟩
        rw [e2, he.len, List.take_length]
        show some (HO.lst ((numsL es.toList).map V.int)) = some (HO.lst (es.numbers.map V.int))
        rw [nums_eq]
theorem ok_lnumbers (X : Tx mg) (F : Fun K "_law_numbers" "_law_numbers" s_lnumbers f fd0) (m : mg "_law_numbers" = some (.ref f)) (b : Binds K fd0 ["_law_node"] []) : ∀ D, FnOk P w K mg base CX0 (D + 1) f fd0 ["_law_node"] (spLNumbers D)
  | 0 => ⟨fun vs H Q E h => by
      obtain ⟨v, n, _, hd, _⟩ := h
      exact absurd hd (Nat.not_lt_zero _), fun A outer s H args us vs Q E _ _ _ _ h => by
      obtain ⟨v, n, _, hd, _⟩ := h
      exact absurd hd (Nat.not_lt_zero _)⟩
  | D + 1 => ok_lnumbers_step X ⟨f, fd0, ok_lnumbers X F m b D, m, F.kp, b⟩ F
end
end KD29
end L2
set_option Elab.async false
set_option linter.all false
set_option maxRecDepth 100000
set_option maxHeartbeats 4000000
/-! k92: _law_folder -/
namespace L2
namespace KD30
open PySem PySem.Spec PyProof.Rows LamX NdefX KB KN KH KL KR KM KX KD1 KD2 KD3 KD4 KD5 KD6 KD7 KMa KD8 KD9 KD10 KD11 KD12 KD13 KD14 KD15 KMb KD16 KMc KD18 KD19 KD20 KD21 KD22 KD23 KD24 KD25 KMd KD26 KD27 KD28 KD29
/-- how many draws a folder takes at most -/
def W : Nat → Nat
  | 0 => 6
  | d + 1 => 3 * (2 + W d)
def cW : Nat → Nat
  | 0 => 2
  | d + 1 => 2 + W d
theorem W_eq (d : Nat) : W d = 3 * cW d := by cases d <;> rfl
theorem cW_2 (d : Nat) : 2 ≤ cW d := by
  cases d with
  | zero => exact Nat.le_refl _
  | succ d => exact Nat.le_add_right _ _
theorem tupK_bt {F : List Addr} {H H' : Hp} (B : Bt F H H') (h : ∀ b ∈ F, ∀ xs, H b ≠ some (.tup xs)) : TupK H H' := fun b xs e => B b _ e fun z => h b z xs e
theorem count_snoc (l : Lot) (e : Str × Node) : (Ents.ofList (l ++ [e])).count = (Ents.ofList l).count + (1 + e.2.count) := by
  induction l with
  | nil =>
    show (1 + e.2.count) + 0 = 0 + (1 + e.2.count)
    omega
  | cons a r ih =>
    show (1 + a.2.count) + (Ents.ofList (r ++ [e])).count = ((1 + a.2.count) + (Ents.ofList r).count) + (1 + e.2.count)
    rw [ih]
    omega
theorem sub_snoc {l : Lot} {i : Nat} {x : Str} {n : Node} (h : (l.map (·.1)).Sublist (abc.take i)) (hx : abc[i]? = some x) : ((l ++ [(x, n)]).map (·.1)).Sublist (abc.take (i + 1)) := by
  rw [take_more hx, List.map_append]
  exact h.append (List.Sublist.refl _)
theorem sub_skip {l : Lot} {i : Nat} {x : Str} (h : (l.map (·.1)).Sublist (abc.take i)) (hx : abc[i]? = some x) : (l.map (·.1)).Sublist (abc.take (i + 1)) := by
  rw [take_more hx]
  exact h.trans (List.sublist_append_left _ _)
section
variable {P : Program} {w : World} {K : PySem.W.Frag} {mg : Str → Option Value} {base : Heap} {f : Addr} {fd0 : FuncData} {k D : Nat}
def spLFolder (D : Nat) : Sp := fun vs H Q _ => ∃ (m cl gl mo : Addr) (d : Nat) (k0 : Int) (S : Nat), vs = [.ref m, .int (d : Nat), .ref mo] ∧ d < D ∧ MA H m cl gl S ∧ S + W d < 800000 ∧ H mo = some (.lst [.int k0]) ∧ 0 ≤ k0 ∧ mo ≠ gl ∧ mo ≠ cl ∧
  ∀ H' v (l : Lot) (k' : Int), MA H' m cl gl (S + W d) → NodeAt H' v (.folder (Ents.ofList l)) → DrawnL d l → 0 ≤ k' → ((Ents.ofList l).count : Int) + k' ≤ k0 → H' mo = some (.lst [.int k']) → Bt [m, gl, mo] H H' → Q v H'
abbrev nLFold : List Str := ["_law_m", "_law_deep", "_law_most", "_law_found", "_law_name", "_law_way", "_law_inner"]
theorem sc_lfolder : FnScope nLFold ["_law_m", "_law_deep", "_law_most"] (defScope s_lfolder) := ⟨rfl, rfl, rfl, by decide +kernel, rfl, by decide +kernel, by decide +kernel⟩
/-- after i names -/
def FI (H : Hp) (m cl gl mo lp t0 : Addr) (d : Nat) (k0 : Int) (S i : Nat) (σ : L2.St) (H' : Hp) : Prop := ∃ (x4 x5 x6 : Option V) (us : List V) (l : Lot) (k' : Int), σ = [some (.ref m), some (.int (d : Nat)), some (.ref mo), some (.ref lp), x4, x5, x6] ∧
  MA H' m cl gl (S + i * cW d) ∧ H' mo = some (.lst [.int k']) ∧ 0 ≤ k' ∧ H' lp = some (.lst us) ∧ EntsAt H' us (Ents.ofList l) ∧ (l.map (·.1)).Sublist (abc.take i) ∧ (∀ e ∈ l, DrawnN d e.2) ∧ ((Ents.ofList l).count : Int) + k' ≤ k0 ∧ Bt [m, gl, mo] H H' ∧ H' t0 = some (.tup (abc.map V.str)) ∧ us.length ≤ i
theorem ma_tk {H H' : Hp} {m cl gl mo : Addr} {S : Nat} {x : V} (h : MA H m cl gl S) (e : H mo = some (.lst [x])) (B : Bt [m, gl, mo] H H') : TupK H H' := by
  obtain ⟨cs, gs, n, e1, e2, e3, e4, _⟩ := h.ex
  refine tupK_bt B fun b hb xs z => ?_
  rcases List.mem_cons.mp hb with rfl | hb
  · rw [e1] at z
    cases z
  · rcases List.mem_cons.mp hb with rfl | hb
    · rw [e4] at z
      cases z
    · rw [List.mem_singleton.mp hb, e] at z
      cases z
theorem bt_wide {F G : List Addr} {H H' : Hp} (B : Bt F H H') (h : ∀ x ∈ F, x ∈ G) : Bt G H H' := fun b o e hb => B b o e fun z => hb (h b z)
theorem fi_put {H H7 : Hp} {m cl gl mo lp t0 : Addr} {d : Nat} {k0 k7 : Int} {S i : Nat} {us : List V} {l : Lot} {name : Str} {v : V} {n : Node} {x5 : Option V} (nlp : H lp = none) (nm : lp ≠ m) (nc : lp ≠ cl) (ng : lp ≠ gl) (no : lp ≠ mo)
    (hx : abc[i]? = some name) (M7 : MA H7 m cl gl (S + (i + 1) * cW d)) (emo : H7 mo = some (.lst [.int k7])) (k70 : 0 ≤ k7) (hc : ((Ents.ofList l).count : Int) + (1 + n.count) + k7 ≤ k0) (elp : H7 lp = some (.lst us)) (hes : EntsAt H7 us (Ents.ofList l)) (hs : (l.map (·.1)).Sublist (abc.take i)) (hd : ∀ e ∈ l, DrawnN d e.2) (hn : DrawnN d n) (hv : NodeAt H7 v n)
    (B : Bt [m, gl, mo] H H7) (et : H7 t0 = some (.tup (abc.map V.str))) (hl : us.length ≤ i) (hi : i < 3) : ∀ t8, H7 t8 = none → ∃ (p : Addr) (a : List V) (y : V), V.ref lp = .ref p ∧ [V.ref t8] = [y] ∧ upd H7 t8 (.tup [.str name, v]) p = some (.lst a) ∧ a.length < sizeLine ∧
      FI H m cl gl mo lp t0 d k0 S (i + 1) [some (.ref m), some (.int (d : Nat)), some (.ref mo), some (.ref lp), some (.str name), x5, some v] (upd (upd H7 t8 (.tup [.str name, v])) p (.lst (a ++ [y]))) := fun t8 nt8 => by
  have s8 := same_upd (o := .tup [.str name, v]) nt8
  have e8 := s8 _ _ elp
  have tk : TupK (upd H7 t8 (.tup [.str name, v])) (upd (upd H7 t8 (.tup [.str name, v])) lp (.lst (us ++ [.ref t8]))) := fun b xs e => (upd_ne (ne_of e e8 fun z => by cases z)).trans e
  refine ⟨lp, us, .ref t8, rfl, rfl, e8, big8 (by omega), some (.str name), x5, some v, us ++ [.ref t8], l ++ [(name, n)], k7, rfl, ?_, (upd_ne (Ne.symm no)).trans (s8 _ _ emo), k70, upd_same, ?_, sub_snoc hs hx, ?_, ?_, ?_, tk _ _ (s8 _ _ et), ?_⟩
  · refine (M7.same s8).keep fun b o hb e => (upd_ne ?_).trans e
    rcases hb with rfl | rfl | rfl
    · exact Ne.symm nm
    · exact Ne.symm nc
    · exact Ne.symm ng
  · exact EntsAt.snoc (tk _ _ upd_same) (hv.keep ((tupK_same s8).trans tk)) (hes.keep ((tupK_same s8).trans tk))
  · intro e he
    rcases List.mem_append.mp he with he | he
    · exact hd e he
    · rw [List.mem_singleton.mp he]
      exact hn
  · rw [count_snoc]
    show (((Ents.ofList l).count + (1 + n.count) : Nat) : Int) + k7 ≤ k0
    omega
  · intro b o e hb
    have hb2 : b ≠ lp := fun z => by
      rw [z, nlp] at e
      cases e
    exact (upd_ne hb2).trans (s8 _ _ (B b o e hb))
  · rw [List.length_append]
    show us.length + 1 ≤ i + 1
    omega
theorem ok_lfolder_step (X : Tx mg) (hk : 2 ≤ k) (cD : Ca CX0 P w K mg base 2 "_law_draw" ["_law_m", "_law_limit"] spDraw) (cF : Ca CX0 P w K mg base k "_law_folder" ["_law_m", "_law_deep", "_law_most"] (spLFolder D)) (F : Fun K "_law_folder" "_law_folder" s_lfolder f fd0) :
    FnOk P w K mg base CX0 (k + 1) f fd0 ["_law_m", "_law_deep", "_law_most"] (spLFolder (D + 1)) := by
  refine F.ok sc_lfolder (fun vs H Q E h => ?_) (fun cdv A outer s H vs Q E hr h => ?_)
  · obtain ⟨m, cl, gl, mo, d, k0, S, rfl, _⟩ := h
    rfl
  · obtain ⟨m, cl, gl, mo, d, k0, S, rfl, hd, hm, hS, hmo, hk0, ngl, ncl, q⟩ := h
    have hr2 : Room 2 _ := hr.mono hk
    have nd := sc_lfolder.nd
    refine ⟨_, pss_cons (ps_set (i := 3) nd rfl (Or.inl rfl) (pe_lst pa_nil))
      (pss_cons (ps_for PassesOwn.never rfl (pi_tup (pe_tup (pa_cons pe_str (pa_cons pe_str (pa_cons pe_str pa_nil))))) (pg_name (i := 4) nd rfl (Or.inl rfl))
        (pss_cons (ps_set (i := 5) nd rfl (Or.inl rfl) (pe_ca cD hr2 (by rfl) (pa_cons (pv 0) (pa_cons pe_int pa_nil))))
        (pss_one (ps_if (PW.pt (pw_and (pt_cmpR op_lt (pv 5) pe_int (nomark _)) (pw_and1 (pt_cmpR op_gt (pe_ix ix_list (pv 2) pe_int (fun _ _ => rfl)) pe_int (nomark _)))))
          (pss_cons (ps_asg (pe_op op_sub (pe_ix ix_list (pv 2) pe_int (fun _ _ => rfl)) pe_int) (pg_sub (pv 2) pe_int set_list))
          (pss_cons (ps_set (i := 6) nd rfl (Or.inl rfl) (pe_tup (pa_cons pe_str (pa_cons (pe_ca cD hr2 (by rfl) (pa_cons (pv 0) (pa_cons pe_int pa_nil))) pa_nil))))
          (pss_cons (ps_if (PW.pt (pw_and (pt_cmpR op_gt (pv 5) pe_int (nomark _)) (pw_and1 (pt_cmpR op_gt (pv 1) pe_int (nomark _)))))
            (pss_one (ps_set (i := 6) nd rfl (Or.inl rfl) (pe_ca cF hr (by rfl) (pa_cons (pv 0) (pa_cons (pe_op op_sub (pv 1) pe_int) (pa_cons (pv 2) pa_nil)))))) pss_nil)
          (pss_one (ps_expr (pe_bm PySem.F.plainAttrs_list PySem.F.slot_list_append PySem.F.type_list_append mt_append (pv 3) (pa_cons (pe_tup (pa_cons (pv 4) (pa_cons (pv 6) pa_nil))) pa_nil))))))) pss_nil))))
      (pss_one (ps_ret (pe_tup (pa_cons pe_str (pa_cons (pe_callTy call_tuple_of (by rfl) (X.b "tuple") (by decide +kernel) (pa_cons (pv 3) pa_nil)) pa_nil)))))), ?_⟩
    obtain ⟨cs0, gs0, n0, em, ec, _, eg, _⟩ := hm.ex
    refine ⟨Nat.zero_le _, fun lp nlp => ?_⟩
    have nm : lp ≠ m := (ne_of_none em nlp).symm
    have nc : lp ≠ cl := (ne_of_none ec nlp).symm
    have ng : lp ≠ gl := (ne_of_none eg nlp).symm
    have no : lp ≠ mo := (ne_of_none hmo nlp).symm
    have nmm : mo ≠ m := ne_of hmo em fun z => by cases z
    have s1 := same_upd (o := .lst []) nlp
    refine ⟨(by show 3 ≤ sizeLine; decide), fun t0 nt0 => ⟨t0, rfl, ⟨_, SqT.of upd_same⟩, ?_⟩⟩
    have s2 := same_upd (o := .tup [.str "a", .str "b", .str "c"]) nt0
    refine for_it (walk_tup (K := K) (a := t0) (xs := abc.map V.str)) (FI H m cl gl mo lp t0 d k0 S) ?_ (fun i σ H' _ ⟨_, _, _, _, _, _, _, _, _, _, _, _, _, _, _, _, e, _⟩ => SqT.of e) ?_ ?_
    · refine ⟨none, none, none, [], [], k0, rfl, ?_, s2 _ _ (s1 _ _ hmo), hk0, s2 _ _ upd_same, .nil, List.Sublist.refl _, (fun e he => by cases he), ?_, fun b o e _ => s2 _ _ (s1 _ _ e), upd_same, Nat.le_refl _⟩
      · rw [Nat.zero_mul]
        exact (hm.same s1).same s2
      · show ((0 : Nat) : Int) + k0 ≤ k0
        omega
    · rintro i x σ H2x H2 hi ⟨x4, x5, x6, us, l, k', rfl, M2, emo, k'0, elp, hes, hs, hdr, hcn, B, et, hl⟩ ⟨rfl, hx⟩
      obtain ⟨name, hname, rfl⟩ := map_at hx
      have hi3 : i < 3 := hi
      have c2 := cW_2 d
      have hbound : S + i * cW d + cW d ≤ S + W d := by
        rw [W_eq]
        have : i * cW d + cW d = (i + 1) * cW d := by rw [Nat.add_mul, Nat.one_mul]
        have h3 : (i + 1) * cW d ≤ 3 * cW d := Nat.mul_le_mul_right _ (by omega)
        omega
      have hnext : S + (i + 1) * cW d = S + i * cW d + cW d := by rw [Nat.add_mul, Nat.one_mul, Nat.add_assoc]
      refine ⟨_, rfl, m, cl, gl, 7, _, rfl, M2, by omega, by decide, by decide, fun r H3 r0 r7 M3 B3 => ?_⟩
      have k3 : ∀ {b : Addr} {o : HO}, H2 b = some o → b ≠ m → b ≠ gl → H3 b = some o := fun {b o} e h1 h2 => B3 b o e fun z => by
        rcases List.mem_cons.mp z with z | z
        · exact h1 z
        · exact h2 (List.mem_singleton.mp z)
      have tk3 : TupK H2 H3 := ma_tk M2 emo (bt_wide B3 fun x hx => by
        rcases List.mem_cons.mp hx with rfl | hx
        · exact List.mem_cons_self
        · exact List.mem_cons_of_mem _ (by rw [List.mem_singleton.mp hx]; exact List.mem_cons_self))
      have emo3 := k3 emo nmm ngl
      have elp3 := k3 elp nm ng
      have hes3 := hes.keep tk3
      have et3 := tk3 _ _ et
      have memT : ∀ x ∈ [m, gl], x ∈ [m, gl, mo] := fun x hx => by
        rcases List.mem_cons.mp hx with rfl | hx
        · exact List.mem_cons_self
        · exact List.mem_cons_of_mem _ (by rw [List.mem_singleton.mp hx]; exact List.mem_cons_self)
      have BH3 : Bt [m, gl, mo] H H3 := fun b o e hb => B3 b o (B b o e hb) fun z => hb (memT b z)
      -- the name is left out
      have skip : ∀ x6' : Option V, FI H m cl gl mo lp t0 d k0 S (i + 1) [some (.ref m), some (.int (d : Nat)), some (.ref mo), some (.ref lp), some (.str name), some (.int r), x6'] H3 := fun x6' =>
        ⟨_, _, _, us, l, k', rfl, M3.le (by omega), emo3, k'0, elp3, hes3, sub_skip hs hname, hdr, hcn, BH3, et3, by omega⟩
      refine ⟨_, rfl, _, _, rfl, rfl, _, rfl, ?_⟩
      refine itek (fun _ => ?_) (fun _ => iteF (skip x6))
      refine ⟨_, rfl, mo, _, _, _, rfl, rfl, SqL.of emo3, at0, _, _, rfl, rfl, _, rfl, ?_⟩
      refine ited (fun hk1 => ?_) (fun _ => skip x6)
      have hk1' : 0 < k' := hk1
      refine ⟨_, rfl, mo, _, _, _, rfl, rfl, SqL.of emo3, at0, _, _, rfl, rfl, _, rfl, mo, _, _, 0, rfl, rfl, emo3, ixNN (n := 1) (j := 0) (by decide), ?_⟩
      have emo4 : upd H3 mo (.lst [.int (k' - 1)]) mo = some (.lst [.int (k' - 1)]) := upd_same
      have k4 : ∀ {b : Addr} {o : HO}, H3 b = some o → b ≠ mo → upd H3 mo (.lst [.int (k' - 1)]) b = some o := fun {b o} e h => (upd_ne h).trans e
      have tk4 : TupK H3 (upd H3 mo (.lst [.int (k' - 1)])) := fun b xs e => k4 e (ne_of e emo3 fun z => by cases z)
      have M4 : MA (upd H3 mo (.lst [.int (k' - 1)])) m cl gl (S + i * cW d + 1) := M3.keep fun b o hb e => k4 e (by
        rcases hb with rfl | rfl | rfl
        · exact Ne.symm nmm
        · exact Ne.symm ncl
        · exact Ne.symm ngl)
      have elp4 := k4 elp3 no
      have hes4 := hes3.keep tk4
      have et4 := tk4 _ _ et3
      have BH4 : Bt [m, gl, mo] H (upd H3 mo (.lst [.int (k' - 1)])) := fun b o e hb => k4 (BH3 b o e hb) fun z => hb (by rw [z]; exact List.mem_cons_of_mem _ (List.mem_cons_of_mem _ List.mem_cons_self))
      show tSeq _ _ _ _ (upd H3 mo (.lst [.int (k' - 1)]))
      generalize upd H3 mo (.lst [.int (k' - 1)]) = H4 at *
      refine ⟨_, rfl, m, cl, gl, 4, _, rfl, M4, by omega, by decide, by decide, fun r2 H5 r20 r24 M5 B5 => ⟨(by show 2 ≤ sizeLine; decide), fun t6 nt6 => ?_⟩⟩
      have k5 : ∀ {b : Addr} {o : HO}, H4 b = some o → b ≠ m → b ≠ gl → H5 b = some o := fun {b o} e h1 h2 => B5 b o e fun z => by
        rcases List.mem_cons.mp z with z | z
        · exact h1 z
        · exact h2 (List.mem_singleton.mp z)
      have tk5 : TupK H4 H5 := ma_tk M4 emo4 (bt_wide B5 memT)
      have s6 := same_upd (o := .tup [.str "file", .int r2]) nt6
      have e6 : upd H5 t6 (.tup [.str "file", .int r2]) t6 = some (.tup [.str sFile, .int r2]) := upd_same
      have emo6 := s6 _ _ (k5 emo4 nmm ngl)
      have elp6 := s6 _ _ (k5 elp4 nm ng)
      have hes6 := hes4.keep (tk5.trans (tupK_same s6))
      have et6 := s6 _ _ (tk5 _ _ et4)
      have M6 := M5.same s6
      have BH6 : Bt [m, gl, mo] H (upd H5 t6 (.tup [.str "file", .int r2])) := fun b o e hb => s6 _ _ (B5 b o (BH4 b o e hb) fun z => hb (memT b z))
      generalize upd H5 t6 (.tup [.str "file", .int r2]) = H6 at *
      have c0 : ((0 : Nat) : Int) = 0 := rfl
      have finF : ∀ t8, H6 t8 = none → ∃ (p : Addr) (a : List V) (y : V), V.ref lp = .ref p ∧ [V.ref t8] = [y] ∧ upd H6 t8 (.tup [.str name, .ref t6]) p = some (.lst a) ∧ a.length < sizeLine ∧
          FI H m cl gl mo lp t0 d k0 S (i + 1) [some (.ref m), some (.int (d : Nat)), some (.ref mo), some (.ref lp), some (.str name), some (.int r), some (.ref t6)] (upd (upd H6 t8 (.tup [.str name, .ref t6])) p (.lst (a ++ [y]))) :=
        fi_put nlp nm nc ng no hname (M6.le (by omega)) emo6 (by omega) (by show ((Ents.ofList l).count : Int) + (1 + ((0 : Nat) : Int)) + (k' - 1) ≤ k0; omega) elp6 hes6 hs hdr (drawn_file r20 r24) (.file e6) BH6 et6 hl hi3
      refine ⟨_, rfl, _, _, rfl, rfl, _, rfl, ?_⟩
      refine itek (fun _ => ?_) (fun _ => iteF ⟨_, rfl, .inl ⟨rfl, _, SqL.of elp6⟩, _, rfl, _, rfl, (by show 2 ≤ sizeLine; decide), finF⟩)
      refine ⟨_, rfl, _, _, rfl, rfl, _, rfl, ?_⟩
      refine ited (fun hdp => ?_) (fun _ => ⟨_, rfl, .inl ⟨rfl, _, SqL.of elp6⟩, _, rfl, _, rfl, (by show 2 ≤ sizeLine; decide), finF⟩)
      obtain ⟨d', rfl⟩ : ∃ d' : Nat, d = d' + 1 := ⟨d - 1, by have : 0 < (d : Int) := hdp; omega⟩
      have ecw : cW (d' + 1) = 2 + W d' := rfl
      refine ⟨_, rfl, _, rfl, _, _, rfl, rfl, _, rfl, m, cl, gl, mo, d', k' - 1, _, ?_, by omega, M6, by omega, emo6, by omega, ngl, ncl, fun H7 v l7 k7 M7 hv7 hd7 k70 hc7 emo7 B7 => ?_⟩
      · show [V.ref m, V.int (((d' + 1 : Nat) : Int) - 1), V.ref mo] = [V.ref m, V.int (d' : Nat), V.ref mo]
        rw [show (((d' + 1 : Nat) : Int)) - 1 = (d' : Int) from by omega]
      have tk7 := ma_tk M6 emo6 B7
      have elp7 : H7 lp = some (.lst us) := B7 _ _ elp6 fun z => by
        rcases List.mem_cons.mp z with z | z
        · exact nm z
        · rcases List.mem_cons.mp z with z | z
          · exact ng z
          · exact no (List.mem_singleton.mp z)
      refine ⟨_, rfl, .inl ⟨rfl, _, SqL.of elp7⟩, _, rfl, _, rfl, (by show 2 ≤ sizeLine; decide), ?_⟩
      exact fi_put nlp nm nc ng no hname (M7.le (by omega)) emo7 k70 (by show ((Ents.ofList l).count : Int) + (1 + ((Ents.ofList l7).count : Int)) + k7 ≤ k0; omega) elp7 (hes6.keep tk7) hs hdr (.inr ⟨l7, rfl, hd7.1, hd7.2⟩) hv7 (fun b o e hb => B7 b o (BH6 b o e hb) hb) (tk7 _ _ et6) hl hi3
    · rintro σ H2 ⟨x4, x5, x6, us, l, k', rfl, M2, emo, k'0, elp, hes, hs, hdr, hcn, B, et, hl⟩
      refine ⟨_, rfl, lp, _, rfl, .inl ⟨SqL.of elp, fun p2 np2 => ?_⟩⟩
      have s3 := same_upd (o := .tup us) np2
      refine ⟨(by show 2 ≤ sizeLine; decide), fun p3 np3 => ?_⟩
      have s4 := same_upd (o := .tup [.str sFolder, .ref p2]) np3
      have e5 : upd (upd H2 p2 (.tup us)) p3 (.tup [.str sFolder, .ref p2]) p2 = some (.tup us) := s4 _ _ upd_same
      have S4 := s3.trans s4
      refine q _ _ l k' ?_ (.folder upd_same e5 (hes.keep (tupK_same S4))) ⟨hs, hdr⟩ k'0 hcn (S4 _ _ emo) fun b o e hb => S4 _ _ (B b o e hb)
      rw [W_eq]
      exact M2.same S4
theorem ok_lfolder (X : Tx mg) (cD : Ca CX0 P w K mg base 2 "_law_draw" ["_law_m", "_law_limit"] spDraw) (F : Fun K "_law_folder" "_law_folder" s_lfolder f fd0) (m : mg "_law_folder" = some (.ref f)) (b : Binds K fd0 ["_law_m", "_law_deep", "_law_most"] []) : ∀ D, FnOk P w K mg base CX0 (D + 2) f fd0 ["_law_m", "_law_deep", "_law_most"] (spLFolder D)
  | 0 => ⟨fun vs H Q E h => by
      obtain ⟨m, cl, gl, mo, d, k0, S, rfl, _⟩ := h
      rfl, fun A outer s H args us vs Q E _ _ _ _ h => by
      obtain ⟨m, cl, gl, mo, d, k0, S, rfl, hd, _⟩ := h
      exact absurd hd (Nat.not_lt_zero _)⟩
  | D + 1 => ok_lfolder_step X (by omega) cD ⟨f, fd0, ok_lfolder X cD F m b D, m, F.kp, b⟩ F
end
end KD30
end L2
set_option Elab.async false
set_option linter.all false
set_option maxRecDepth 100000
set_option maxHeartbeats 4000000
/-! k92: _law_tree -/
namespace L2
namespace KD31
open PySem PySem.Spec PyProof.Rows LamX NdefX KB KN KH KL KR KM KX KD1 KD2 KD3 KD4 KD5 KD6 KD7 KMa KD8 KD9 KD10 KD11 KD12 KD13 KD14 KD15 KMb KD16 KMc KD18 KD19 KD20 KD21 KD22 KD23 KD24 KD25 KMd KD26 KD27 KD28 KD29 KD30
section
variable {P : Program} {w : World} {K : PySem.W.Frag} {mg : Str → Option Value} {base : Heap} {f : Addr} {fd0 : FuncData}
def spLTree : Sp := fun vs H Q _ => ∃ (m cl gl : Addr) (S : Nat), vs = [.ref m, .int 10] ∧ MA H m cl gl S ∧ S < 700000 ∧
  ∀ H' v (l : Lot) (ps : KN.Pairs), MA H' m cl gl (S + 82) → TreeAt H' v (.folder (Ents.ofList l)) ps → isTreeB (.folder (Ents.ofList l)) ps = true → SmallP ps → Sane (.folder (Ents.ofList l)) → SmallE (Ents.ofList l) → (Ents.ofList l).count ≤ 10 → Bt [m, gl] H H' → Q v H'
abbrev nLTree : List Str := ["_law_m", "_law_most", "_law_folder_here", "_law_used", "_law_number"]
theorem sc_ltree : FnScope nLTree ["_law_m", "_law_most"] (defScope s_ltree) := ⟨rfl, rfl, rfl, by decide +kernel, rfl, by decide +kernel, by decide +kernel⟩
abbrev lot3 : List Str := ["x", "y", "word"]
theorem pick3 {r : Int} (h0 : 0 ≤ r) (h1 : r < 3) : ∃ z : Str, (z = "x" ∨ z = "y" ∨ z = "word") ∧ atI (lot3.map V.str) r = some (.str z) := by
  have h : r = 0 ∨ r = 1 ∨ r = 2 := by omega
  rcases h with rfl | rfl | rfl
  · exact ⟨"x", .inl rfl, at0⟩
  · exact ⟨"y", .inr (.inl rfl), at1⟩
  · exact ⟨"word", .inr (.inr rfl), at2⟩
theorem ok_ltree (X : Tx mg) (cD : Ca CX0 P w K mg base 2 "_law_draw" ["_law_m", "_law_limit"] spDraw) (cF : Ca CX0 P w K mg base 5 "_law_folder" ["_law_m", "_law_deep", "_law_most"] (spLFolder 3)) (cN : Ca CX0 P w K mg base 5 "_law_numbers" ["_law_node"] (spLNumbers 4)) (F : Fun K "_law_tree" "_law_tree" s_ltree f fd0) :
    FnOk P w K mg base CX0 6 f fd0 ["_law_m", "_law_most"] spLTree := by
  refine F.ok sc_ltree (fun vs H Q E h => ?_) (fun cdv A outer s H vs Q E hr h => ?_)
  · obtain ⟨m, cl, gl, S, rfl, _⟩ := h
    rfl
  · obtain ⟨m, cl, gl, S, rfl, hm, hS, q⟩ := h
    have hr2 : Room 2 _ := hr.mono (by decide)
    have nd := sc_ltree.nd
    refine ⟨_, pss_cons (ps_set (i := 2) nd rfl (Or.inl rfl) (pe_ca cF hr (by rfl) (pa_cons (pv 0) (pa_cons pe_int (pa_cons (pe_lst (pa_cons (pv 1) pa_nil)) pa_nil)))))
      (pss_cons (ps_set (i := 3) nd rfl (Or.inl rfl) (pe_callB (cr_sortedSet rfl) (by rfl) (X.b "sorted") (by decide +kernel) (pa_cons (pe_callTy (cr_setL rfl) (by rfl) (X.b "set") (by decide +kernel) (pa_cons (pe_ca cN hr (by rfl) (pa_cons (pv 2) pa_nil)) pa_nil)) pa_nil)))
      (pss_one (ps_ret (pe_tup (pa_cons (pv 2) (pa_cons (pe_callTy call_tuple_of (by rfl) (X.b "tuple") (by decide +kernel) (pa_cons (pe_lc (own := [("_law_number", 4)]) (g := gName 4) (tt := tYes)
          (te := tTup (tCons (tVar 4) (tCons (tOp (rIxL K) (tLst (tCons (tC (.str "x")) (tCons (tC (.str "y")) (tCons (tC (.str "word")) tNil)))) (tCall spDraw [] E0 (tCons (tVar 0) (tCons (tC (.int 3)) tNil)))) tNil))) rfl nd (pi_list (pv 3))
          (blkOk_by (N := nLTree) (sc := defScope s_ltree) (by decide +kernel)) (fun _ _ _ _ _ => pg_name (i := 4) nd rfl (Or.inl rfl)) (fun _ _ _ _ _ => pts_nil)
          (fun _ _ _ _ _ => pe_tup (pa_cons (pv 4) (pa_cons (pe_ix ix_list (pe_lst (pa_cons pe_str (pa_cons pe_str (pa_cons pe_str pa_nil)))) (pe_ca cD hr2 (by rfl) (pa_cons (pv 0) (pa_cons pe_int pa_nil))) (fun _ _ => rfl)) pa_nil)))) pa_nil)) pa_nil)))))), ?_⟩
    obtain ⟨cs0, gs0, n0, em, ec, _, eg, _⟩ := hm.ex
    refine ⟨_, rfl, _, rfl, (by show 1 ≤ sizeLine; decide), fun mo nmo => ?_⟩
    have s1 := same_upd (o := .lst [.int 10]) nmo
    have emo : upd H mo (.lst [.int 10]) mo = some (.lst [.int 10]) := upd_same
    refine ⟨m, cl, gl, mo, 2, 10, S, rfl, by decide, hm.same s1, (by show S + 78 < 800000; omega), emo, by decide, (ne_of_none eg nmo).symm, (ne_of_none ec nmo).symm, fun H2 v l k' M2 hv hd k'0 hc emo2 B2 => ?_⟩
    have BH2 : Bt [m, gl] H H2 := fun b o e hb => B2 b o (s1 _ _ e) fun z => by
      rcases List.mem_cons.mp z with z | z
      · exact hb (by rw [z]; exact List.mem_cons_self)
      · rcases List.mem_cons.mp z with z | z
        · exact hb (by rw [z]; exact List.mem_cons_of_mem _ List.mem_cons_self)
        · rw [List.mem_singleton.mp z, nmo] at e
          cases e
    have hc10 : (Ents.ofList l).count ≤ 10 := by omega
    have hn : DrawnN 3 (.folder (Ents.ofList l)) := .inr ⟨l, rfl, hd.1, hd.2⟩
    have nl : (Node.folder (Ents.ofList l)).numbers.length ≤ 10 := Nat.le_trans (nums_leE _) hc10
    have hnum := drawn_nums hn
    have len4 : (sortSet (Node.folder (Ents.ofList l)).numbers).length ≤ 4 := by
      have := sorted_len (l := sortSet (Node.folder (Ents.ofList l)).numbers) (a := 0) (sort_sortSet _) (fun k hk => hnum k (mem_sortSet.mp hk)) (by decide)
      omega
    refine ⟨_, rfl, v, _, rfl, Nat.lt_succ_of_le (drawn_depth hn), hv, big8 (by omega), fun H3 p s3 ep => ?_⟩
    refine ⟨p, (Node.folder (Ents.ofList l)).numbers, rfl, SqL.of ep, by omega, fun p2 c2 np2 hc2 => ?_⟩
    refine ⟨p2, _, c2, rfl, upd_same, by omega, fun ns p3 h1 h2 h3 np3 => ?_⟩
    obtain rfl := is_sortSet h1 h2
    have s4 := (s3.trans (same_upd (o := SetO w p2 (fun j => decide (j ∈ (Node.folder (Ents.ofList l)).numbers)) c2) np2)).trans (same_upd (o := .lst ((sortSet (Node.folder (Ents.ofList l)).numbers).map V.int)) np3)
    obtain ⟨cs2, gs2, n2, em2, ec2, _, eg2, _⟩ := M2.ex
    have sx := s3.trans (same_upd (o := SetO w p2 (fun j => decide (j ∈ (Node.folder (Ents.ofList l)).numbers)) c2) np2)
    have n3m : p3 ≠ m := (ne_of_none (sx _ _ em2) np3).symm
    have n3g : p3 ≠ gl := (ne_of_none (sx _ _ eg2) np3).symm
    have e4 : upd (upd H3 p2 (SetO w p2 (fun j => decide (j ∈ (Node.folder (Ents.ofList l)).numbers)) c2)) p3 (.lst ((sortSet (Node.folder (Ents.ofList l)).numbers).map V.int)) p3 = some (.lst ((sortSet (Node.folder (Ents.ofList l)).numbers).map V.int)) := upd_same
    show gName _ _ _ (upd (upd H3 p2 (SetO w p2 (fun j => decide (j ∈ (Node.folder (Ents.ofList l)).numbers)) c2)) p3 (.lst ((sortSet (Node.folder (Ents.ofList l)).numbers).map V.int))) _
    generalize upd (upd H3 p2 (SetO w p2 (fun j => decide (j ∈ (Node.folder (Ents.ofList l)).numbers)) c2)) p3 (.lst ((sortSet (Node.folder (Ents.ofList l)).numbers).map V.int)) = H4 at *
    have M4 := M2.same s4
    have hv4 := hv.keep (tupK_same s4)
    have BH4 : Bt [m, gl] H H4 := fun b o e hb => s4 _ _ (BH2 b o e hb)
    generalize hus : sortSet (Node.folder (Ents.ofList l)).numbers = used at *
    refine ⟨_, rfl, _, rfl, p3, rfl, ⟨_, SqL.of e4⟩, fun D hD => ?_⟩
    refine lc_it (walk_list (K := K) (a := p3) (xs := used.map V.int)) (fun i H' => MA H' m cl gl (S + 78 + i) ∧ Bt [m, gl] H4 H' ∧ ∃ (us : List V) (ps : KN.Pairs), H' D = some (.lst us) ∧ PairsAt H' us ps ∧ ps.map (·.1) = used.take i ∧ (∀ p ∈ ps, p.2 = "x" ∨ p.2 = "y" ∨ p.2 = "word") ∧ us.length ≤ i)
      ⟨M4.same (same_upd hD), (fun b o e _ => same_upd hD _ _ e), [], [], upd_same, .nil, by simp, (fun p hp => by cases hp), Nat.le_refl _⟩ (fun i H' _ q => SqL.of (q.2.1 _ _ e4 fun z => ?_)) ?_ ?_
    · rcases List.mem_cons.mp z with z | z
      · exact n3m z
      · exact n3g (List.mem_singleton.mp z)
    · rintro i x H5x H5 hi ⟨M5, B5, us, ps, e5, hp5, hps, hw5, hl5⟩ ⟨rfl, hx⟩
      obtain ⟨n, hn', rfl⟩ := map_at hx
      rw [List.length_map] at hi
      obtain ⟨cs5, gs5, n5, em5, ec5, _, eg5, _⟩ := M5.ex
      refine ⟨rfl, _, rfl, (by show 3 ≤ sizeLine; decide), fun lp nlp => ?_⟩
      have s6 := same_upd (o := .lst (lot3.map V.str)) nlp
      have e6 : upd H5 lp (.lst (lot3.map V.str)) lp = some (.lst (lot3.map V.str)) := upd_same
      refine ⟨_, rfl, m, cl, gl, 3, _, rfl, M5.same s6, by omega, by decide, by decide, fun r H7 r0 r3 M7 B7 => ?_⟩
      obtain ⟨z, hz, hat⟩ := pick3 r0 r3
      have e7 := B7 _ _ e6 fun y => by
        rcases List.mem_cons.mp y with y | y
        · exact ne_of_none em5 nlp y.symm
        · exact ne_of_none eg5 nlp (List.mem_singleton.mp y).symm
      refine ⟨lp, _, _, _, rfl, rfl, SqL.of e7, hat, (by show 2 ≤ sizeLine; decide), fun t8 nt8 => ?_⟩
      have s8 := same_upd (o := .tup [.int n, .str z]) nt8
      have tk7 : TupK (upd H5 lp (.lst (lot3.map V.str))) H7 := tupK_bt B7 fun b hb xs y => by
        rcases List.mem_cons.mp hb with rfl | hb
        · rw [s6 _ _ em5] at y
          cases y
        · rw [List.mem_singleton.mp hb, s6 _ _ eg5] at y
          cases y
      have nDm : D ≠ m := ne_of e5 em5 fun z => by cases z
      have nDg : D ≠ gl := fun y => by
        obtain ⟨cs4, gs4, n4, em4, ec4, _, eg4, _⟩ := M4.ex
        rw [y, eg4] at hD
        cases hD
      have nDc : D ≠ cl := fun y => by
        obtain ⟨cs4, gs4, n4, em4, ec4, _, eg4, _⟩ := M4.ex
        rw [y, ec4] at hD
        cases hD
      have e58 := s8 _ _ (B7 _ _ (s6 _ _ e5) fun y => by
        rcases List.mem_cons.mp y with y | y
        · exact nDm y
        · exact nDg (List.mem_singleton.mp y))
      have tk : TupK (upd H7 t8 (.tup [.int n, .str z])) (upd (upd H7 t8 (.tup [.int n, .str z])) D (.lst (us ++ [.ref t8]))) := fun b xs e => (upd_ne (ne_of e e58 fun z => by cases z)).trans e
      refine ⟨us, e58, big8 (by omega), ?_, ?_, us ++ [.ref t8], ps ++ [(n, z)], upd_same, ?_, ?_, ?_, ?_⟩
      · refine (M7.same s8).keep fun b o hb e => (upd_ne ?_).trans e
        rcases hb with rfl | rfl | rfl
        · exact Ne.symm nDm
        · exact Ne.symm nDc
        · exact Ne.symm nDg
      · intro b o e hb
        have hbD : b ≠ D := fun y => by
          rw [y, hD] at e
          cases e
        exact (upd_ne hbD).trans (s8 _ _ (B7 _ _ (s6 _ _ (B5 _ _ e hb)) hb))
      · exact PairsAt.snoc (tk _ _ upd_same) (hp5.keep ((tupK_same s6).trans (tk7.trans ((tupK_same s8).trans tk))))
      · rw [List.map_append, hps, take_more hn']
        rfl
      · intro p hp
        rcases List.mem_append.mp hp with hp | hp
        · exact hw5 p hp
        · rw [List.mem_singleton.mp hp]
          exact hz
      · rw [List.length_append]
        show us.length + 1 ≤ i + 1
        omega
    · rintro H5 ⟨M5, B5, us, ps, e5, hp5, hps, hw5, hl5⟩
      rw [List.length_map, List.take_length] at hps
      rw [← hus] at hps
      obtain ⟨t1, t2, t3, t4⟩ := drawn_tree hd hc10 hps hw5
      refine ⟨D, _, rfl, .inl ⟨SqL.of e5, fun tp ntp => ?_⟩⟩
      have s6 := same_upd (o := .tup us) ntp
      refine ⟨(by show 2 ≤ sizeLine; decide), fun ta nta => ?_⟩
      have s7 := same_upd (o := .tup [v, .ref tp]) nta
      have S7 := s6.trans s7
      have tk5 : TupK H4 H5 := tupK_bt B5 fun b hb xs y => by
        obtain ⟨cs4, gs4, n4, em4, ec4, _, eg4, _⟩ := M4.ex
        rcases List.mem_cons.mp hb with rfl | hb
        · rw [em4] at y
          cases y
        · rw [List.mem_singleton.mp hb, eg4] at y
          cases y
      refine q _ _ l ps ((M5.same S7).le ?_) ⟨ta, tp, v, us, rfl, upd_same, hv4.keep (tk5.trans (tupK_same S7)), s7 _ _ upd_same, hp5.keep (tupK_same S7)⟩ t1 t2 t3 t4 hc10 fun b o e hb => S7 _ _ (B5 _ _ (BH4 b o e hb) hb)
      rw [List.length_map]
      omega
end
end KD31
end L2
set_option Elab.async false
set_option linter.all false
set_option maxRecDepth 100000
set_option maxHeartbeats 4000000
/-! k92: _law_bent -/
namespace L2
namespace KD32
open PySem PySem.Spec PyProof.Rows LamX NdefX KB KN KH KL KR KM KX KD1 KD2 KD3 KD4 KD5 KD6 KD7 KMa KD8 KD9 KD10 KD11 KD12 KD13 KD14 KD15 KMb KD16 KMc KD18 KD19 KD20 KD21 KD22 KD23 KD24 KD25 KMd KD26 KD27 KD28 KD29 KD30 KD31
abbrev s_bent : Stmt := top 66
/-- the signs of some texts and one for each -/
def wt (ls : List Str) : Nat := (ls.map (·.length)).sum + ls.length
theorem wt_app (a b : List Str) : wt (a ++ b) = wt a + wt b := by
  unfold wt
  rw [List.map_append, List.sum_append, List.length_append]
  omega
theorem wt_cons (x : Str) (r : List Str) : wt (x :: r) = (x.length + 1) + wt r := by
  unfold wt
  rw [List.map_cons, List.sum_cons, List.length_cons]
  omega
theorem wt_cut {ls : List Str} {n m : Nat} (h : n ≤ m) : wt (ls.take n) + wt (ls.drop m) ≤ wt ls := by
  have e1 := wt_app (ls.take n) (ls.drop n)
  rw [List.take_append_drop] at e1
  have e2 := wt_app ((ls.drop n).take (m - n)) ((ls.drop n).drop (m - n))
  rw [List.take_append_drop, List.drop_drop] at e2
  rw [show n + (m - n) = m by omega] at e2
  omega
theorem wt_rep (k : Nat) (x : Str) : wt (List.replicate k [x]).flatten = k * (x.length + 1) := by
  induction k with
  | zero => rw [Nat.zero_mul]; rfl
  | succ k ih =>
    rw [List.replicate_succ, List.flatten_cons, wt_app, ih, wt_cons, Nat.add_mul]
    show x.length + 1 + 0 + _ = _
    omega
theorem wt_len (ls : List Str) : ls.length ≤ wt ls := Nat.le_add_left _ _
theorem wt_join {sep : Str} (h : sep.length = 1) (ls : List Str) : (Txt.join sep ls).length ≤ wt ls := by
  have := join_len sep ls
  rw [h, Nat.mul_one] at this
  exact this
theorem wt_split (z : Str) {sep : Str} (h : sep.length = 1) : wt (Txt.split z sep) ≤ z.length + 1 := split_weight z sep (by omega)
theorem cut_to (ls : List Str) (n : Nat) : cutV (ls.map V.str) none (some (n : Int)) = (ls.take (min n ls.length)).map V.str := by
  unfold cutV
  rw [HT.sIx_none, HT.sIx_nat, List.drop_zero, Nat.sub_zero, List.length_map, List.map_take]
theorem cut_of (ls : List Str) (n : Nat) : cutV (ls.map V.str) (some (n : Int)) none = (ls.drop (min n ls.length)).map V.str := by
  unfold cutV
  rw [HT.sIx_none, HT.sIx_nat, List.length_map, List.map_drop, List.take_of_length_le]
  rw [List.length_drop, List.length_map]
  exact Nat.le_refl _
theorem rep_map (k : Nat) (x : Str) : (List.replicate k [V.str x]).flatten = ((List.replicate k [x]).flatten).map V.str := by
  induction k with
  | zero => rfl
  | succ k ih =>
    rw [List.replicate_succ, List.flatten_cons, ih, List.replicate_succ, List.flatten_cons, List.map_append]
    rfl
theorem atI_some {α : Type} {xs : List α} {r : Int} (h0 : 0 ≤ r) (h1 : r < xs.length) : ∃ c, atI xs r = some c ∧ c ∈ xs := by
  obtain ⟨k, rfl⟩ := Int.eq_ofNat_of_zero_le h0
  have hk : k < xs.length := by omega
  exact ⟨xs[k], atI_nat (List.getElem?_eq_getElem hk), List.getElem_mem hk⟩
abbrev someL : List Str := ["", "-", "a", "b/c", "a/b", "file", "folder", "word", "0", "3", "99", "100", "007", "A", "c/a/b"]
abbrev lastL : List Str := ["abcdefghi"]
theorem thing_len : ∀ x ∈ someL ++ lastL, x.length ≤ 9 := by decide +kernel
theorem nl_len : ("\n" : Str).length = 1 := by decide +kernel
theorem sp_len : (" " : Str).length = 1 := by decide +kernel
section
variable {P : Program} {w : World} {K : PySem.W.Frag} {mg : Str → Option Value} {base : Heap} {f : Addr} {fd0 : FuncData}
def spBent : Sp := fun vs H Q _ => ∃ (m cl gl : Addr) (S : Nat) (z : Str), vs = [.ref m, .str z] ∧ MA H m cl gl S ∧ S < 700000 ∧ z.length ≤ 100000 ∧
  ∀ H' (y : Str), y.length ≤ 3 * z.length + 20 → MA H' m cl gl (S + 6) → Bt [m, gl] H H' → Q (.str y) H'
abbrev nBent : List Str := ["_law_m", "_law_text", "_law_lines", "_law_way", "_law_spot", "_law_there", "_law_at_here", "_law_sign", "_law_words", "_law_place", "_law_more", "_law_some", "_law_thing"]
theorem sc_bent : FnScope nBent ["_law_m", "_law_text"] (defScope s_bent) := ⟨rfl, rfl, rfl, by decide +kernel, rfl, by decide +kernel, by decide +kernel⟩
theorem ok_bent (X : Tx mg) (cD : Ca CX0 P w K mg base 2 "_law_draw" ["_law_m", "_law_limit"] spDraw) (F : Fun K "_law_bent" "_law_bent" s_bent f fd0) : FnOk P w K mg base CX0 3 f fd0 ["_law_m", "_law_text"] spBent := by
  refine F.ok sc_bent (fun vs H Q E h => ?_) (fun cdv A outer s H vs Q E hr h => ?_)
  · obtain ⟨m, cl, gl, S, z, rfl, _⟩ := h
    rfl
  · obtain ⟨m, cl, gl, S, z, rfl, hm, hS, hz, q⟩ := h
    have nd := sc_bent.nd
    refine ⟨_, pss_cons (ps_par (i := 2) (j := 3) rfl nd rfl rfl (by decide) rfl rfl (pa_cons (pe_split (pv 1) pe_str) (pa_cons (pe_ca cD hr (by rfl) (pa_cons (pv 0) (pa_cons pe_int pa_nil))) pa_nil)) (by rfl))
      (pss_cons (ps_par (i := 4) (j := 5) rfl nd rfl rfl (by decide) rfl rfl (pa_cons (pe_ca cD hr (by rfl) (pa_cons (pv 0) (pa_cons (pe_callB call_len_seq (by rfl) (X.b "len") PySem.boot_len (pa_cons (pv 2) pa_nil)) pa_nil))) (pa_cons (pe_ca cD hr (by rfl) (pa_cons (pv 0) (pa_cons (pe_callB call_len_seq (by rfl) (X.b "len") PySem.boot_len (pa_cons (pv 2) pa_nil)) pa_nil))) pa_nil)) (by rfl))
      (pss_cons (ps_if (pt_cmpR op_eq (pv 3) pe_int (nomark _)) (pss_one (ps_ret (pe_join pe_str (pe_op op_cat (pe_slice sl_list (pv 2) po_none (po_some (pv 4))) (pe_slice sl_list (pv 2) (po_some (pe_op op_add (pv 4) pe_int)) po_none))))) pss_nil)
      (pss_cons (ps_if (pt_cmpR op_lt (pv 3) pe_int (nomark _)) (pss_one (ps_ret (pe_join pe_str (pe_op op_cat (pe_op op_cat (pe_slice sl_list (pv 2) po_none (po_some (pv 4))) (pe_op op_rep (pe_lst (pa_cons (pe_ix ix_list (pv 2) (pv 5) (fun _ _ => rfl)) pa_nil)) (pv 3))) (pe_slice sl_list (pv 2) (po_some (pv 4)) po_none))))) pss_nil)
      (pss_cons (ps_if (pt_cmpR op_eq (pv 3) pe_int (nomark _))
        (pss_cons (ps_par (i := 6) (j := 7) rfl nd rfl rfl (by decide) rfl rfl (pa_cons (pe_ca cD hr (by rfl) (pa_cons (pv 0) (pa_cons (pe_op op_add (pe_callB call_len_str (by rfl) (X.b "len") PySem.boot_len (pa_cons (pv 1) pa_nil)) pe_int) pa_nil))) (pa_cons (pe_ix ix_str pe_str (pe_ca cD hr (by rfl) (pa_cons (pv 0) (pa_cons pe_int pa_nil))) (fun _ _ => rfl)) pa_nil)) (by rfl))
        (pss_one (ps_ret (pe_op op_add_str (pe_op op_add_str (pe_slice sl_str (pv 1) po_none (po_some (pv 6))) (pv 7)) (pe_slice sl_str (pv 1) (po_some (pe_op op_add (pv 6) (pe_ca cD hr (by rfl) (pa_cons (pv 0) (pa_cons pe_int pa_nil))))) po_none))))) pss_nil)
      (pss_cons (ps_set (i := 8) nd rfl (Or.inl rfl) (pe_split (pe_ix ix_list (pv 2) (pv 4) (fun _ _ => rfl)) pe_str))
      (pss_cons (ps_par (i := 9) (j := 10) rfl nd rfl rfl (by decide) rfl rfl (pa_cons (pe_ca cD hr (by rfl) (pa_cons (pv 0) (pa_cons (pe_op op_add (pe_callB call_len_seq (by rfl) (X.b "len") PySem.boot_len (pa_cons (pv 8) pa_nil)) pe_int) pa_nil))) (pa_cons (pe_ca cD hr (by rfl) (pa_cons (pv 0) (pa_cons pe_int pa_nil))) pa_nil)) (by rfl))
      (pss_cons (ps_set (i := 11) nd rfl (Or.inl rfl) (pe_lst (pa_cons pe_str (pa_cons pe_str (pa_cons pe_str (pa_cons pe_str (pa_cons pe_str (pa_cons pe_str (pa_cons pe_str (pa_cons pe_str (pa_cons pe_str (pa_cons pe_str (pa_cons pe_str (pa_cons pe_str (pa_cons pe_str (pa_cons pe_str (pa_cons pe_str pa_nil)))))))))))))))))
      (pss_cons (ps_set (i := 12) nd rfl (Or.inl rfl) (pe_ix ix_list (pe_op op_cat (pv 11) (pe_lst (pa_cons pe_str pa_nil))) (pe_ca cD hr (by rfl) (pa_cons (pv 0) (pa_cons pe_int pa_nil))) (fun _ _ => rfl)))
      (pss_cons (ps_set (i := 8) nd rfl (Or.inl rfl) (pe_op op_cat (pe_op op_cat (pe_slice sl_list (pv 8) po_none (po_some (pv 9))) (pe_op op_rep (pe_lst (pa_cons (pv 12) pa_nil)) (pe_callTy call_int1 (by rfl) (X.b "int") (by decide +kernel) (pa_cons (pe_cmpR op_gt (pv 3) pe_int (nomark _)) pa_nil)))) (pe_slice sl_list (pv 8) (po_some (pe_op op_add (pv 9) (pv 10))) po_none)))
      (pss_one (ps_ret (pe_join pe_str (pe_op op_cat (pe_op op_cat (pe_slice sl_list (pv 2) po_none (po_some (pv 4))) (pe_lst (pa_cons (pe_join pe_str (pv 8)) pa_nil))) (pe_slice sl_list (pv 2) (po_some (pe_op op_add (pv 4) pe_int)) po_none)))))))))))))), ?_⟩
    obtain ⟨cs0, gs0, n0, em, ec, _, eg, _⟩ := hm.ex
    have hsz := sizeLine_eq
    have wl := wt_split z nl_len
    have lpos : 1 ≤ (Txt.split z "\n").length := split_pos z "\n"
    have llen : (Txt.split z "\n").length ≤ z.length + 1 := Nat.le_trans (wt_len _) wl
    refine ⟨_, rfl, ⟨_, rfl⟩, z, _, rfl, rfl, (by decide +kernel), by omega, fun la nla => ?_⟩
    have s1 := same_upd (o := .lst ((Txt.split z "\n").map V.str)) nla
    have ela : upd H la (.lst ((Txt.split z "\n").map V.str)) la = some (.lst ((Txt.split z "\n").map V.str)) := upd_same
    have nlm : la ≠ m := (ne_of_none em nla).symm
    have nlg : la ≠ gl := (ne_of_none eg nla).symm
    have hm1 := hm.same s1
    generalize Txt.split z "\n" = ls at *
    generalize upd H la (.lst (ls.map V.str)) = H1 at *
    have kl : ∀ {H2 H3 : Hp}, Bt [m, gl] H2 H3 → H2 la = some (.lst (ls.map V.str)) → H3 la = some (.lst (ls.map V.str)) := fun B e => B _ _ e fun y => by
      rcases List.mem_cons.mp y with y | y
      · exact nlm y
      · exact nlg (List.mem_singleton.mp y)
    have B01 : Bt [m, gl] H H1 := fun b o e _ => s1 _ _ e
    have tr : ∀ {H2 H3 : Hp}, Bt [m, gl] H H2 → Bt [m, gl] H2 H3 → Bt [m, gl] H H3 := fun a b c o e n => b c o (a c o e n) n
    refine ⟨_, rfl, m, cl, gl, 8, S, rfl, hm1, by omega, by decide, by decide, fun way H2 w0 w8 M2 B2 => ⟨_, _, rfl, ?_⟩⟩
    have e2 := kl B2 ela
    have B02 := tr B01 B2
    refine ⟨_, rfl, _, rfl, la, _, rfl, .inl (SqL.of e2), m, cl, gl, _, _, rfl, M2, by omega, ?_, ?_, fun spot H3 s0 s3 M3 B3 => ?_⟩
    · rw [List.length_map]
      omega
    · rw [List.length_map]
      omega
    have e3 := kl B3 e2
    have B03 := tr B02 B3
    rw [List.length_map] at s3
    obtain ⟨sp, rfl⟩ := Int.eq_ofNat_of_zero_le s0
    refine ⟨_, rfl, _, rfl, la, _, rfl, .inl (SqL.of e3), m, cl, gl, _, _, rfl, M3, by omega, ?_, ?_, fun there H4 t0 t3 M4 B4 => ⟨_, _, rfl, ?_⟩⟩
    · rw [List.length_map]
      omega
    · rw [List.length_map]
      omega
    have e4 := kl B4 e3
    have B04 := tr B03 B4
    rw [List.length_map] at t3
    refine ⟨_, rfl, rfl, _, rfl, ?_⟩
    refine itek (fun _ => ?_) (fun _ => ?_)
    · -- a line less
      refine ⟨⟨_, rfl⟩, _, rfl, _, rfl, _, rfl, la, _, rfl, SqL.of e4, fun p np => ?_⟩
      rw [cut_to]
      have s5 := same_upd (o := .lst ((ls.take (min sp ls.length)).map V.str)) np
      have e5 : upd H4 p (.lst ((ls.take (min sp ls.length)).map V.str)) p = some (.lst ((ls.take (min sp ls.length)).map V.str)) := upd_same
      generalize upd H4 p (.lst ((ls.take (min sp ls.length)).map V.str)) = H5 at *
      refine ⟨_, rfl, _, rfl, _, _, rfl, rfl, _, rfl, la, _, rfl, SqL.of (s5 _ _ e4), fun p2 np2 => ?_⟩
      have ec1 : cutV (ls.map V.str) (some ((sp : Int) + 1)) none = (ls.drop (min (sp + 1) ls.length)).map V.str := cut_of ls (sp + 1)
      rw [ec1]
      have s6 := same_upd (o := .lst ((ls.drop (min (sp + 1) ls.length)).map V.str)) np2
      refine ⟨p, p2, _, _, rfl, rfl, s6 _ _ e5, upd_same, ?_, fun p3 np3 => ?_⟩
      · rw [List.length_map, List.length_map, List.length_take, List.length_drop]
        omega
      have s7 := same_upd (o := .lst ((ls.take (min sp ls.length)).map V.str ++ (ls.drop (min (sp + 1) ls.length)).map V.str)) np3
      have hw := wt_cut (ls := ls) (n := min sp ls.length) (m := min (sp + 1) ls.length) (by omega)
      have hj := wt_join nl_len (ls.take (min sp ls.length) ++ ls.drop (min (sp + 1) ls.length))
      rw [wt_app] at hj
      refine ⟨_, p3, ls.take (min sp ls.length) ++ ls.drop (min (sp + 1) ls.length), rfl, rfl, .inl (SqL.of (by rw [upd_same, List.map_append])), ?_, ?_⟩
      · show _ + _ * ("\n" : Str).length ≤ _
        rw [nl_len, Nat.mul_one]
        have := wt_app (ls.take (min sp ls.length)) (ls.drop (min (sp + 1) ls.length))
        unfold wt at this hw wl
        omega
      · exact q _ _ (by omega) (((M4.same s5).same s6).same s7 |>.le (by omega)) fun b o e hb => s7 _ _ (s6 _ _ (s5 _ _ (B04 b o e hb)))
    have there_at : ∃ ln, atI (ls.map V.str) there = some (V.str ln) ∧ ln ∈ ls := by
      obtain ⟨c, hc, hm⟩ := atI_some (xs := ls.map V.str) t0 (by rw [List.length_map]; exact t3)
      obtain ⟨ln, hln, rfl⟩ := List.mem_map.mp hm
      exact ⟨ln, hc, hln⟩
    have line_le : ∀ ln ∈ ls, ln.length + 1 ≤ z.length + 1 := fun ln hln => by
      have h1 := mem_sum hln
      unfold wt at wl
      omega
    refine ⟨_, rfl, _, _, rfl, rfl, _, rfl, ?_⟩
    refine ited (fun hw3 => ?_) (fun _ => ?_)
    · -- a line more
      obtain ⟨ln, hat, hln⟩ := there_at
      have hll := line_le ln hln
      obtain ⟨wy, rfl⟩ := Int.eq_ofNat_of_zero_le w0
      have hw3' : wy < 3 := by
        have h : (wy : Int) < 3 := hw3
        omega
      refine ⟨⟨_, rfl⟩, _, rfl, _, rfl, _, rfl, la, _, rfl, SqL.of e4, fun p np => ?_⟩
      rw [cut_to]
      have s5 := same_upd (o := .lst ((ls.take (min sp ls.length)).map V.str)) np
      have e5 : upd H4 p (.lst ((ls.take (min sp ls.length)).map V.str)) p = some (.lst ((ls.take (min sp ls.length)).map V.str)) := upd_same
      generalize upd H4 p (.lst ((ls.take (min sp ls.length)).map V.str)) = H5 at *
      refine ⟨_, rfl, _, rfl, la, _, _, _, rfl, rfl, SqL.of (s5 _ _ e4), hat, (by show 1 ≤ sizeLine; decide), fun p1 np1 => ?_⟩
      have s6 := same_upd (o := .lst [.str ln]) np1
      have e6 : upd H5 p1 (.lst [.str ln]) p1 = some (.lst [.str ln]) := upd_same
      generalize upd H5 p1 (.lst [.str ln]) = H6 at *
      refine ⟨_, rfl, p1, _, _, rfl, rfl, e6, by omega, by omega, ?_, fun p2 np2 => ?_⟩
      · show 1 * (wy : Int).toNat ≤ sizeLine
        rw [Int.toNat_natCast]
        omega
      rw [Int.toNat_natCast, rep_map]
      have s7 := same_upd (o := .lst ((List.replicate wy [ln]).flatten.map V.str)) np2
      have e7 : upd H6 p2 (.lst ((List.replicate wy [ln]).flatten.map V.str)) p2 = some (.lst ((List.replicate wy [ln]).flatten.map V.str)) := upd_same
      generalize upd H6 p2 (.lst ((List.replicate wy [ln]).flatten.map V.str)) = H7 at *
      have wr := wt_rep wy ln
      have wrl := wt_len (List.replicate wy [ln]).flatten
      have wr2 : wy * (ln.length + 1) ≤ 2 * (z.length + 1) := Nat.le_trans (Nat.mul_le_mul_right _ (show wy ≤ 2 by omega)) (Nat.mul_le_mul_left _ hll)
      refine ⟨p, p2, _, _, rfl, rfl, s7 _ _ (s6 _ _ e5), e7, ?_, fun p3 np3 => ?_⟩
      · rw [List.length_map, List.length_map, List.length_take]
        omega
      rw [← List.map_append]
      have s8 := same_upd (o := .lst ((ls.take (min sp ls.length) ++ (List.replicate wy [ln]).flatten).map V.str)) np3
      have e8 : upd H7 p3 (.lst ((ls.take (min sp ls.length) ++ (List.replicate wy [ln]).flatten).map V.str)) p3 = some (.lst ((ls.take (min sp ls.length) ++ (List.replicate wy [ln]).flatten).map V.str)) := upd_same
      generalize upd H7 p3 (.lst ((ls.take (min sp ls.length) ++ (List.replicate wy [ln]).flatten).map V.str)) = H8 at *
      have S58 := ((s5.trans s6).trans s7).trans s8
      refine ⟨_, rfl, _, rfl, _, rfl, la, _, rfl, SqL.of (S58 _ _ e4), fun p4 np4 => ?_⟩
      rw [cut_of]
      have s9 := same_upd (o := .lst ((ls.drop (min sp ls.length)).map V.str)) np4
      refine ⟨p3, p4, _, _, rfl, rfl, s9 _ _ e8, upd_same, ?_, fun p5 np5 => ?_⟩
      · rw [List.length_map, List.length_map, List.length_append, List.length_take, List.length_drop]
        omega
      rw [← List.map_append]
      have s10 := same_upd (o := .lst ((ls.take (min sp ls.length) ++ (List.replicate wy [ln]).flatten ++ ls.drop (min sp ls.length)).map V.str)) np5
      have hw := wt_cut (ls := ls) (n := min sp ls.length) (m := min sp ls.length) (Nat.le_refl _)
      have hj := wt_join nl_len (ls.take (min sp ls.length) ++ (List.replicate wy [ln]).flatten ++ ls.drop (min sp ls.length))
      have ha := wt_app (ls.take (min sp ls.length) ++ (List.replicate wy [ln]).flatten) (ls.drop (min sp ls.length))
      rw [wt_app (ls.take (min sp ls.length)), wr] at ha
      refine ⟨_, p5, ls.take (min sp ls.length) ++ (List.replicate wy [ln]).flatten ++ ls.drop (min sp ls.length), rfl, rfl, .inl (SqL.of upd_same), ?_, ?_⟩
      · show _ + _ * ("\n" : Str).length ≤ _
        rw [nl_len, Nat.mul_one]
        show wt _ ≤ _
        omega
      · exact q _ _ (by omega) ((M4.same ((S58.trans s9).trans s10)).le (by omega)) fun b o e hb => s10 _ _ (s9 _ _ (S58 _ _ (B04 b o e hb)))
    refine ⟨_, rfl, rfl, _, rfl, ?_⟩
    refine itek (fun _ => ?_) (fun _ => ?_)
    · -- a sign
      refine ⟨_, rfl, _, rfl, z, rfl, by omega, _, _, rfl, rfl, m, cl, gl, _, _, rfl, M4, by omega, by omega, by omega, fun a1 H5 a0 a3 M5 B5 => ?_⟩
      refine ⟨_, rfl, m, cl, gl, 6, _, rfl, M5, by omega, by decide, by decide, fun r H6 r0 r6 M6 B6 => ?_⟩
      obtain ⟨c, hc, _⟩ := atI_some (xs := (" \n0a-/" : Str).cps.toList) r0 (by
        rw [show (" \n0a-/" : Str).cps.toList.length = 6 from by decide +kernel]
        exact r6)
      refine ⟨_, _, _, rfl, rfl, (by decide +kernel), hc, _, _, rfl, ?_⟩
      refine ⟨_, rfl, _, rfl, _, rfl, z, rfl, by omega, _, rfl, _, _, rfl, rfl, ?_, ?_⟩
      · have h1 := cutS_length z none (some a1)
        show (cutS z none (some a1)).length + (Str.mk #[c]).length ≤ sizeLine
        have h2 : (Str.mk #[c]).length = 1 := rfl
        omega
      refine ⟨_, rfl, _, rfl, _, rfl, m, cl, gl, 2, _, rfl, M6, by omega, by decide, by decide, fun r2 H7 r20 r22 M7 B7 => ?_⟩
      refine ⟨_, _, rfl, rfl, _, rfl, z, rfl, by omega, _, _, rfl, rfl, ?_, ?_⟩
      · have h1 := cutS_length z none (some a1)
        have h2 := cutS_length z (some (a1 + r2)) none
        rw [Str.length_append]
        have h3 : (Str.mk #[c]).length = 1 := rfl
        rw [h3]
        omega
      · have h1 := cutS_length z none (some a1)
        have h2 := cutS_length z (some (a1 + r2)) none
        have h3 : (Str.mk #[c]).length = 1 := rfl
        refine q _ _ ?_ (M7.le (by omega)) (tr (tr (tr B04 B5) B6) B7)
        rw [Str.length_append, Str.length_append, h3]
        omega
    -- the words of a line
    have hspl : sp < ls.length := by omega
    have hgl : ls[sp]? = some ls[sp] := List.getElem?_eq_getElem hspl
    have hmem : ls[sp] ∈ ls := List.getElem_mem hspl
    generalize ls[sp] = ln at *
    have hll := line_le ln hmem
    have ww := wt_split ln sp_len
    have wpos : 1 ≤ (Txt.split ln " ").length := split_pos ln " "
    have wlen := wt_len (Txt.split ln " ")
    refine ⟨_, rfl, _, rfl, la, _, _, V.str ln, rfl, rfl, SqL.of e4, atI_nat (by rw [List.getElem?_map, hgl]; rfl), ⟨_, rfl⟩, ln, _, rfl, rfl, (by decide +kernel), by omega, fun wa nwa => ?_⟩
    have s5 := same_upd (o := .lst ((Txt.split ln " ").map V.str)) nwa
    have e5 : upd H4 wa (.lst ((Txt.split ln " ").map V.str)) wa = some (.lst ((Txt.split ln " ").map V.str)) := upd_same
    generalize Txt.split ln " " = ws at *
    generalize upd H4 wa (.lst (ws.map V.str)) = H5 at *
    obtain ⟨cs4, gs4, n4, em4, ec4, _, eg4, _⟩ := M4.ex
    have nwm : wa ≠ m := (ne_of_none em4 nwa).symm
    have nwg : wa ≠ gl := (ne_of_none eg4 nwa).symm
    have kw : ∀ {H2 H3 : Hp}, Bt [m, gl] H2 H3 → H2 wa = some (.lst (ws.map V.str)) → H3 wa = some (.lst (ws.map V.str)) := fun B e => B _ _ e fun y => by
      rcases List.mem_cons.mp y with y | y
      · exact nwm y
      · exact nwg (List.mem_singleton.mp y)
    have ela5 := s5 _ _ e4
    have B05 : Bt [m, gl] H H5 := fun b o e hb => s5 _ _ (B04 b o e hb)
    refine ⟨_, rfl, _, rfl, wa, _, rfl, .inl (SqL.of e5), _, _, rfl, rfl, m, cl, gl, _, _, rfl, M4.same s5, by omega, ?_, ?_, fun pl H6 p0 p3 M6 B6 => ?_⟩
    · omega
    · rw [List.length_map]
      omega
    refine ⟨_, rfl, m, cl, gl, 2, _, rfl, M6, by omega, by decide, by decide, fun mr H7 r0 r3 M7 B7 => ⟨_, _, rfl, ?_⟩⟩
    have e7 := kw B7 (kw B6 e5)
    have ela7 := kl B7 (kl B6 ela5)
    have B07 := tr (tr B05 B6) B7
    refine ⟨(by show 15 ≤ sizeLine; decide), fun so nso => ?_⟩
    have s8 := same_upd (o := .lst (someL.map V.str)) nso
    have e8 : upd H7 so (.lst (someL.map V.str)) so = some (.lst (someL.map V.str)) := upd_same
    show gName 11 _ _ (upd H7 so (.lst (someL.map V.str))) _
    have M8 := M7.same s8
    generalize upd H7 so (.lst (someL.map V.str)) = H8 at *
    refine ⟨_, rfl, (by show 1 ≤ sizeLine; decide), fun p9 np9 => ?_⟩
    have s9 := same_upd (o := .lst (lastL.map V.str)) np9
    have e9 : upd H8 p9 (.lst (lastL.map V.str)) p9 = some (.lst (lastL.map V.str)) := upd_same
    refine ⟨so, p9, _, _, rfl, rfl, s9 _ _ e8, e9, (by show 16 ≤ sizeLine; decide), fun p10 np10 => ?_⟩
    have s10 := same_upd (o := .lst (someL.map V.str ++ lastL.map V.str)) np10
    have e10 : upd (upd H8 p9 (.lst (lastL.map V.str))) p10 (.lst (someL.map V.str ++ lastL.map V.str)) p10 = some (.lst ((someL ++ lastL).map V.str)) := by rw [upd_same, List.map_append]
    have S810 := (s8.trans s9).trans s10
    have M10 := M8.same (s9.trans s10)
    obtain ⟨cs8, gs8, n8, em8, ec8, _, eg8, _⟩ := M8.ex
    have n10m : p10 ≠ m := (ne_of_none (s9 _ _ em8) np10).symm
    have n10g : p10 ≠ gl := (ne_of_none (s9 _ _ eg8) np10).symm
    refine ⟨_, rfl, m, cl, gl, 16, _, rfl, M10, by omega, by decide, by decide, fun tq H11 q0 q3 M11 B11 => ?_⟩
    have e11 : H11 p10 = some (.lst ((someL ++ lastL).map V.str)) := B11 _ _ e10 fun y => by
      rcases List.mem_cons.mp y with y | y
      · exact n10m y
      · exact n10g (List.mem_singleton.mp y)
    obtain ⟨th, hth, hmt⟩ := atI_some (xs := (someL ++ lastL).map V.str) q0 q3
    obtain ⟨tx, htx, rfl⟩ := List.mem_map.mp hmt
    have ltx := thing_len tx htx
    have ew := kw B11 (S810 _ _ e7)
    have el := kl B11 (S810 _ _ ela7)
    have B011 : Bt [m, gl] H H11 := fun b o e hb => B11 _ _ (S810 _ _ (B07 b o e hb)) hb
    refine ⟨p10, _, _, _, rfl, rfl, SqL.of e11, hth, ?_⟩
    obtain ⟨pn, rfl⟩ := Int.eq_ofNat_of_zero_le p0
    obtain ⟨mn, rfl⟩ := Int.eq_ofNat_of_zero_le r0
    refine ⟨_, rfl, _, rfl, _, rfl, wa, _, rfl, SqL.of ew, fun p12 np12 => ?_⟩
    rw [cut_to]
    have s12 := same_upd (o := .lst ((ws.take (min pn ws.length)).map V.str)) np12
    have e12 : upd H11 p12 (.lst ((ws.take (min pn ws.length)).map V.str)) p12 = some (.lst ((ws.take (min pn ws.length)).map V.str)) := upd_same
    generalize upd H11 p12 (.lst ((ws.take (min pn ws.length)).map V.str)) = H12 at *
    refine ⟨_, rfl, (by show 1 ≤ sizeLine; decide), fun p13 np13 => ?_⟩
    have s13 := same_upd (o := .lst [.str tx]) np13
    have e13 : upd H12 p13 (.lst [.str tx]) p13 = some (.lst [.str tx]) := upd_same
    generalize upd H12 p13 (.lst [.str tx]) = H13 at *
    refine ⟨_, rfl, _, _, rfl, rfl, .inr ⟨_, rfl, ?_⟩⟩
    have rw0 : ∀ b : Bool, ∃ k : Nat, (if b = true then (1 : Int) else 0) = (k : Int) ∧ k ≤ 1 := fun b => by
      cases b
      · exact ⟨0, rfl, by decide⟩
      · exact ⟨1, rfl, by decide⟩
    obtain ⟨kk, ek, hkk⟩ := rw0 (decide (4 < way))
    refine ⟨p13, _, _, rfl, (congrArg V.int ek), e13, by omega, by omega, ?_, fun p14 np14 => ?_⟩
    · show 1 * (kk : Int).toNat ≤ sizeLine
      rw [Int.toNat_natCast]
      omega
    rw [Int.toNat_natCast, rep_map]
    have s14 := same_upd (o := .lst ((List.replicate kk [tx]).flatten.map V.str)) np14
    have e14 : upd H13 p14 (.lst ((List.replicate kk [tx]).flatten.map V.str)) p14 = some (.lst ((List.replicate kk [tx]).flatten.map V.str)) := upd_same
    generalize upd H13 p14 (.lst ((List.replicate kk [tx]).flatten.map V.str)) = H14 at *
    have wr := wt_rep kk tx
    have wrl := wt_len (List.replicate kk [tx]).flatten
    have wr2 : kk * (tx.length + 1) ≤ 1 * (9 + 1) := Nat.mul_le_mul hkk (by omega)
    refine ⟨p12, p14, _, _, rfl, rfl, s14 _ _ (s13 _ _ e12), e14, ?_, fun p15 np15 => ?_⟩
    · rw [List.length_map, List.length_map, List.length_take]
      omega
    rw [← List.map_append]
    have s15 := same_upd (o := .lst ((ws.take (min pn ws.length) ++ (List.replicate kk [tx]).flatten).map V.str)) np15
    have e15 : upd H14 p15 (.lst ((ws.take (min pn ws.length) ++ (List.replicate kk [tx]).flatten).map V.str)) p15 = some (.lst ((ws.take (min pn ws.length) ++ (List.replicate kk [tx]).flatten).map V.str)) := upd_same
    generalize upd H14 p15 (.lst ((ws.take (min pn ws.length) ++ (List.replicate kk [tx]).flatten).map V.str)) = H15 at *
    have S15 := ((s12.trans s13).trans s14).trans s15
    refine ⟨_, rfl, _, rfl, _, rfl, _, _, rfl, rfl, _, rfl, wa, _, rfl, SqL.of (S15 _ _ ew), fun p16 np16 => ?_⟩
    have ec2 : cutV (ws.map V.str) (some ((pn : Int) + (mn : Int))) none = (ws.drop (min (pn + mn) ws.length)).map V.str := cut_of ws (pn + mn)
    rw [ec2]
    have s16 := same_upd (o := .lst ((ws.drop (min (pn + mn) ws.length)).map V.str)) np16
    refine ⟨p15, p16, _, _, rfl, rfl, s16 _ _ e15, upd_same, ?_, fun p17 np17 => ?_⟩
    · rw [List.length_map, List.length_map, List.length_append, List.length_take, List.length_drop]
      omega
    rw [← List.map_append]
    obtain ⟨nw, enw⟩ : ∃ nw, nw = ws.take (min pn ws.length) ++ (List.replicate kk [tx]).flatten ++ ws.drop (min (pn + mn) ws.length) := ⟨_, rfl⟩
    rw [← enw]
    have wnw : wt nw ≤ z.length + 1 + 10 := by
      rw [enw, wt_app, wt_app, wr]
      have := wt_cut (ls := ws) (n := min pn ws.length) (m := min (pn + mn) ws.length) (by omega)
      omega
    have s17 := same_upd (o := .lst (nw.map V.str)) np17
    have e17 : upd (upd H15 p16 (.lst ((ws.drop (min (pn + mn) ws.length)).map V.str))) p17 (.lst (nw.map V.str)) p17 = some (.lst (nw.map V.str)) := upd_same
    generalize upd (upd H15 p16 (.lst ((ws.drop (min (pn + mn) ws.length)).map V.str))) p17 (.lst (nw.map V.str)) = H17 at *
    have S17 := (S15.trans s16).trans s17
    have el17 := S17 _ _ el
    have M17 := M11.same S17
    have B017 : Bt [m, gl] H H17 := fun b o e hb => S17 _ _ (B011 b o e hb)
    -- the lines, once more
    refine ⟨⟨_, rfl⟩, _, rfl, _, rfl, _, rfl, la, _, rfl, SqL.of el17, fun p18 np18 => ?_⟩
    rw [cut_to]
    have s18 := same_upd (o := .lst ((ls.take (min sp ls.length)).map V.str)) np18
    have e18 : upd H17 p18 (.lst ((ls.take (min sp ls.length)).map V.str)) p18 = some (.lst ((ls.take (min sp ls.length)).map V.str)) := upd_same
    generalize upd H17 p18 (.lst ((ls.take (min sp ls.length)).map V.str)) = H18 at *
    refine ⟨⟨_, rfl⟩, _, rfl, _, p17, nw, rfl, rfl, .inl (SqL.of (s18 _ _ e17)), ?_, (by show 1 ≤ sizeLine; decide), fun p19 np19 => ?_⟩
    · show _ + _ * (" " : Str).length ≤ _
      rw [sp_len, Nat.mul_one]
      show wt nw ≤ _
      omega
    have lj := wt_join sp_len nw
    generalize Txt.join " " nw = jw at *
    have s19 := same_upd (o := .lst [.str jw]) np19
    have e19 : upd H18 p19 (.lst [.str jw]) p19 = some (.lst [.str jw]) := upd_same
    generalize upd H18 p19 (.lst [.str jw]) = H19 at *
    refine ⟨p18, p19, _, _, rfl, rfl, s19 _ _ e18, e19, ?_, fun p20 np20 => ?_⟩
    · rw [List.length_map, List.length_take]
      show _ + 1 ≤ _
      omega
    rw [show (ls.take (min sp ls.length)).map V.str ++ [V.str jw] = (ls.take (min sp ls.length) ++ [jw]).map V.str from by rw [List.map_append]; rfl]
    have s20 := same_upd (o := .lst ((ls.take (min sp ls.length) ++ [jw]).map V.str)) np20
    have e20 : upd H19 p20 (.lst ((ls.take (min sp ls.length) ++ [jw]).map V.str)) p20 = some (.lst ((ls.take (min sp ls.length) ++ [jw]).map V.str)) := upd_same
    generalize upd H19 p20 (.lst ((ls.take (min sp ls.length) ++ [jw]).map V.str)) = H20 at *
    have S20 := (s18.trans s19).trans s20
    refine ⟨_, rfl, _, rfl, _, _, rfl, rfl, _, rfl, la, _, rfl, SqL.of (S20 _ _ el17), fun p21 np21 => ?_⟩
    have ec1 : cutV (ls.map V.str) (some ((sp : Int) + 1)) none = (ls.drop (min (sp + 1) ls.length)).map V.str := cut_of ls (sp + 1)
    rw [ec1]
    have s21 := same_upd (o := .lst ((ls.drop (min (sp + 1) ls.length)).map V.str)) np21
    refine ⟨p20, p21, _, _, rfl, rfl, s21 _ _ e20, upd_same, ?_, fun p22 np22 => ?_⟩
    · rw [List.length_map, List.length_map, List.length_append, List.length_take, List.length_drop]
      show _ + 1 + _ ≤ _
      omega
    rw [← List.map_append]
    have s22 := same_upd (o := .lst ((ls.take (min sp ls.length) ++ [jw] ++ ls.drop (min (sp + 1) ls.length)).map V.str)) np22
    have hw := wt_cut (ls := ls) (n := min sp ls.length) (m := min (sp + 1) ls.length) (by omega)
    have hj := wt_join nl_len (ls.take (min sp ls.length) ++ [jw] ++ ls.drop (min (sp + 1) ls.length))
    have ha := wt_app (ls.take (min sp ls.length) ++ [jw]) (ls.drop (min (sp + 1) ls.length))
    rw [wt_app (ls.take (min sp ls.length)), wt_cons] at ha
    have hn : wt ([] : List Str) = 0 := rfl
    refine ⟨_, p22, ls.take (min sp ls.length) ++ [jw] ++ ls.drop (min (sp + 1) ls.length), rfl, rfl, .inl (SqL.of upd_same), ?_, ?_⟩
    · show _ + _ * ("\n" : Str).length ≤ _
      rw [nl_len, Nat.mul_one]
      show wt _ ≤ _
      omega
    · exact q _ _ (by omega) ((M17.same ((S20.trans s21).trans s22)).le (by omega)) fun b o e hb => s22 _ _ (s21 _ _ (S20 _ _ (B017 b o e hb)))
end
end KD32
end L2
set_option Elab.async false
set_option linter.all false
set_option maxRecDepth 100000
set_option maxHeartbeats 4000000
/-! k92: law -/
namespace L2
namespace KD33
open PySem PySem.Spec PyProof.Rows LamX NdefX KB KN KH KL KR KM KX KD1 KD2 KD3 KD4 KD5 KD6 KD7 KMa KD8 KD9 KD10 KD11 KD12 KD13 KD14 KD15 KMb KD16 KMc KD18 KD19 KD20 KD21 KD22 KD23 KD24 KD25 KMd KD26 KD27 KD28 KD29 KD30 KD31 KD32
abbrev s_law : Stmt := top 67
theorem ma_kp {T : Tb} {H H' : Hp} {m cl gl : Addr} {S : Nat} (h : MA H m cl gl S) (k : Kp T H H') : MA H' m cl gl S := by
  obtain ⟨cs, gs, n, e1, e2, e3, e4, e5, e6⟩ := h.ex
  exact ⟨⟨cs, gs, n, k.1 _ _ e1 (fun _ z => by cases z), k.lst e2, e3, k.lst e4, e5, e6⟩, h.ne⟩
theorem tabs_ma {T : Tb} {H H' : Hp} {m cl gl : Addr} {S : Nat} (h : MA H m cl gl S) (t : Tabs T H) (B : Bt [m, gl] H H') : Tabs T H' := fun p hp => by
  obtain ⟨ps, h1, h2, h3⟩ := t p hp
  obtain ⟨cs, gs, n, e1, e2, e3, e4, e5, e6⟩ := h.ex
  have out : ∀ {b : Addr} {o : HO}, H b = some o → (∀ kvs, o ≠ .dK kvs) → (∀ xs, o ≠ .lst xs) → b ∉ [m, gl] := fun {b o} e n1 n2 z => by
    rcases List.mem_cons.mp z with z | z
    · rw [z, e1] at e
      exact n1 _ (Option.some.inj e).symm
    · rw [List.mem_singleton.mp z, e4] at e
      exact n2 _ (Option.some.inj e).symm
  refine ⟨ps, B _ _ h1 (out h1 (fun _ z => by cases z) fun _ z => by cases z), h2, fun q c hc => ?_⟩
  obtain ⟨c', x1, x2⟩ := h3 q c hc
  exact ⟨c', x1, B _ _ x2 (out x2 (fun _ z => by unfold CodeO at z; cases z) fun _ z => by unfold CodeO at z; cases z)⟩
/-- how long a text may be after j bends -/
def bnd : Nat → Nat
  | 0 => 620
  | j + 1 => 3 * bnd j + 20
theorem bnd_le {j : Nat} (h : j < 5) : bnd j ≤ 100000 := by
  have e : j = 0 ∨ j = 1 ∨ j = 2 ∨ j = 3 ∨ j = 4 := by omega
  rcases e with rfl | rfl | rfl | rfl | rfl <;> decide
/-! ### the texts -/
abbrev someA : List Str := [
  "",
  "\n",
  " ",
  "folder",
  "folder ",
  "folder a",
  "folder a ",
  "folder a b",
  "folder -",
  "folder a\nfolder a"]
abbrev someB : List Str := [
  "folder b\nfolder a",
  "file a 0",
  "file a 0\nword 0 x",
  "file a",
  "file a 0 0"]
abbrev someC : List Str := [
  "file a/b 0\nword 0 x",
  "file a 10000",
  "file a 00",
  "Folder a"]
abbrev someD : List Str := [
  "folder a\nfile a/b 0\nword 0 x",
  "folder a\nfile b 0\nfile a/c 0\nword 0 x",
  "word 0 x",
  "word 0"]
abbrev someE : List Str := [
  "file a 0\nword 0 x\nword 0 x",
  "file a 0\nword 0 x\nfolder b",
  "file a 0\nword 0 x y"]
abbrev someF : List Str := [
  "file a 0\nword 0 X",
  "file a 100\nword 100 x",
  "file a 0\nword 1 x",
  "folder abcdefghi"]
abbrev deepL : List Str := ["folder a", "folder a/a", "folder a/a/a", "folder a/a/a/a", "folder a/a/a/a/a", "folder a/a/a/a/a/a"]
abbrev deepM : Str := "\nfolder a/a/a/a/a/a/a"
abbrev lastZ : Str := "file a 0\nfile b 1\nword 1 x\nword 0 y"
def deepZ : Str := Txt.join "\n" deepL
theorem deep_len : deepZ.length ≤ 1000 := by decide +kernel
theorem deep_read : (match readM deepZ with
  | .ok (r, ps) => ps.isEmpty && isTreeB r ps
  | .error _ => false) = true := by decide +kernel
theorem deep_ok : ∃ root, readM deepZ = .ok (root, []) ∧ isTreeB root [] = true := by
  have h := deep_read
  cases e : readM deepZ with
  | error x =>
    rw [e] at h
    cases h
  | ok x =>
    obtain ⟨r, ps⟩ := x
    rw [e] at h
    obtain ⟨h1, h2⟩ := Bool.and_eq_true_iff.mp (show (ps.isEmpty && isTreeB r ps) = true from h)
    obtain rfl : ps = [] := List.isEmpty_iff.mp h1
    exact ⟨r, rfl, h2⟩
abbrev dueZ : Str := "file a 0\nword 0 x"
theorem due_read : (match readM dueZ with
  | .ok _ => true
  | .error _ => false) = true := by decide +kernel
theorem due_ok : ∃ root ps, readM dueZ = .ok (root, ps) := by
  have h := due_read
  cases e : readM dueZ with
  | error x =>
    rw [e] at h
    cases h
  | ok x => exact ⟨x.1, x.2, rfl⟩
theorem rep_join : ∀ i : Nat, i < 6 → deepL[i]? = some (("folder " : Str) ++ Txt.join "/" (List.replicate (1 + i) [("a" : Str)]).flatten) := by decide +kernel
theorem rep_size : ∀ i : Nat, i < 6 → ((List.replicate (1 + i) [("a" : Str)]).flatten.map (·.length)).sum + (List.replicate (1 + i) [("a" : Str)]).flatten.length * ("/" : Str).length ≤ 16777216 ∧ ("folder " : Str).length + (Txt.join "/" (List.replicate (1 + i) [("a" : Str)]).flatten).length ≤ 1000 := by decide +kernel
theorem deep_size : (deepL.map (·.length)).sum + deepL.length * ("\n" : Str).length ≤ 16777216 := by decide +kernel
abbrev someG : List Str := someA ++ someB ++ someC ++ someD ++ someE ++ someF
theorem some_len : ∀ z ∈ someG, z.length ≤ 1000 := by decide +kernel
/-- some + [..] -/
theorem cat_more {H : Hp} {a : Addr} {xs ys : List Str} {Q : VK} (e : H a = some (.lst (xs.map V.str))) (h1 : ys.length ≤ sizeLine) (h2 : (xs.map V.str).length + (ys.map V.str).length ≤ sizeLine)
    (q : ∀ a' H', Same H H' → H' a' = some (.lst ((xs ++ ys).map V.str)) → Q (.ref a') H') :
    (ys.map V.str).length ≤ sizeLine ∧ ∀ p, H p = none → rCat (.ref a) (.ref p) (upd H p (.lst (ys.map V.str))) Q := by
  refine ⟨by rw [List.length_map]; exact h1, fun p np => ?_⟩
  have s1 := same_upd (o := .lst (ys.map V.str)) np
  refine ⟨a, p, _, _, rfl, rfl, s1 _ _ e, upd_same, h2, fun p2 np2 => ?_⟩
  exact q p2 _ (s1.upd np2) (by rw [upd_same, List.map_append])
abbrev rAddS : R2 := fun x y H Q => ∃ i j, x = .str i ∧ y = .str j ∧ i.length + j.length ≤ sizeLine ∧ Q (.str (i ++ j)) H
theorem op_adds {X : Cx} : OpR X (binaryOp .Add) rAddS := op_add_str
/-- sep.join(list or tuple of texts) -/
def tJn (K : PySem.W.Frag) (to te : TE) : TE := tM1 (fun x xs H Q => ∃ a p, ∃ ys : List Str, x = .str a ∧ xs = [.ref p] ∧ (SqL K H p (ys.map V.str) ∨ SqT K H p (ys.map V.str)) ∧ (ys.map (·.length)).sum + ys.length * a.length ≤ 16777216 ∧ Q (.str (Txt.join a ys)) H) to te
theorem pe_jn {X : Cx} {o e : Expr} {to te : TE} {apos pos : Pos} (ho : PE X o to) (he : PE X e te) (hs : starEach [e] X.env = [(false, eval e X.env)] := by rfl) (hbase : attributeBase o "join" X.env (eval o X.env) = eval o X.env := by rfl) (hline : (apos.endLine == pos.line) = true := by rfl) :
    PE X (.Call (.Attribute o "join" apos) [e] [] pos) (tJn X.K to te) := pe_join ho he hs hbase hline
section
variable {P : Program} {w : World} {K : PySem.W.Frag} {mg : Str → Option Value} {base : Heap} {f : Addr} {fd0 : FuncData} {T : Tb} {CB CT : Addr}
def spLaw (K : PySem.W.Frag) (T : Tb) : Sp := fun vs H Q _ => ∃ (a : Addr) (ns : List Int), vs = [.ref a] ∧ SqL K H a (ns.map V.int) ∧ ns.length ≤ 63 ∧ Tabs T H ∧ ∀ H', Q (.bl true) H'
abbrev nLaw : List Str := ["_law_script", "_law_m", "_law_turn", "_law_text", "_law_again", "_law_odd", "_law_some", "_law_deep", "_law_k"]
theorem sc_law : FnScope nLaw ["_law_script"] (defScope s_law) := ⟨rfl, rfl, rfl, by decide +kernel, rfl, by decide +kernel, by decide +kernel⟩
theorem ok_law (X : Tx mg) (cB : Ca CX0 P w K mg base 2 "_law_begun" ["_law_script"] (spBegun K)) (cTr : Ca CX0 P w K mg base 6 "_law_tree" ["_law_m", "_law_most"] spLTree) (cTT : Ca CX0 P w K mg base 25 "tree_text" ["tree"] (spTreeText T))
    (cR : CaG P w K mg base 28 "_law_right" ["_law_text"] (spRight T)) (cBe : Ca CX0 P w K mg base 3 "_law_bent" ["_law_m", "_law_text"] spBent) (cRd : Ca (L2.CX P w) P w K mg base 25 "read_tree" ["text"] (spRead K T CB CT)) (cD : Ca CX0 P w K mg base 10 "_law_due" ["_law_text"] (spDue K))
    (F : Fun K "law" "law" s_law f fd0) : FnG P w K mg base 29 f fd0 ["_law_script"] (spLaw K T) := by
  refine F.okG sc_law (fun vs H Q E h => ?_) (fun cdv A outer s H vs Q E hG hr h => ?_)
  · obtain ⟨a, ns, rfl, _⟩ := h
    rfl
  · obtain ⟨a, ns, rfl, ha, hl, hT, q⟩ := h
    have hr2 : Room 2 _ := hr.mono (by decide)
    have hr3 : Room 3 _ := hr.mono (by decide)
    have hr6 : Room 6 _ := hr.mono (by decide)
    have hr10 : Room 10 _ := hr.mono (by decide)
    have hr25 : Room 25 _ := hr.mono (by decide)
    have hu := hu_of hr
    have nd := sc_law.nd
    refine ⟨_, (pss_cons (ps_set (i := 1) nd rfl (Or.inl rfl) (pe_ca cB hr2 (by rfl) (pa_cons (pv 0) pa_nil)))
      (pss_cons (ps_for PassesOwn.never rfl (pi_range1 (by rfl) (X.b "range") (pa_cons (pe_op op_add pe_int (pe_callB (call_min2 rfl) (by rfl) (X.b "min") (by decide +kernel) (pa_cons pe_int (pa_cons (pe_callB call_len_seq (by rfl) (X.b "len") PySem.boot_len (pa_cons (pv 0) pa_nil)) pa_nil)))) pa_nil)) (pg_name (i := 2) nd rfl (Or.inl rfl))
        (pss_cons (ps_set (i := 3) nd rfl (Or.inl rfl) (pe_ca cTT hr25 (by rfl) (pa_cons (pe_ca cTr hr6 (by rfl) (pa_cons (pv 1) (pa_cons pe_int pa_nil))) pa_nil)))
      (pss_one (ps_for PassesOwn.never rfl (pi_range1 (by rfl) (X.b "range") (pa_cons pe_int pa_nil)) (pg_name (i := 4) nd rfl (Or.inl rfl))
        (pss_cons (ps_if (pt_not (pt_val (pe_caG cR hG hr (by rfl) (pa_cons (pv 3) pa_nil)))) (pss_one (ps_ret pe_bl)) pss_nil)
      (pss_one (ps_set (i := 3) nd rfl (Or.inl rfl) (pe_ca cBe hr3 (by rfl) (pa_cons (pv 1) (pa_cons (pv 3) pa_nil))))))))))
      (pss_cons (ps_for PassesOwn.never rfl (pi_tup (pe_tup (pa_cons pe_non (pa_cons pe_int (pa_cons pe_bl (pa_cons (pe_tup (pa_cons pe_str pa_nil)) (pa_cons (pe_lst (pa_cons pe_str pa_nil)) (pa_cons pe_dnewK pa_nil)))))))) (pg_name (i := 5) nd rfl (Or.inl rfl))
        (pss_one (ps_if (pt_not (pt_val (pe_caG cR hG hr (by rfl) (pa_cons (pv 5) pa_nil)))) (pss_one (ps_ret pe_bl)) pss_nil)))
      (pss_cons (ps_set (i := 6) nd rfl (Or.inl rfl) (pe_lst (pa_cons pe_str (pa_cons pe_str (pa_cons pe_str (pa_cons pe_str (pa_cons pe_str (pa_cons pe_str (pa_cons pe_str (pa_cons pe_str (pa_cons pe_str (pa_cons pe_str pa_nil))))))))))))
      (pss_cons (ps_set (i := 6) nd rfl (Or.inl rfl) (pe_op op_cat (pv 6) (pe_lst (pa_cons pe_str (pa_cons pe_str (pa_cons pe_str (pa_cons pe_str (pa_cons pe_str pa_nil))))))))
      (pss_cons (ps_set (i := 6) nd rfl (Or.inl rfl) (pe_op op_cat (pv 6) (pe_lst (pa_cons pe_str (pa_cons pe_str (pa_cons pe_str (pa_cons pe_str pa_nil)))))))
      (pss_cons (ps_set (i := 6) nd rfl (Or.inl rfl) (pe_op op_cat (pv 6) (pe_lst (pa_cons pe_str (pa_cons pe_str (pa_cons pe_str (pa_cons pe_str pa_nil)))))))
      (pss_cons (ps_set (i := 6) nd rfl (Or.inl rfl) (pe_op op_cat (pv 6) (pe_lst (pa_cons pe_str (pa_cons pe_str (pa_cons pe_str pa_nil))))))
      (pss_cons (ps_set (i := 6) nd rfl (Or.inl rfl) (pe_op op_cat (pv 6) (pe_lst (pa_cons pe_str (pa_cons pe_str (pa_cons pe_str (pa_cons pe_str pa_nil)))))))
      (pss_cons (ps_set (i := 7) nd rfl (Or.inl rfl) (pe_join pe_str (pe_lc (own := [("_law_k", 8)]) (g := gName 8) (tt := tYes) (te := tOp rAddS (tC (.str "folder ")) (tJn K (tC (.str "/")) (tOp rRep (tLst (tCons (tC (.str "a")) tNil)) (tVar 8)))) rfl nd (pi_range2 (by rfl) (X.b "range") (pa_cons pe_int (pa_cons pe_int pa_nil))) (blkOk_by (N := nLaw) (sc := defScope s_law) (by decide +kernel)) (fun _ _ _ _ _ => pg_name (i := 8) nd rfl (Or.inl rfl)) (fun _ _ _ _ _ => pts_nil) (fun _ _ _ _ _ => pe_op op_adds pe_str (pe_jn pe_str (pe_op op_rep (pe_lst (pa_cons pe_str pa_nil)) (pv 8)))))))
      (pss_cons (ps_set (i := 6) nd rfl (Or.inl rfl) (pe_op op_cat (pv 6) (pe_lst (pa_cons (pv 7) (pa_cons (pe_op op_add_str (pv 7) pe_str) (pa_cons pe_str pa_nil))))))
      (pss_cons (ps_if (pt_cmpR (op_neNil hr.units0) (pe_lc (own := [("_law_text", 3)]) (g := gName 3) rfl nd (pi_list (pv 6)) (blkOk_by (N := nLaw) (sc := defScope s_law) (by decide +kernel)) (fun _ _ _ _ _ => pg_name (i := 3) nd rfl (Or.inl rfl)) (fun _ _ _ _ _ => pts_one (pt_not (pt_val (pe_caG cR hG hr (by rfl) (pa_cons (pv 3) pa_nil))))) (fun _ _ _ _ _ => pv 3)) (pe_lst pa_nil) (nomark _)) (pss_one (ps_ret pe_bl)) pss_nil)
      (pss_one (ps_ret (pe_and (pe_cmpR (op_eqD hr.units) (pe_ix ix_tup (pe_caX cRd hr25 (by rfl) (fun σ => passAt takes0 σ) (pa_cons (pv 7) pa_nil)) pe_int (fun _ _ => rfl)) (pe_tup pa_nil) (nomark _)) (pe_one (pe_callB call_isi (by rfl) (X.b "isinstance") (by decide +kernel) (pa_cons (pe_ca cD hr10 (by rfl) (pa_cons pe_str pa_nil)) (pa_cons (pe_bltn (v := .ty "list") (by rfl) (X.b "list") (by decide +kernel) rfl) pa_nil))))))))))))))))))), ?_⟩
    have hsz := sizeLine_eq
    refine ⟨_, rfl, a, ns, rfl, ha, by omega, fun H1 m cl gl s1 M1 nm ncl ngl => ?_⟩
    have T1 : Tabs T H1 := hT.ext s1
    refine ⟨_, rfl, a, _, rfl, .inl (s1.seq ha), _, _, rfl, _, _, rfl, rfl, ?_⟩
    obtain ⟨N, eN, hN⟩ : ∃ N : Nat, (3 + if ((ns.map V.int).length : Int) < 6 then ((ns.map V.int).length : Int) else 6) = (N : Int) ∧ N ≤ 9 := by
      by_cases h : ((ns.map V.int).length : Int) < 6
      · exact ⟨3 + (ns.map V.int).length, by rw [if_pos h]; omega, by omega⟩
      · exact ⟨9, by rw [if_neg h]; rfl, Nat.le_refl _⟩
    refine ⟨(N : Int), congrArg (fun z => [V.int z]) eN, by omega, by omega, ?_⟩
    rw [Int.toNat_natCast]
    refine for_it (walk_range (lo := 0) (n := N)) (fun i σ H' => ∃ x2 x3 x4 : Option V, σ = [some (.ref a), some (.ref m), x2, x3, x4, none, none, none, none] ∧ MA H' m cl gl (i * 112) ∧ Tabs T H') ⟨none, none, none, rfl, by rw [Nat.zero_mul]; exact M1, T1⟩ (fun _ _ _ _ _ => True.intro) ?_ ?_
    · rintro i x σ H2 H3 hi ⟨x2, x3, x4, rfl, M2, T2⟩ ⟨rfl, rfl⟩
      refine ⟨_, rfl, m, cl, gl, _, rfl, M2, by omega, fun H4 v l ps M4 ht hok hsp hsa hse hc B4 => ?_⟩
      have T4 := tabs_ma M2 T2 B4
      refine ⟨v, _, ps, rfl, ht, hsa, hse, hc, hsp, hok, T4, fun z H5 hz k5 => ?_⟩
      have M5 := ma_kp M4 k5
      refine ⟨_, rfl, (by decide), (by decide), ?_⟩
      refine for_it (walk_range (lo := 0) (n := 5)) (fun j σ H' => ∃ (z : Str) (x4 : Option V), σ = [some (.ref a), some (.ref m), some (.int (0 + (i : Nat))), some (.str z), x4, none, none, none, none] ∧ z.length ≤ bnd j ∧ MA H' m cl gl (i * 112 + 82 + 6 * j) ∧ Tabs T H') ⟨z, x4, rfl, hz, M5, k5.2⟩ (fun _ _ _ _ _ => True.intro) ?_ ?_
      · rintro j y σ H6 H7 hj ⟨z1, x4, rfl, hz1, M6, T6⟩ ⟨rfl, rfl⟩
        have hb := bnd_le hj
        refine ⟨_, rfl, _, rfl, T6, .inr ⟨z1, rfl, by omega, sh_ansT (by omega)⟩, fun H8 k8 => ⟨true, rfl, iteF ?_⟩⟩
        refine ⟨_, rfl, _, rfl, m, cl, gl, _, z1, rfl, ma_kp M6 k8, by omega, by omega, fun H9 y9 hy9 M9 B9 => ?_⟩
        exact ⟨y9, _, rfl, Nat.le_trans hy9 (by show 3 * z1.length + 20 ≤ 3 * bnd j + 20; omega), M9.le (by omega), tabs_ma (ma_kp M6 k8) k8.2 B9⟩
      · rintro σ H6 ⟨z1, x4', rfl, hz1, M6, T6⟩
        exact ⟨_, _, _, rfl, M6.le (by omega), T6⟩
    rintro σ H2 ⟨x2, x3, x4, rfl, M2, T2⟩
    -- things that are no texts
    refine ⟨(by show 1 ≤ sizeLine; decide), fun t1 nt1 => ⟨(by show 1 ≤ sizeLine; decide), fun l1 nl1 d1 nd1 => ⟨(by show 6 ≤ sizeLine; decide), fun t0 nt0 => ⟨t0, rfl, ⟨_, SqT.of upd_same⟩, ?_⟩⟩⟩⟩
    have S3 := (((same_upd (o := .tup [.str "folder a"]) nt1).upd (o := .lst [.str "folder a"]) nl1).upd (o := .dK []) nd1).upd (o := .tup [.non, .int 5, .bl true, .ref t1, .ref l1, .ref d1]) nt0
    have et1 : upd (upd (upd (upd H2 t1 (.tup [.str "folder a"])) l1 (.lst [.str "folder a"])) d1 (.dK [])) t0 (.tup [.non, .int 5, .bl true, .ref t1, .ref l1, .ref d1]) t1 = some (.tup [.str "folder a"]) := same_upd nt0 _ _ (same_upd nd1 _ _ (same_upd nl1 _ _ upd_same))
    have el1 : upd (upd (upd (upd H2 t1 (.tup [.str "folder a"])) l1 (.lst [.str "folder a"])) d1 (.dK [])) t0 (.tup [.non, .int 5, .bl true, .ref t1, .ref l1, .ref d1]) l1 = some (.lst [.str "folder a"]) := same_upd nt0 _ _ (same_upd nd1 _ _ upd_same)
    have ed1 : upd (upd (upd (upd H2 t1 (.tup [.str "folder a"])) l1 (.lst [.str "folder a"])) d1 (.dK [])) t0 (.tup [.non, .int 5, .bl true, .ref t1, .ref l1, .ref d1]) d1 = some (.dK []) := same_upd nt0 _ _ upd_same
    have et0 : upd (upd (upd (upd H2 t1 (.tup [.str "folder a"])) l1 (.lst [.str "folder a"])) d1 (.dK [])) t0 (.tup [.non, .int 5, .bl true, .ref t1, .ref l1, .ref d1]) t0 = some (.tup [.non, .int 5, .bl true, .ref t1, .ref l1, .ref d1]) := upd_same
    have T3 := T2.ext S3
    refine for_it (walk_tup (K := K) (a := t0) (xs := [.non, .int 5, .bl true, .ref t1, .ref l1, .ref d1])) (fun i σ H' => ∃ x5 : Option V, σ = [some (.ref a), some (.ref m), x2, x3, x4, x5, none, none, none] ∧ Tabs T H' ∧ H' t1 = some (.tup [.str "folder a"]) ∧ H' l1 = some (.lst [.str "folder a"]) ∧ H' d1 = some (.dK []) ∧ H' t0 = some (.tup [.non, .int 5, .bl true, .ref t1, .ref l1, .ref d1]))
      ⟨none, rfl, T3, et1, el1, ed1, et0⟩ (fun i σ H' _ ⟨_, _, _, _, _, _, e⟩ => SqT.of e) ?_ ?_
    · rintro i x σ H3 H4 hi ⟨x5, rfl, T4, f1, f2, f3, f0⟩ ⟨rfl, hx⟩
      have hns : NS H4 x := by
        have h6 : i = 0 ∨ i = 1 ∨ i = 2 ∨ i = 3 ∨ i = 4 ∨ i = 5 := by
          have : i < 6 := hi
          omega
        rcases h6 with rfl | rfl | rfl | rfl | rfl | rfl
        · cases hx
          exact .inl rfl
        · cases hx
          exact .inr (.inl ⟨_, rfl⟩)
        · cases hx
          exact .inr (.inr (.inl ⟨_, rfl⟩))
        · cases hx
          exact .inr (.inr (.inr (.inl ⟨_, _, rfl, f1⟩)))
        · cases hx
          exact .inr (.inr (.inr (.inr (.inl ⟨_, _, rfl, f2⟩))))
        · cases hx
          exact .inr (.inr (.inr (.inr (.inr ⟨_, rfl, f3⟩))))
      refine ⟨_, rfl, _, rfl, T4, .inl ⟨hns, sh_ansN⟩, fun H5 k5 => ⟨true, rfl, iteF ?_⟩⟩
      exact ⟨_, rfl, k5.2, k5.tup f1, k5.lst f2, k5.1 _ _ f3 (fun _ z => by cases z), k5.tup f0⟩
    rintro σ H3 ⟨x5, rfl, T4, _⟩
    -- the texts
    refine ⟨(by show 10 ≤ sizeLine; decide), fun pA npA => ?_⟩
    have TA := T4.ext (same_upd (o := .lst (someA.map V.str)) npA)
    refine ⟨_, rfl, cat_more (ys := someB) (a := pA) (H := upd H3 pA (.lst (someA.map V.str))) (xs := someA) upd_same (by show 5 ≤ sizeLine; decide) (by show 15 ≤ sizeLine; decide) fun pB HB sB eB => ?_⟩
    refine ⟨_, rfl, cat_more (ys := someC) eB (by show 4 ≤ sizeLine; decide) (by show 19 ≤ sizeLine; decide) fun pC HC sC eC => ?_⟩
    refine ⟨_, rfl, cat_more (ys := someD) eC (by show 4 ≤ sizeLine; decide) (by show 23 ≤ sizeLine; decide) fun pD HD sD eD => ?_⟩
    refine ⟨_, rfl, cat_more (ys := someE) eD (by show 3 ≤ sizeLine; decide) (by show 26 ≤ sizeLine; decide) fun pE HE sE eE => ?_⟩
    refine ⟨_, rfl, cat_more (ys := someF) eE (by show 4 ≤ sizeLine; decide) (by show 30 ≤ sizeLine; decide) fun pF HF sF eF => ?_⟩
    have TF := ((((TA.ext sB).ext sC).ext sD).ext sE).ext sF
    -- the deep one
    refine ⟨⟨_, rfl⟩, 1, 7, rfl, ⟨(by decide), (by decide), (by decide), (by decide)⟩, fun D hD => ?_⟩
    refine lc_it (walk_range (lo := 1) (n := 6)) (fun i H' => Same HF H' ∧ H' D = some (.lst ((deepL.take i).map V.str))) ⟨same_upd hD, upd_same⟩ (fun _ _ _ _ => True.intro) ?_ ?_
    · rintro i x H5 H6 hi ⟨s5, e5⟩ ⟨rfl, rfl⟩
      obtain ⟨z1, z2⟩ := rep_size i hi
      refine ⟨rfl, ⟨_, rfl⟩, (by show 1 ≤ sizeLine; decide), fun p np => ⟨_, rfl, p, _, _, rfl, rfl, upd_same, by omega, by omega, ?_, fun p2 np2 => ?_⟩⟩
      · show 1 * _ ≤ sizeLine
        omega
      have ei : (1 + (i : Int)).toNat = 1 + i := by omega
      rw [ei, rep_map]
      have S6 := (same_upd (o := .lst [.str "a"]) np).upd (o := .lst ((List.replicate (1 + i) [("a" : Str)]).flatten.map V.str)) np2
      refine ⟨_, p2, (List.replicate (1 + i) [("a" : Str)]).flatten, rfl, rfl, .inl (SqL.of upd_same), z1, _, _, rfl, rfl, by omega, ?_⟩
      refine ⟨_, S6 _ _ e5, ?_, same_putD hD (s5.trans S6), ?_⟩
      · rw [List.length_map, List.length_take]
        exact big8 (by show min i 6 ≤ 1000; omega)
      · rw [upd_same, take_more (rep_join i hi), List.map_append]
        rfl
    rintro H5 ⟨s5, e5⟩
    refine ⟨_, D, deepL, rfl, rfl, .inl (SqL.of e5), deep_size, ?_⟩
    obtain ⟨root, hrd, htr⟩ := deep_ok
    have hdl := deep_len
    show gName 7 (.str deepZ) _ H5 _
    generalize deepZ = dz at *
    have eF5 := s5 _ _ eF
    have T5 := TF.ext s5
    refine ⟨_, rfl, _, rfl, _, rfl, _, _, rfl, rfl, ?_, cat_more (ys := [dz, dz ++ deepM, lastZ]) eF5 (by show 3 ≤ sizeLine; decide) (by show 33 ≤ sizeLine; decide) fun pG HG sG eG => ?_⟩
    · have : deepM.length ≤ 100 := by decide +kernel
      show dz.length + deepM.length ≤ sizeLine
      omega
    have TG := T5.ext sG
    have hL : ∀ z ∈ someG ++ [dz, dz ++ deepM, lastZ], z.length ≤ 100000 := fun z hz => by
      rcases List.mem_append.mp hz with hz | hz
      · have := some_len z hz
        omega
      · have h1 : deepM.length ≤ 100 := by decide +kernel
        have h2 : lastZ.length ≤ 100 := by decide +kernel
        rcases List.mem_cons.mp hz with rfl | hz
        · omega
        · rcases List.mem_cons.mp hz with rfl | hz
          · rw [Str.length_append]
            omega
          · rw [List.mem_singleton.mp hz]
            omega
    refine ⟨_, rfl, pG, rfl, ⟨_, SqL.of eG⟩, fun D2 hD2 => ?_⟩
    refine lc_it (walk_list (K := K) (a := pG) (xs := (someG ++ [dz, dz ++ deepM, lastZ]).map V.str)) (fun i H' => Kp T HG H' ∧ H' D2 = some (.lst [])) ⟨kp_same (same_upd hD2) TG, upd_same⟩ (fun i H' _ q => SqL.of (q.1.lst eG)) ?_ ?_
    · rintro i x H7 H8 hi ⟨k7, e7⟩ ⟨rfl, hx⟩
      obtain ⟨z, hz, rfl⟩ := map_at hx
      have hlz := hL z (List.mem_of_getElem? hz)
      refine ⟨rfl, _, rfl, _, rfl, k7.2, .inr ⟨z, rfl, by omega, sh_ansT hlz⟩, fun H9 k9 => ⟨true, rfl, iteF ?_⟩⟩
      exact ⟨k7.trans k9, k9.lst e7⟩
    rintro H7 ⟨k7, e7⟩
    refine ⟨Nat.zero_le _, fun p8 np8 => ?_⟩
    have s8 := same_upd (o := .lst []) np8
    have T8 := k7.2.ext s8
    refine ⟨D2, p8, _, rfl, rfl, SqL.of (s8 _ _ e7), SqL.of upd_same, _, rfl, iteF ?_⟩
    -- the end
    obtain ⟨rd, pd, hdue⟩ := due_ok
    have hdz : dueZ.length ≤ 1000 := by decide +kernel
    refine ⟨_, rfl, _, rfl, T8, .inr ⟨dz, rfl, by omega, fun k e he => ?_, fun root' ps' hok => ⟨fun _ H9 u k9 tr => ?_, fun b => ?_⟩⟩⟩
    · rw [hrd] at he
      cases he
    · have e := hrd.symm.trans hok
      cases e
      obtain ⟨a9, b9, r9, items, rfl, e1, hn, e2, hp⟩ := tr
      cases hp
      refine ⟨a9, _, _, _, rfl, rfl, SqT.of e1, at1, Nat.zero_le _, fun t9 nt9 => ?_⟩
      have s9 := same_upd (o := .tup []) nt9
      refine ⟨_, _, .tup (SqT.of (s9 _ _ e2)) .nil, .tup (SqT.of upd_same) .nil, (by decide +kernel), (by decide +kernel), true, rfl, iteT ?_⟩
      refine ⟨_, rfl, .inr ⟨dueZ, rfl, by omega, fun k e he => ?_, fun root2 ps2 ok2 H10 l u2 s10 el tr2 => ?_⟩⟩
      · rw [hdue] at he
        cases he
      · exact ⟨_, _, .type "list", .type "list", true, rfl, .ty "list", .base (.lst el), kit_ty (by decide +kernel), q _⟩
    · have e := hrd.symm.trans hok
      cases e
      rw [htr] at b
      cases b
end
end KD33
end L2
set_option Elab.async false
set_option linter.all false
set_option maxRecDepth 100000
set_option maxHeartbeats 4000000
/-! k92: the facts behind the top, put together -/
namespace L2
namespace KF
open PySem PySem.Spec PyProof.Rows LamX NdefX KB KN KH KL KR KM KX KD1 KD2 KD3 KD4 KD5 KD6 KD7 KMa KD8 KD9 KD10 KD11 KD12 KD13 KD14 KD15 KMb KD16 KMc KD17 KD18 KD19 KD20 KD21 KD22 KD23 KD24 KD25 KMd KD26 KD27 KD28 KD29 KD30 KD31 KD32 KD33
section
variable {w : World} {h : Heap} {K : PySem.W.Frag} {mg : Str → Option Value}
theorem mem_glo {x : Str} (hx : (KHk.gloN ++ KHk.gloL ++ KHk.gloC).contains x = true) : He.Fa.glo x ∈ KHk.fa := List.mem_append_left _ (List.mem_map_of_mem (f := He.Fa.glo) (List.contains_iff_mem.mp hx))
theorem mem_free {x : Str} (hx : x ∈ KHk.freeN) : He.Fa.free x ∈ KHk.fa := List.mem_append_right _ (List.mem_append_left _ (List.mem_map_of_mem (f := He.Fa.free) hx))
theorem mem_int {p : Str × Int} (hx : p ∈ KHk.intN) : He.Fa.int p.1 p.2 ∈ KHk.fa := List.mem_append_right _ (List.mem_append_right _ (List.mem_append_left _ (List.mem_map_of_mem (f := fun p : Str × Int => He.Fa.int p.1 p.2) hx)))
theorem mem_str {p : Str × Str} (hx : p ∈ KHk.strN) : He.Fa.str p.1 p.2 ∈ KHk.fa := List.mem_append_right _ (List.mem_append_right _ (List.mem_append_right _ (List.mem_append_left _ (List.mem_map_of_mem (f := fun p : Str × Str => He.Fa.str p.1 p.2) hx))))
theorem mem_me {p : Str × Str} (hx : KHk.meN.contains p = true) : He.Fa.meth p.1 p.2 ∈ KHk.fa := List.mem_append_right _ (List.mem_append_right _ (List.mem_append_right _ (List.mem_append_right _ (List.mem_append_left _ (List.mem_map_of_mem (f := fun p : Str × Str => He.Fa.meth p.1 p.2) (List.contains_iff_mem.mp hx))))))
theorem mem_no {p : Str × Str} (hx : KHk.noN.contains p = true) : He.Fa.noat p.1 p.2 ∈ KHk.fa := List.mem_append_right _ (List.mem_append_right _ (List.mem_append_right _ (List.mem_append_right _ (List.mem_append_right _ (List.mem_append_left _ (List.mem_map_of_mem (f := fun p : Str × Str => He.Fa.noat p.1 p.2) (List.contains_iff_mem.mp hx)))))))
theorem mem_rest {f : He.Fa} (hx : f ∈ KHk.faRest) : f ∈ KHk.fa := List.mem_append_right _ (List.mem_append_right _ (List.mem_append_right _ (List.mem_append_right _ (List.mem_append_right _ (List.mem_append_right _ hx)))))
theorem fun_of {x qual : Str} {st : Stmt} {f : Addr} {fd : FuncData} (F : FunD K x qual (defArgs st) (defBody st) (defScope st) [] [] f fd) : Fun K x qual st f fd := by
  obtain ⟨oc, od, dV, kV, doc, pm, an, cdv, ct, osl, e, lk, hcd, hD, hK⟩ := F.ex
  rcases hD with ⟨_, rfl⟩ | ⟨z, _⟩
  · exact ⟨⟨oc, od, kV, doc, pm, an, cdv, ct, osl, e, lk, hcd⟩, F.kp⟩
  · exact absurd rfl z
theorem funT_of {x : Str} {st : Stmt} {fd : FuncData} (F : FunD K x x (defArgs st) (defBody st) (defScope st) [] [] (He.fAd K (x, none)) fd) (gl : mg x = some (.ref (He.fAd K (x, none)))) : FunT K mg x st (He.fAd K (x, none)) fd (He.cT K (x, none)).1 := by
  obtain ⟨oc, od, dV, kV, doc, pm, an, cdv, ct, osl, e, lk, hcd, hD, hK⟩ := F.ex
  obtain ⟨c, rfl⟩ := He.codeIn_ref hcd
  have ec : (He.cT K (x, none)).1 = c := He.codeOf_eq lk (by rw [e])
  rw [ec]
  rcases hD with ⟨_, rfl⟩ | ⟨z, _⟩
  · exact ⟨⟨oc, od, kV, doc, pm, an, ct, osl, e, lk, hcd⟩, F.kp, gl⟩
  · exact absurd rfl z
theorem oex_cls {C : Addr} (q : KHk.oexB K C = true) : ∃ nm q N bs bm sn sub ab col dd k0 k1 k2 k3 k5, K.lookup C = some (excClassObj nm q C N bs bm true sn sub ab col dd k0 k1 k2 k3 k5 "ValueError.__new__") ∧ PySem.HandSPX.refsVE bm = true := by
  unfold KHk.oexB at q
  split at q
  · rename_i dd cd sl ho
    split at q
    · rename_i C' bm k0 k1 k2 k3 n k5 hm hs
      simp only [Bool.and_eq_true, beq_iff_eq, Bool.not_eq_true'] at q
      obtain ⟨⟨⟨⟨rfl, rfl⟩, hdel⟩, hdi⟩, ht⟩ := q
      obtain ⟨nm, bs, mro, ns, qn, hd, sn, sub, ab, col, del⟩ := cd
      dsimp only at hm hdel hdi
      subst hm hdel hdi
      have hsl : sl = #[k0, k1, k2, k3, some (.builtin "ValueError.__new__"), k5] := by
        obtain ⟨l⟩ := sl
        simp only at hs
        rw [hs]
      subst hsl
      exact ⟨nm, qn, ns, bs, bm, sn, sub, ab, col, dd, k0, k1, k2, k3, k5, ho, ht⟩
    · cases q
  · cases q
theorem init_of {C fI : Addr} {q : Str} {st : Stmt} {p : Str × Option Str} (ef : He.fAd K p = fI) (hi : KHk.initB K C fI q = true) (hz : KHk.fnZ K p = (KHk.Zd.mk p q st).val) : ∃ (cc cda : Addr),
    (∃ (oc : Value) (od : Option Addr) (kV doc pm : Value) (an : Option Addr) (ct : Value) (osl : Array (Option Value)), K.lookup fI = some ⟨oc, od, .func (PySem.W.fnX "__init__" q (defArgs st) (defBody st) (defScope st) [("__class__", cc)] .none kV doc pm an (.ref cda) ct), osl⟩) ∧
    PySem.W.codeIn K (.ref cda) q = true ∧ (∃ (cl : Value) (cd : Option Addr) (vs : Array Value) (cs : Array (Option Value)) (file : Str) (tf : Tok), K.lookup cda = some ⟨cl, cd, .fields vs, cs⟩ ∧ vs[2]? = some (.str file tf) ∧ ((_root_.KT.prog.main.file : Str) == file) = true) ∧
    ∃ (cl : Value) (cd : Option Addr) (cs : Array (Option Value)), K.lookup cc = some ⟨cl, cd, .cell (some (.ref C)), cs⟩ := by
  unfold KHk.initB at hi
  unfold KHk.fnZ at hz
  rw [ef] at hz
  cases lk : K.lookup fI with
  | none =>
    rw [lk] at hi
    cases hi
  | some o =>
    obtain ⟨oc, od, dt, osl⟩ := o
    rw [lk] at hi hz
    cases dt with
    | func fd =>
      obtain ⟨n1, n2, n3, n4, n5, n6, n7, n8, n9, n10, n11, n12, n13, n14, n15⟩ := fd
      have e2 : (some (n1, n2, n3, n4, n5, n6, n7.map (·.1), n15) : KHk.FnZ) = some (("__init__" : Str), q, defArgs st, FuncBody.stmts (defBody st), defScope st, mainGlobals, [("__class__" : Str)], builtinsNs) := hz
      simp only [Option.some.injEq, Prod.mk.injEq] at e2
      obtain ⟨h1, h2, h3, h4, h5, h6, h7, h8⟩ := e2
      subst h1 h2 h3 h4 h5 h6 h8
      obtain ⟨i1, hi⟩ := He.ba hi
      obtain ⟨i2, i3⟩ := He.ba hi
      dsimp only at i1 i2 i3
      have d8 : n8 = .none := by
        cases n8 with
        | none => rfl
        | _ => cases i1
      subst d8
      cases n7 with
      | nil => cases h7
      | cons p1 r1 =>
        cases r1 with
        | cons p2 r2 =>
          have z := congrArg List.length h7
          cases z
        | nil =>
          obtain ⟨nm, cc⟩ := p1
          have en : nm = ("__class__" : Str) := (List.cons.inj h7).1
          subst en
          cases n13 with
          | ref cda =>
            obtain ⟨i4, i5⟩ := He.ba i3
            refine ⟨cc, cda, ⟨oc, od, n9, n10, n11, n12, n14, osl, rfl⟩, i4, ?_, ?_⟩
            · unfold KHk.fileB at i5
              split at i5
              · rename_i c1 c2 vs c3 hl
                split at i5
                · rename_i z t hv
                  exact ⟨c1, c2, vs, c3, z, t, hl, hv, i5⟩
                · cases i5
              · cases i5
            · have i2' : KHk.cellB K cc C = true := i2
              unfold KHk.cellB at i2'
              split at i2'
              · rename_i c1 c2 D c3 hl
                have e : D = C := beq_iff_eq.mp i2'
                subst e
                exact ⟨c1, c2, c3, hl⟩
              · cases i2'
          | _ => cases i3
    | _ => cases hi
structure ErrK (K : PySem.W.Frag) (mg : Str → Option Value) (x q : Str) (st : Stmt) : Prop where
  ex : ∃ (cc cda : Addr), ExK _root_.KT.prog K mg (He.ga K x) (He.ma K (He.ga K x) "__init__") cc cda x q st
  exc : ExcC K (He.ga K x)
  xf : XfC K (He.ga K x)
theorem err_of {x q : Str} {st : Stmt} (hb : KHk.errB K x q = true) (hz : KHk.fnZ K (x, some "__init__") = (KHk.Zd.mk (x, some "__init__") q st).val) (gC : mg x = some (.ref (He.ga K x))) (sup : PySem.W.nsIn K mainGlobals "super" = some none) (sta : PySem.W.nsIn K cStatics "thirdparty.any" = some none) : ErrK K mg x q st := by
  unfold KHk.errB at hb
  obtain ⟨b1, hb⟩ := He.ba hb
  obtain ⟨b2, hb⟩ := He.ba hb
  obtain ⟨b3, hb⟩ := He.ba hb
  obtain ⟨b4, hb⟩ := He.ba hb
  obtain ⟨b5, hb⟩ := He.ba hb
  obtain ⟨b6, hb⟩ := He.ba hb
  obtain ⟨b7, hb⟩ := He.ba hb
  obtain ⟨b8, hb⟩ := He.ba hb
  obtain ⟨b9, hb⟩ := He.ba hb
  obtain ⟨b10, hb⟩ := He.ba hb
  obtain ⟨b11, b12⟩ := He.ba hb
  have xf := xfB_ok b11
  unfold KHk.excB at b12
  obtain ⟨c1, b12⟩ := He.ba b12
  obtain ⟨c2, b12⟩ := He.ba b12
  obtain ⟨c3, c4⟩ := He.ba b12
  obtain ⟨cc, cda, i1, i2, i3, i4⟩ := init_of (p := (x, some "__init__")) rfl b7 hz
  refine ⟨⟨cc, cda, ⟨oex_cls b1, He.eqO_ok b2, xf.exC, of_decide_eq_true b3, b4⟩, He.eqO_ok b5, of_decide_eq_true b6, gC, i1, i2, i3, i4, of_decide_eq_true b8, sup, sta, He.eqO_ok b9, of_decide_eq_true b10, by decide +kernel⟩, ⟨xf.ga, xf.gg, xf.exC, xf.hdC, He.eqO_ok c1, He.eqO_ok c2, of_decide_eq_true c3, of_decide_eq_true c4⟩, xf⟩
/-- all that is known behind the top -/
theorem facts {f : Addr} (X : K.In h) (G : h.Ns mainGlobals mg) (hfa : mg ("law" : Str) = some (.ref f)) (c : KHk.SaysZ w h K) : LawAtG _root_.KT.row w K 29 63 "_law_script" mg f h := by
  have cd : He.SaysD KHk.fa KHk.fn K := c.t.d
  have glo : ∀ x : Str, (KHk.gloN ++ KHk.gloL ++ KHk.gloC).contains x = true → mg x = some (.ref (He.ga K x)) := fun x hx => He.glo_ok X G (cd.facts (mem_glo hx))
  have noat : ∀ p : Str × Str, KHk.noN.contains p = true → PySem.W.findIn K (.ref (He.ga K p.1)) p.2 = some none := fun p hp => He.noat_ok (cd.facts (mem_no hp))
  have meth : ∀ p : Str × Str, KHk.meN.contains p = true → Meth K (He.ga K p.1) p.2 (He.ma K (He.ga K p.1) p.2) := fun p hp => He.meth_ok (cd.facts (mem_me hp))
  have tx : Tx mg := ⟨fun x hx => He.free_ok X G (cd.facts (mem_free ((show KB.bltNames ⊆ KHk.freeN by decide +kernel) hx))), fun p hp => He.int_ok X G (cd.facts (mem_int hp)), fun p hp => He.str_ok X G (cd.facts (mem_str hp))⟩
  have ex := c.more
  unfold KHk.exB at ex
  obtain ⟨ex0, ex⟩ := He.ba ex
  obtain ⟨ex1, ex⟩ := He.ba ex
  obtain ⟨ex2, ex⟩ := He.ba ex
  obtain ⟨ex3, ex⟩ := He.ba ex
  obtain ⟨ex4, ex5⟩ := He.ba ex
  have sup : PySem.W.nsIn K mainGlobals "super" = some none := He.eqO_ok (cd.facts (f := .free "super") (mem_free (by decide +kernel)))
  have sta := He.eqO_ok ex3
  have eT : ErrK K mg "BadTree" "BadTree.__init__" s_bt := err_of ex1 (c.inits _ List.mem_cons_self) (glo "BadTree" (by decide +kernel)) sup sta
  have eX : ErrK K mg "BadText" "BadText.__init__" s_bx := err_of ex2 (c.inits _ (List.mem_cons_of_mem _ List.mem_cons_self)) (glo "BadText" (by decide +kernel)) sup sta
  obtain ⟨ccT, cdT, xkT⟩ := eT.ex
  obtain ⟨ccX, cdX, xkX⟩ := eX.ex
  have sx : SX K mg (He.ga K) := ⟨glo "PileError" (by decide +kernel), fun x hx => glo x (List.contains_iff_mem.mpr (List.mem_append_right _ ((show askNames ⊆ KHk.gloC by decide +kernel) hx))), He.exm_ok (cd.facts (f := .exm "BadTree" "PileError" true) (mem_rest (by simp [KHk.faRest]))), He.exm_ok (cd.facts (f := .exm "BadText" "PileError" true) (mem_rest (by simp [KHk.faRest]))),
    fun x hx => of_decide_eq_true (List.all_eq_true.mp ex4 x hx), fun x hx => of_decide_eq_true (List.all_eq_true.mp ex5 x hx), eT.exc, eX.exc, eT.xf, eX.xf, noat ("BadTree", "value") (by decide +kernel), noat ("BadText", "line") (by decide +kernel), noat ("BadText", "word") (by decide +kernel)⟩
  have lc : LC K mg (He.ga K "Line") := ⟨He.cls_ok (cd.facts (f := .cls "Line") (mem_rest (by simp [KHk.faRest]))), noat ("Line", "words") (by decide +kernel), noat ("Line", "number") (by decide +kernel), noat ("Line", "at") (by decide +kernel), glo "Line" (by decide +kernel)⟩
  have rc : RC K mg (He.ga K "Reader") := ⟨He.cls_ok (cd.facts (f := .cls "Reader") (mem_rest (by simp [KHk.faRest]))), noat ("Reader", "folders") (by decide +kernel), noat ("Reader", "marks") (by decide +kernel), noat ("Reader", "last") (by decide +kernel), noat ("Reader", "pairs") (by decide +kernel), glo "Reader" (by decide +kernel)⟩
  obtain ⟨fd_is_word, D_is_word⟩ := cd.def_ 0 (d := KHk.fnG 19 "is_word") rfl
  have F_is_word : Fun K "is_word" "is_word" (top 19) (He.fAd K ("is_word", none)) fd_is_word := fun_of D_is_word
  have g_is_word : mg "is_word" = some (.ref (He.fAd K ("is_word", none))) := glo "is_word" (by decide +kernel)
  have b_is_word : Binds K fd_is_word ["value"] [] := F_is_word.binds (fun _ _ _ _ _ _ us hl => match us, hl with | [_], _ => rfl)
  obtain ⟨fd_is_number, D_is_number⟩ := cd.def_ 1 (d := KHk.fnG 20 "is_number") rfl
  have F_is_number : Fun K "is_number" "is_number" (top 20) (He.fAd K ("is_number", none)) fd_is_number := fun_of D_is_number
  have g_is_number : mg "is_number" = some (.ref (He.fAd K ("is_number", none))) := glo "is_number" (by decide +kernel)
  have b_is_number : Binds K fd_is_number ["value"] [] := F_is_number.binds (fun _ _ _ _ _ _ us hl => match us, hl with | [_], _ => rfl)
  obtain ⟨fd_is_tuple, D_is_tuple⟩ := cd.def_ 2 (d := KHk.fnG 21 "is_tuple") rfl
  have F_is_tuple : Fun K "is_tuple" "is_tuple" (top 21) (He.fAd K ("is_tuple", none)) fd_is_tuple := fun_of D_is_tuple
  have g_is_tuple : mg "is_tuple" = some (.ref (He.fAd K ("is_tuple", none))) := glo "is_tuple" (by decide +kernel)
  have b_is_tuple : Binds K fd_is_tuple ["value", "many"] [] := F_is_tuple.binds (fun _ _ _ _ _ _ us hl => match us, hl with | [_, _], _ => rfl)
  obtain ⟨fd_are_rising, D_are_rising⟩ := cd.def_ 3 (d := KHk.fnG 22 "are_rising") rfl
  have F_are_rising : Fun K "are_rising" "are_rising" (top 22) (He.fAd K ("are_rising", none)) fd_are_rising := fun_of D_are_rising
  have g_are_rising : mg "are_rising" = some (.ref (He.fAd K ("are_rising", none))) := glo "are_rising" (by decide +kernel)
  have b_are_rising : Binds K fd_are_rising ["things"] [] := F_are_rising.binds (fun _ _ _ _ _ _ us hl => match us, hl with | [_], _ => rfl)
  obtain ⟨fd_are_pairs, D_are_pairs⟩ := cd.def_ 4 (d := KHk.fnG 23 "are_pairs") rfl
  have F_are_pairs : Fun K "are_pairs" "are_pairs" (top 23) (He.fAd K ("are_pairs", none)) fd_are_pairs := fun_of D_are_pairs
  have g_are_pairs : mg "are_pairs" = some (.ref (He.fAd K ("are_pairs", none))) := glo "are_pairs" (by decide +kernel)
  have b_are_pairs : Binds K fd_are_pairs ["value", "is_key", "is_worth"] [] := F_are_pairs.binds (fun _ _ _ _ _ _ us hl => match us, hl with | [_, _, _], _ => rfl)
  obtain ⟨fd_is_node, D_is_node⟩ := cd.def_ 5 (d := KHk.fnG 24 "is_node") rfl
  have F_is_node : Fun K "is_node" "is_node" (top 24) (He.fAd K ("is_node", none)) fd_is_node := fun_of D_is_node
  have g_is_node : mg "is_node" = some (.ref (He.fAd K ("is_node", none))) := glo "is_node" (by decide +kernel)
  have b_is_node : Binds K fd_is_node ["value", "deep"] [] := F_is_node.binds (fun _ _ _ _ _ _ us hl => match us, hl with | [_, _], _ => rfl)
  obtain ⟨fd_numbers_in, D_numbers_in⟩ := cd.def_ 6 (d := KHk.fnG 25 "numbers_in") rfl
  have F_numbers_in : Fun K "numbers_in" "numbers_in" (top 25) (He.fAd K ("numbers_in", none)) fd_numbers_in := fun_of D_numbers_in
  have g_numbers_in : mg "numbers_in" = some (.ref (He.fAd K ("numbers_in", none))) := glo "numbers_in" (by decide +kernel)
  have b_numbers_in : Binds K fd_numbers_in ["node"] [] := F_numbers_in.binds (fun _ _ _ _ _ _ us hl => match us, hl with | [_], _ => rfl)
  obtain ⟨fd_nodes_in, D_nodes_in⟩ := cd.def_ 7 (d := KHk.fnG 26 "nodes_in") rfl
  have F_nodes_in : Fun K "nodes_in" "nodes_in" (top 26) (He.fAd K ("nodes_in", none)) fd_nodes_in := fun_of D_nodes_in
  have g_nodes_in : mg "nodes_in" = some (.ref (He.fAd K ("nodes_in", none))) := glo "nodes_in" (by decide +kernel)
  have b_nodes_in : Binds K fd_nodes_in ["node"] [] := F_nodes_in.binds (fun _ _ _ _ _ _ us hl => match us, hl with | [_], _ => rfl)
  obtain ⟨fd_is_tree, D_is_tree⟩ := cd.def_ 8 (d := KHk.fnG 27 "is_tree") rfl
  have F_is_tree : Fun K "is_tree" "is_tree" (top 27) (He.fAd K ("is_tree", none)) fd_is_tree := fun_of D_is_tree
  have g_is_tree : mg "is_tree" = some (.ref (He.fAd K ("is_tree", none))) := glo "is_tree" (by decide +kernel)
  have b_is_tree : Binds K fd_is_tree ["value"] [] := F_is_tree.binds (fun _ _ _ _ _ _ us hl => match us, hl with | [_], _ => rfl)
  obtain ⟨fd_need_tree, D_need_tree⟩ := cd.def_ 9 (d := KHk.fnG 28 "need_tree") rfl
  have F_need_tree : Fun K "need_tree" "need_tree" (top 28) (He.fAd K ("need_tree", none)) fd_need_tree := fun_of D_need_tree
  have g_need_tree : mg "need_tree" = some (.ref (He.fAd K ("need_tree", none))) := glo "need_tree" (by decide +kernel)
  have b_need_tree : Binds K fd_need_tree ["tree"] [] := F_need_tree.binds (fun _ _ _ _ _ _ us hl => match us, hl with | [_], _ => rfl)
  obtain ⟨fd_path_text, D_path_text⟩ := cd.def_ 10 (d := KHk.fnG 37 "path_text") rfl
  have F_path_text : Fun K "path_text" "path_text" (top 37) (He.fAd K ("path_text", none)) fd_path_text := fun_of D_path_text
  have g_path_text : mg "path_text" = some (.ref (He.fAd K ("path_text", none))) := glo "path_text" (by decide +kernel)
  have b_path_text : Binds K fd_path_text ["path"] [] := F_path_text.binds (fun _ _ _ _ _ _ us hl => match us, hl with | [_], _ => rfl)
  obtain ⟨fd_nodes_text, D_nodes_text⟩ := cd.def_ 11 (d := KHk.fnG 38 "nodes_text") rfl
  have F_nodes_text : Fun K "nodes_text" "nodes_text" (top 38) (He.fAd K ("nodes_text", none)) fd_nodes_text := fun_of D_nodes_text
  have g_nodes_text : mg "nodes_text" = some (.ref (He.fAd K ("nodes_text", none))) := glo "nodes_text" (by decide +kernel)
  have b_nodes_text : Binds K fd_nodes_text ["node", "path"] [] := F_nodes_text.binds (fun _ _ _ _ _ _ us hl => match us, hl with | [_, _], _ => rfl)
  obtain ⟨fd_pairs_text, D_pairs_text⟩ := cd.def_ 12 (d := KHk.fnG 39 "pairs_text") rfl
  have F_pairs_text : Fun K "pairs_text" "pairs_text" (top 39) (He.fAd K ("pairs_text", none)) fd_pairs_text := fun_of D_pairs_text
  have g_pairs_text : mg "pairs_text" = some (.ref (He.fAd K ("pairs_text", none))) := glo "pairs_text" (by decide +kernel)
  have b_pairs_text : Binds K fd_pairs_text ["word", "pairs"] [] := F_pairs_text.binds (fun _ _ _ _ _ _ us hl => match us, hl with | [_, _], _ => rfl)
  obtain ⟨fd_tree_text, D_tree_text⟩ := cd.def_ 13 (d := KHk.fnG 40 "tree_text") rfl
  have F_tree_text : Fun K "tree_text" "tree_text" (top 40) (He.fAd K ("tree_text", none)) fd_tree_text := fun_of D_tree_text
  have g_tree_text : mg "tree_text" = some (.ref (He.fAd K ("tree_text", none))) := glo "tree_text" (by decide +kernel)
  have b_tree_text : Binds K fd_tree_text ["tree"] [] := F_tree_text.binds (fun _ _ _ _ _ _ us hl => match us, hl with | [_], _ => rfl)
  obtain ⟨fd_number_in, D_number_in⟩ := cd.def_ 14 (d := KHk.fnG 42 "number_in") rfl
  have F_number_in : Fun K "number_in" "number_in" (top 42) (He.fAd K ("number_in", none)) fd_number_in := fun_of D_number_in
  have g_number_in : mg "number_in" = some (.ref (He.fAd K ("number_in", none))) := glo "number_in" (by decide +kernel)
  have b_number_in : Binds K fd_number_in ["word"] [] := F_number_in.binds (fun _ _ _ _ _ _ us hl => match us, hl with | [_], _ => rfl)
  obtain ⟨fd_path_in, D_path_in⟩ := cd.def_ 15 (d := KHk.fnG 43 "path_in") rfl
  have F_path_in : Fun K "path_in" "path_in" (top 43) (He.fAd K ("path_in", none)) fd_path_in := fun_of D_path_in
  have g_path_in : mg "path_in" = some (.ref (He.fAd K ("path_in", none))) := glo "path_in" (by decide +kernel)
  have b_path_in : Binds K fd_path_in ["word", "most"] [] := F_path_in.binds (fun _ _ _ _ _ _ us hl => match us, hl with | [_, _], _ => rfl)
  obtain ⟨fd_read_lines, D_read_lines⟩ := cd.def_ 16 (d := KHk.fnG 45 "read_lines") rfl
  have F_read_lines : Fun K "read_lines" "read_lines" (top 45) (He.fAd K ("read_lines", none)) fd_read_lines := fun_of D_read_lines
  have g_read_lines : mg "read_lines" = some (.ref (He.fAd K ("read_lines", none))) := glo "read_lines" (by decide +kernel)
  have b_read_lines : Binds K fd_read_lines ["text", "sorts", "take"] [] := F_read_lines.binds (fun _ _ _ _ _ _ us hl => match us, hl with | [_, _, _], _ => rfl)
  obtain ⟨fd_take_node, D_take_node⟩ := cd.def_ 17 (d := KHk.fnG 46 "take_node") rfl
  have F_take_node : Fun K "take_node" "take_node" (top 46) (He.fAd K ("take_node", none)) fd_take_node := fun_of D_take_node
  have g_take_node : mg "take_node" = some (.ref (He.fAd K ("take_node", none))) := glo "take_node" (by decide +kernel)
  have b_take_node : Binds K fd_take_node ["reader", "word", "line"] [] := F_take_node.binds (fun _ _ _ _ _ _ us hl => match us, hl with | [_, _, _], _ => rfl)
  obtain ⟨fd_read_tree, D_read_tree⟩ := cd.def_ 18 (d := KHk.fnG 47 "read_tree") rfl
  have F_read_tree : Fun K "read_tree" "read_tree" (top 47) (He.fAd K ("read_tree", none)) fd_read_tree := fun_of D_read_tree
  have g_read_tree : mg "read_tree" = some (.ref (He.fAd K ("read_tree", none))) := glo "read_tree" (by decide +kernel)
  have b_read_tree : Binds K fd_read_tree ["text"] [] := F_read_tree.binds (fun _ _ _ _ _ _ us hl => match us, hl with | [_], _ => rfl)
  obtain ⟨fd_law_mixed, D_law_mixed⟩ := cd.def_ 19 (d := KHk.fnG 49 "_law_mixed") rfl
  have F_law_mixed : Fun K "_law_mixed" "_law_mixed" (top 49) (He.fAd K ("_law_mixed", none)) fd_law_mixed := fun_of D_law_mixed
  have g_law_mixed : mg "_law_mixed" = some (.ref (He.fAd K ("_law_mixed", none))) := glo "_law_mixed" (by decide +kernel)
  have b_law_mixed : Binds K fd_law_mixed ["_law_cell", "_law_n"] [] := F_law_mixed.binds (fun _ _ _ _ _ _ us hl => match us, hl with | [_, _], _ => rfl)
  obtain ⟨fd_law_folded, D_law_folded⟩ := cd.def_ 20 (d := KHk.fnG 50 "_law_folded") rfl
  have F_law_folded : Fun K "_law_folded" "_law_folded" (top 50) (He.fAd K ("_law_folded", none)) fd_law_folded := fun_of D_law_folded
  have g_law_folded : mg "_law_folded" = some (.ref (He.fAd K ("_law_folded", none))) := glo "_law_folded" (by decide +kernel)
  have b_law_folded : Binds K fd_law_folded ["_law_script"] [] := F_law_folded.binds (fun _ _ _ _ _ _ us hl => match us, hl with | [_], _ => rfl)
  obtain ⟨fd_law_draw, D_law_draw⟩ := cd.def_ 21 (d := KHk.fnG 51 "_law_draw") rfl
  have F_law_draw : Fun K "_law_draw" "_law_draw" (top 51) (He.fAd K ("_law_draw", none)) fd_law_draw := fun_of D_law_draw
  have g_law_draw : mg "_law_draw" = some (.ref (He.fAd K ("_law_draw", none))) := glo "_law_draw" (by decide +kernel)
  have b_law_draw : Binds K fd_law_draw ["_law_m", "_law_limit"] [] := F_law_draw.binds (fun _ _ _ _ _ _ us hl => match us, hl with | [_, _], _ => rfl)
  obtain ⟨fd_law_begun, D_law_begun⟩ := cd.def_ 22 (d := KHk.fnG 52 "_law_begun") rfl
  have F_law_begun : Fun K "_law_begun" "_law_begun" (top 52) (He.fAd K ("_law_begun", none)) fd_law_begun := fun_of D_law_begun
  have g_law_begun : mg "_law_begun" = some (.ref (He.fAd K ("_law_begun", none))) := glo "_law_begun" (by decide +kernel)
  have b_law_begun : Binds K fd_law_begun ["_law_script"] [] := F_law_begun.binds (fun _ _ _ _ _ _ us hl => match us, hl with | [_], _ => rfl)
  obtain ⟨fd_law_like, D_law_like⟩ := cd.def_ 23 (d := KHk.fnG 53 "_law_like") rfl
  have F_law_like : Fun K "_law_like" "_law_like" (top 53) (He.fAd K ("_law_like", none)) fd_law_like := fun_of D_law_like
  have g_law_like : mg "_law_like" = some (.ref (He.fAd K ("_law_like", none))) := glo "_law_like" (by decide +kernel)
  have b_law_like : Binds K fd_law_like ["_law_answer", "_law_due_here"] [] := F_law_like.binds (fun _ _ _ _ _ _ us hl => match us, hl with | [_, _], _ => rfl)
  obtain ⟨fd_law_folder, D_law_folder⟩ := cd.def_ 24 (d := KHk.fnG 54 "_law_folder") rfl
  have F_law_folder : Fun K "_law_folder" "_law_folder" (top 54) (He.fAd K ("_law_folder", none)) fd_law_folder := fun_of D_law_folder
  have g_law_folder : mg "_law_folder" = some (.ref (He.fAd K ("_law_folder", none))) := glo "_law_folder" (by decide +kernel)
  have b_law_folder : Binds K fd_law_folder ["_law_m", "_law_deep", "_law_most"] [] := F_law_folder.binds (fun _ _ _ _ _ _ us hl => match us, hl with | [_, _, _], _ => rfl)
  obtain ⟨fd_law_numbers, D_law_numbers⟩ := cd.def_ 25 (d := KHk.fnG 55 "_law_numbers") rfl
  have F_law_numbers : Fun K "_law_numbers" "_law_numbers" (top 55) (He.fAd K ("_law_numbers", none)) fd_law_numbers := fun_of D_law_numbers
  have g_law_numbers : mg "_law_numbers" = some (.ref (He.fAd K ("_law_numbers", none))) := glo "_law_numbers" (by decide +kernel)
  have b_law_numbers : Binds K fd_law_numbers ["_law_node"] [] := F_law_numbers.binds (fun _ _ _ _ _ _ us hl => match us, hl with | [_], _ => rfl)
  obtain ⟨fd_law_tree, D_law_tree⟩ := cd.def_ 26 (d := KHk.fnG 56 "_law_tree") rfl
  have F_law_tree : Fun K "_law_tree" "_law_tree" (top 56) (He.fAd K ("_law_tree", none)) fd_law_tree := fun_of D_law_tree
  have g_law_tree : mg "_law_tree" = some (.ref (He.fAd K ("_law_tree", none))) := glo "_law_tree" (by decide +kernel)
  have b_law_tree : Binds K fd_law_tree ["_law_m", "_law_most"] [] := F_law_tree.binds (fun _ _ _ _ _ _ us hl => match us, hl with | [_, _], _ => rfl)
  obtain ⟨fd_law_said, D_law_said⟩ := cd.def_ 27 (d := KHk.fnG 57 "_law_said") rfl
  have F_law_said : Fun K "_law_said" "_law_said" (top 57) (He.fAd K ("_law_said", none)) fd_law_said := fun_of D_law_said
  have g_law_said : mg "_law_said" = some (.ref (He.fAd K ("_law_said", none))) := glo "_law_said" (by decide +kernel)
  have b_law_said : Binds K fd_law_said ["_law_call"] [] := F_law_said.binds (fun _ _ _ _ _ _ us hl => match us, hl with | [_], _ => rfl)
  obtain ⟨fd_law_is_word, D_law_is_word⟩ := cd.def_ 28 (d := KHk.fnG 58 "_law_is_word") rfl
  have F_law_is_word : Fun K "_law_is_word" "_law_is_word" (top 58) (He.fAd K ("_law_is_word", none)) fd_law_is_word := fun_of D_law_is_word
  have g_law_is_word : mg "_law_is_word" = some (.ref (He.fAd K ("_law_is_word", none))) := glo "_law_is_word" (by decide +kernel)
  have b_law_is_word : Binds K fd_law_is_word ["_law_word"] [] := F_law_is_word.binds (fun _ _ _ _ _ _ us hl => match us, hl with | [_], _ => rfl)
  obtain ⟨fd_law_is_number, D_law_is_number⟩ := cd.def_ 29 (d := KHk.fnG 59 "_law_is_number") rfl
  have F_law_is_number : Fun K "_law_is_number" "_law_is_number" (top 59) (He.fAd K ("_law_is_number", none)) fd_law_is_number := fun_of D_law_is_number
  have g_law_is_number : mg "_law_is_number" = some (.ref (He.fAd K ("_law_is_number", none))) := glo "_law_is_number" (by decide +kernel)
  have b_law_is_number : Binds K fd_law_is_number ["_law_word"] [] := F_law_is_number.binds (fun _ _ _ _ _ _ us hl => match us, hl with | [_], _ => rfl)
  obtain ⟨fd_law_path_in, D_law_path_in⟩ := cd.def_ 30 (d := KHk.fnG 60 "_law_path_in") rfl
  have F_law_path_in : Fun K "_law_path_in" "_law_path_in" (top 60) (He.fAd K ("_law_path_in", none)) fd_law_path_in := fun_of D_law_path_in
  have g_law_path_in : mg "_law_path_in" = some (.ref (He.fAd K ("_law_path_in", none))) := glo "_law_path_in" (by decide +kernel)
  have b_law_path_in : Binds K fd_law_path_in ["_law_word", "_law_most"] [] := F_law_path_in.binds (fun _ _ _ _ _ _ us hl => match us, hl with | [_, _], _ => rfl)
  obtain ⟨fd_law_at, D_law_at⟩ := cd.def_ 31 (d := KHk.fnG 61 "_law_at") rfl
  have F_law_at : Fun K "_law_at" "_law_at" (top 61) (He.fAd K ("_law_at", none)) fd_law_at := fun_of D_law_at
  have g_law_at : mg "_law_at" = some (.ref (He.fAd K ("_law_at", none))) := glo "_law_at" (by decide +kernel)
  have b_law_at : Binds K fd_law_at ["_law_words", "_law_k"] [] := F_law_at.binds (fun _ _ _ _ _ _ us hl => match us, hl with | [_, _], _ => rfl)
  obtain ⟨fd_law_wrong, D_law_wrong⟩ := cd.def_ 32 (d := KHk.fnG 62 "_law_wrong") rfl
  have F_law_wrong : Fun K "_law_wrong" "_law_wrong" (top 62) (He.fAd K ("_law_wrong", none)) fd_law_wrong := fun_of D_law_wrong
  have g_law_wrong : mg "_law_wrong" = some (.ref (He.fAd K ("_law_wrong", none))) := glo "_law_wrong" (by decide +kernel)
  have b_law_wrong : Binds K fd_law_wrong ["_law_words", "_law_state"] [] := F_law_wrong.binds (fun _ _ _ _ _ _ us hl => match us, hl with | [_, _], _ => rfl)
  obtain ⟨fd_law_folder_of, D_law_folder_of⟩ := cd.def_ 33 (d := KHk.fnG 63 "_law_folder_of") rfl
  have F_law_folder_of : Fun K "_law_folder_of" "_law_folder_of" (top 63) (He.fAd K ("_law_folder_of", none)) fd_law_folder_of := fun_of D_law_folder_of
  have g_law_folder_of : mg "_law_folder_of" = some (.ref (He.fAd K ("_law_folder_of", none))) := glo "_law_folder_of" (by decide +kernel)
  have b_law_folder_of : Binds K fd_law_folder_of ["_law_rows", "_law_path"] [] := F_law_folder_of.binds (fun _ _ _ _ _ _ us hl => match us, hl with | [_, _], _ => rfl)
  obtain ⟨fd_law_due, D_law_due⟩ := cd.def_ 34 (d := KHk.fnG 64 "_law_due") rfl
  have F_law_due : Fun K "_law_due" "_law_due" (top 64) (He.fAd K ("_law_due", none)) fd_law_due := fun_of D_law_due
  have g_law_due : mg "_law_due" = some (.ref (He.fAd K ("_law_due", none))) := glo "_law_due" (by decide +kernel)
  have b_law_due : Binds K fd_law_due ["_law_text"] [] := F_law_due.binds (fun _ _ _ _ _ _ us hl => match us, hl with | [_], _ => rfl)
  obtain ⟨fd_law_right, D_law_right⟩ := cd.def_ 35 (d := KHk.fnG 65 "_law_right") rfl
  have F_law_right : Fun K "_law_right" "_law_right" (top 65) (He.fAd K ("_law_right", none)) fd_law_right := fun_of D_law_right
  have g_law_right : mg "_law_right" = some (.ref (He.fAd K ("_law_right", none))) := glo "_law_right" (by decide +kernel)
  have b_law_right : Binds K fd_law_right ["_law_text"] [] := F_law_right.binds (fun _ _ _ _ _ _ us hl => match us, hl with | [_], _ => rfl)
  obtain ⟨fd_law_bent, D_law_bent⟩ := cd.def_ 36 (d := KHk.fnG 66 "_law_bent") rfl
  have F_law_bent : Fun K "_law_bent" "_law_bent" (top 66) (He.fAd K ("_law_bent", none)) fd_law_bent := fun_of D_law_bent
  have g_law_bent : mg "_law_bent" = some (.ref (He.fAd K ("_law_bent", none))) := glo "_law_bent" (by decide +kernel)
  have b_law_bent : Binds K fd_law_bent ["_law_m", "_law_text"] [] := F_law_bent.binds (fun _ _ _ _ _ _ us hl => match us, hl with | [_, _], _ => rfl)
  obtain ⟨fd_law, D_law⟩ := cd.def_ 37 (d := KHk.fnG 67 "law") rfl
  have F_law : Fun K "law" "law" (top 67) (He.fAd K ("law", none)) fd_law := fun_of D_law
  have g_law : mg "law" = some (.ref (He.fAd K ("law", none))) := glo "law" (by decide +kernel)
  have b_law : Binds K fd_law ["_law_script"] [] := F_law.binds (fun _ _ _ _ _ _ us hl => match us, hl with | [_], _ => rfl)
  obtain ⟨fd_L_init, D_L_init⟩ := cd.def_ 38 (d := KHk.fnM 41 0 "Line" "__init__" "Line.__init__" []) rfl
  have F_L_init : Fun K "__init__" "Line.__init__" (inClass (top 41) 0) (He.fAd K ("Line", some "__init__")) fd_L_init := fun_of D_L_init
  have b_L_init : Binds K fd_L_init ["self", "text", "number"] [] := F_L_init.binds (fun _ _ _ _ _ _ us hl => match us, hl with | [_, _, _], _ => rfl)
  obtain ⟨fd_L_refuse, D_L_refuse⟩ := cd.def_ 39 (d := KHk.fnM 41 1 "Line" "refuse" "Line.refuse" []) rfl
  have F_L_refuse : Fun K "refuse" "Line.refuse" (inClass (top 41) 1) (He.fAd K ("Line", some "refuse")) fd_L_refuse := fun_of D_L_refuse
  have b_L_refuse : Binds K fd_L_refuse ["self"] [] := F_L_refuse.binds (fun _ _ _ _ _ _ us hl => match us, hl with | [_], _ => rfl)
  obtain ⟨fd_L_has_more, D_L_has_more⟩ := cd.def_ 40 (d := KHk.fnM 41 2 "Line" "has_more" "Line.has_more" []) rfl
  have F_L_has_more : Fun K "has_more" "Line.has_more" (inClass (top 41) 2) (He.fAd K ("Line", some "has_more")) fd_L_has_more := fun_of D_L_has_more
  have b_L_has_more : Binds K fd_L_has_more ["self"] [] := F_L_has_more.binds (fun _ _ _ _ _ _ us hl => match us, hl with | [_], _ => rfl)
  obtain ⟨fd_L_taken, D_L_taken⟩ := cd.def_ 41 (d := KHk.fnM 41 3 "Line" "taken" "Line.taken" []) rfl
  have F_L_taken : Fun K "taken" "Line.taken" (inClass (top 41) 3) (He.fAd K ("Line", some "taken")) fd_L_taken := fun_of D_L_taken
  have b_L_taken : Binds K fd_L_taken ["self", "worth"] [] := F_L_taken.binds (fun _ _ _ _ _ _ us hl => match us, hl with | [_, _], _ => rfl)
  obtain ⟨fd_L_next_of, D_L_next_of⟩ := cd.def_ 42 (d := KHk.fnM 41 4 "Line" "next_of" "Line.next_of" []) rfl
  have F_L_next_of : Fun K "next_of" "Line.next_of" (inClass (top 41) 4) (He.fAd K ("Line", some "next_of")) fd_L_next_of := fun_of D_L_next_of
  have b_L_next_of : Binds K fd_L_next_of ["self", "some"] [] := F_L_next_of.binds (fun _ _ _ _ _ _ us hl => match us, hl with | [_, _], _ => rfl)
  obtain ⟨fd_L_next_word, D_L_next_word⟩ := cd.def_ 43 (d := KHk.fnM 41 5 "Line" "next_word" "Line.next_word" []) rfl
  have F_L_next_word : Fun K "next_word" "Line.next_word" (inClass (top 41) 5) (He.fAd K ("Line", some "next_word")) fd_L_next_word := fun_of D_L_next_word
  have b_L_next_word : Binds K fd_L_next_word ["self"] [] := F_L_next_word.binds (fun _ _ _ _ _ _ us hl => match us, hl with | [_], _ => rfl)
  obtain ⟨fd_L_next_number, D_L_next_number⟩ := cd.def_ 44 (d := KHk.fnM 41 6 "Line" "next_number" "Line.next_number" []) rfl
  have F_L_next_number : Fun K "next_number" "Line.next_number" (inClass (top 41) 6) (He.fAd K ("Line", some "next_number")) fd_L_next_number := fun_of D_L_next_number
  have b_L_next_number : Binds K fd_L_next_number ["self"] [] := F_L_next_number.binds (fun _ _ _ _ _ _ us hl => match us, hl with | [_], _ => rfl)
  obtain ⟨fd_L_next_path, D_L_next_path⟩ := cd.def_ 45 (d := KHk.fnM 41 7 "Line" "next_path" "Line.next_path" [.int 6]) rfl
  have b_L_next_path : Binds K fd_L_next_path ["self", "most"] [] := by
    obtain ⟨ds, hv, hb⟩ := D_L_next_path.binds1 (ps := ["self", "most"]) 2 1 (by intro z; cases z) rfl (fun T kV doc pm an cdv ct us its h1 h2 => match us, its, h1, h2 with | [_, _], [_], _, _ => ⟨_, rfl, rfl⟩)
    cases hv
    exact hb
  obtain ⟨fd_L_need_end, D_L_need_end⟩ := cd.def_ 46 (d := KHk.fnM 41 8 "Line" "need_end" "Line.need_end" []) rfl
  have F_L_need_end : Fun K "need_end" "Line.need_end" (inClass (top 41) 8) (He.fAd K ("Line", some "need_end")) fd_L_need_end := fun_of D_L_need_end
  have b_L_need_end : Binds K fd_L_need_end ["self"] [] := F_L_need_end.binds (fun _ _ _ _ _ _ us hl => match us, hl with | [_], _ => rfl)
  obtain ⟨fd_R_init, D_R_init⟩ := cd.def_ 47 (d := KHk.fnM 44 0 "Reader" "__init__" "Reader.__init__" []) rfl
  have F_R_init : Fun K "__init__" "Reader.__init__" (inClass (top 44) 0) (He.fAd K ("Reader", some "__init__")) fd_R_init := fun_of D_R_init
  have b_R_init : Binds K fd_R_init ["self"] [] := F_R_init.binds (fun _ _ _ _ _ _ us hl => match us, hl with | [_], _ => rfl)
  obtain ⟨fd_R_place_in, D_R_place_in⟩ := cd.def_ 48 (d := KHk.fnM 44 1 "Reader" "place_in" "Reader.place_in" []) rfl
  have F_R_place_in : Fun K "place_in" "Reader.place_in" (inClass (top 44) 1) (He.fAd K ("Reader", some "place_in")) fd_R_place_in := fun_of D_R_place_in
  have b_R_place_in : Binds K fd_R_place_in ["self", "line", "most"] [] := F_R_place_in.binds (fun _ _ _ _ _ _ us hl => match us, hl with | [_, _, _], _ => rfl)
  obtain ⟨fd_R_put, D_R_put⟩ := cd.def_ 49 (d := KHk.fnM 44 2 "Reader" "put" "Reader.put" []) rfl
  have F_R_put : Fun K "put" "Reader.put" (inClass (top 44) 2) (He.fAd K ("Reader", some "put")) fd_R_put := fun_of D_R_put
  have b_R_put : Binds K fd_R_put ["self", "path", "entry"] [] := F_R_put.binds (fun _ _ _ _ _ _ us hl => match us, hl with | [_, _, _], _ => rfl)
  obtain ⟨fd_R_begin_folder, D_R_begin_folder⟩ := cd.def_ 50 (d := KHk.fnM 44 3 "Reader" "begin_folder" "Reader.begin_folder" []) rfl
  have F_R_begin_folder : Fun K "begin_folder" "Reader.begin_folder" (inClass (top 44) 3) (He.fAd K ("Reader", some "begin_folder")) fd_R_begin_folder := fun_of D_R_begin_folder
  have b_R_begin_folder : Binds K fd_R_begin_folder ["self", "path", "mark"] [] := F_R_begin_folder.binds (fun _ _ _ _ _ _ us hl => match us, hl with | [_, _, _], _ => rfl)
  obtain ⟨fd_R_take_pair, D_R_take_pair⟩ := cd.def_ 51 (d := KHk.fnM 44 4 "Reader" "take_pair" "Reader.take_pair" []) rfl
  have F_R_take_pair : Fun K "take_pair" "Reader.take_pair" (inClass (top 44) 4) (He.fAd K ("Reader", some "take_pair")) fd_R_take_pair := fun_of D_R_take_pair
  have b_R_take_pair : Binds K fd_R_take_pair ["self", "word", "line"] [] := F_R_take_pair.binds (fun _ _ _ _ _ _ us hl => match us, hl with | [_, _, _], _ => rfl)
  obtain ⟨fd_R_entries, D_R_entries⟩ := cd.def_ 52 (d := KHk.fnM 44 5 "Reader" "entries" "Reader.entries" []) rfl
  have F_R_entries : Fun K "entries" "Reader.entries" (inClass (top 44) 5) (He.fAd K ("Reader", some "entries")) fd_R_entries := fun_of D_R_entries
  have b_R_entries : Binds K fd_R_entries ["self", "path", "has_marks"] [] := F_R_entries.binds (fun _ _ _ _ _ _ us hl => match us, hl with | [_, _, _], _ => rfl)
  -- the tables
  have nPt : (He.cT K ("is_node", none)).2 ≠ (He.cT K ("_law_right", none)).2 := fun z => by
    rw [z] at ex0
    simp at ex0
  have FT_is_node : FunT K mg "is_node" s_is_node (He.fAd K ("is_node", none)) fd_is_node (He.cT K ("is_node", none)).1 := funT_of D_is_node g_is_node
  have FT_right : FunT K mg "_law_right" s_lright (He.fAd K ("_law_right", none)) fd_law_right (He.cT K ("_law_right", none)).1 := funT_of D_law_right g_law_right
  have ef : f = He.fAd K ("law", none) := by
    have z := hfa.symm.trans g_law
    injection z with z
    injection z
  subst ef
  let T : Tb := [((He.cT K ("is_node", none)).2, qNode), ((He.cT K ("_law_right", none)).2, qRight)]
  have huN : ∀ p ∈ T, p.1 = (He.cT K ("is_node", none)).2 → p.2 = qNode := fun p hp e => by
    rcases List.mem_cons.mp hp with rfl | hp
    · rfl
    · rw [List.mem_singleton.mp hp] at e
      exact absurd e.symm nPt
  have huR : ∀ p ∈ T, p.1 = (He.cT K ("_law_right", none)).2 → p.2 = qRight := fun p hp e => by
    rcases List.mem_cons.mp hp with rfl | hp
    · exact absurd e nPt
    · rw [List.mem_singleton.mp hp]
  refine ⟨fd_law, KHk.tf.map (He.cT K), spLaw K T, fun p hp => ?_, fun p hp => ?_, fun p hp => ?_, fun s u => ?_, fun H a ns hl _ hH hS => ?_, fun base KX NX hTB => ?_⟩
  · obtain ⟨q, hq, rfl⟩ := List.mem_map.mp hp
    exact c.empty q hq
  · obtain ⟨q, hq, rfl⟩ := List.mem_map.mp hp
    exact c.out q hq
  · obtain ⟨q, hq, rfl⟩ := List.mem_map.mp hp
    exact PySem.W.codeHd_of_K X (c.hd q hq)
  · exact D_law.bindsA (ps := ["_law_script"]) (fun _ _ _ _ _ _ us hl => match us, hl with | [_], _ => rfl) s [u] rfl
  · refine ⟨a, ns, rfl, hS, hl, fun p hp => ?_, fun _ => rfl⟩
    have hm : p.1 ∈ (KHk.tf.map (He.cT K)).map (·.2) := by
      rcases List.mem_cons.mp hp with rfl | hp
      · exact List.mem_cons_self
      · rw [List.mem_singleton.mp hp]
        exact List.mem_cons_of_mem _ List.mem_cons_self
    obtain ⟨q, hq, eq⟩ := List.mem_map.mp hm
    have e := hH q hq
    rw [eq] at e
    exact ⟨#[], e, True.intro, fun pos cv z => by cases z⟩
  have TBn : TabB base mg (He.cT K ("is_node", none)).1 (He.cT K ("is_node", none)).2 := hTB _ List.mem_cons_self
  have TBr : TabB base mg (He.cT K ("_law_right", none)).1 (He.cT K ("_law_right", none)).2 := hTB _ (List.mem_cons_of_mem _ List.mem_cons_self)
  have c_is_word : Ca CX0 _root_.KT.prog w K mg base 1 "is_word" ["value"] spWord := ⟨_, _, ok_is_word tx F_is_word, g_is_word, F_is_word.kp, b_is_word⟩
  have c_is_number : Ca CX0 _root_.KT.prog w K mg base 1 "is_number" ["value"] spNumber := ⟨_, _, ok_is_number tx F_is_number, g_is_number, F_is_number.kp, b_is_number⟩
  have c_is_tuple : Ca CX0 _root_.KT.prog w K mg base 1 "is_tuple" ["value", "many"] spTuple := ⟨_, _, ok_is_tuple tx F_is_tuple, g_is_tuple, F_is_tuple.kp, b_is_tuple⟩
  have c_are_rising : Ca CX0 _root_.KT.prog w K mg base 1 "are_rising" ["things"] (spRising K) := ⟨_, _, ok_are_rising tx F_are_rising, g_are_rising, F_are_rising.kp, b_are_rising⟩
  have c_are_pairs : ∀ k, 1 ≤ k → Ca CX0 _root_.KT.prog w K mg base (k + 1) "are_pairs" ["value", "is_key", "is_worth"] (spPairs _root_.KT.prog w K mg base T k) := fun k hk => ⟨_, _, ok_are_pairs tx hk c_is_tuple c_are_rising F_are_pairs, g_are_pairs, F_are_pairs.kp, b_are_pairs⟩
  have c_is_node : Ca CX0 _root_.KT.prog w K mg base 22 "is_node" ["value", "deep"] (spNode T 7) := ⟨_, _, ok_is_node tx c_is_tuple c_is_number c_is_word c_are_pairs FT_is_node b_is_node TBn List.mem_cons_self huN 7, g_is_node, F_is_node.kp, b_is_node⟩
  have c_numbers_in : Ca CX0 _root_.KT.prog w K mg base 9 "numbers_in" ["node"] (spNumbers 8) := ⟨_, _, ok_numbers_in tx F_numbers_in g_numbers_in b_numbers_in 8, g_numbers_in, F_numbers_in.kp, b_numbers_in⟩
  have c_nodes_in : Ca CX0 _root_.KT.prog w K mg base 9 "nodes_in" ["node"] (spCount 8) := ⟨_, _, ok_nodes_in tx F_nodes_in g_nodes_in b_nodes_in 8, g_nodes_in, F_nodes_in.kp, b_nodes_in⟩
  have c_is_tree : Ca CX0 _root_.KT.prog w K mg base 23 "is_tree" ["value"] (spTree T) := ⟨_, _, ok_is_tree tx c_is_tuple c_is_number c_is_word (c_are_pairs 1 (Nat.le_refl 1)) c_is_node c_nodes_in c_numbers_in F_is_tree, g_is_tree, F_is_tree.kp, b_is_tree⟩
  have mT : MkX _root_.KT.prog w K mg base "BadTree" (He.ga K "BadTree") ["self", "value"] (spBT (He.ga K "BadTree")) := mkx_bt xkT (noat ("BadTree", "value") (by decide +kernel))
  have mX : MkX _root_.KT.prog w K mg base "BadText" (He.ga K "BadText") ["self", "line", "word"] (spBX (He.ga K "BadText")) := mkx_bx xkX (noat ("BadText", "line") (by decide +kernel)) (noat ("BadText", "word") (by decide +kernel))
  have c_need_tree : Ca (L2.CX _root_.KT.prog w) _root_.KT.prog w K mg base 24 "need_tree" ["tree"] (spNeed T (He.ga K "BadTree")) := ⟨_, _, ok_need_tree c_is_tree mT F_need_tree, g_need_tree, F_need_tree.kp, b_need_tree⟩
  have c_path_text : Ca CX0 _root_.KT.prog w K mg base 1 "path_text" ["path"] spPathText := ⟨_, _, ok_path_text tx F_path_text, g_path_text, F_path_text.kp, b_path_text⟩
  have c_nodes_text : Ca CX0 _root_.KT.prog w K mg base 9 "nodes_text" ["node", "path"] (spNodesText 8) := ⟨_, _, ok_nodes_text tx c_path_text F_nodes_text g_nodes_text b_nodes_text 8, g_nodes_text, F_nodes_text.kp, b_nodes_text⟩
  have c_pairs_text : Ca CX0 _root_.KT.prog w K mg base 1 "pairs_text" ["word", "pairs"] spPairsText := ⟨_, _, ok_pairs_text F_pairs_text, g_pairs_text, F_pairs_text.kp, b_pairs_text⟩
  have c_tree_text : Ca CX0 _root_.KT.prog w K mg base 25 "tree_text" ["tree"] (spTreeText T) := ⟨_, _, ok_tree_text tx c_need_tree c_nodes_text c_pairs_text F_tree_text, g_tree_text, F_tree_text.kp, b_tree_text⟩
  have c_number_in : Ca CX0 _root_.KT.prog w K mg base 1 "number_in" ["word"] spNumIn := ⟨_, _, ok_number_in tx F_number_in, g_number_in, F_number_in.kp, b_number_in⟩
  have c_path_in : Ca CX0 _root_.KT.prog w K mg base 2 "path_in" ["word", "most"] spPathIn := ⟨_, _, ok_path_in tx c_is_word F_path_in, g_path_in, F_path_in.kp, b_path_in⟩
  have mL : MkI _root_.KT.prog w K mg base 1 "Line" (He.ga K "Line") ["self", "text", "number"] (spLInit (He.ga K "Line")) := ⟨_, _, He.mkr_ok (cd.facts (f := .mkr "Line") (mem_rest (by simp [KHk.faRest]))), ok_linit lc F_L_init, b_L_init, glo "Line" (by decide +kernel)⟩
  have m_L_refuse : Me (L2.CX _root_.KT.prog w) _root_.KT.prog w K mg base 3 (He.ga K "Line") "refuse" ["self"] (spRefuse (He.ga K "Line") (He.ga K "BadText")) := ⟨_, _, ok_lrefuse lc mX F_L_refuse, meth ("Line", "refuse") (by decide +kernel), b_L_refuse⟩
  have m_L_has_more : Me CX0 _root_.KT.prog w K mg base 1 (He.ga K "Line") "has_more" ["self"] (spMore (He.ga K "Line")) := ⟨_, _, ok_lmore tx lc F_L_has_more, meth ("Line", "has_more") (by decide +kernel), b_L_has_more⟩
  have m_L_taken : Me (L2.CX _root_.KT.prog w) _root_.KT.prog w K mg base 4 (He.ga K "Line") "taken" ["self", "worth"] (spTaken (He.ga K "Line") (He.ga K "BadText")) := ⟨_, _, ok_ltaken lc m_L_refuse F_L_taken, meth ("Line", "taken") (by decide +kernel), b_L_taken⟩
  have m_L_next_of : Me (L2.CX _root_.KT.prog w) _root_.KT.prog w K mg base 5 (He.ga K "Line") "next_of" ["self", "some"] (spNextOf K (He.ga K "Line") (He.ga K "BadText")) := ⟨_, _, ok_lnextof lc m_L_has_more m_L_taken F_L_next_of, meth ("Line", "next_of") (by decide +kernel), b_L_next_of⟩
  have m_L_next_word : Me (L2.CX _root_.KT.prog w) _root_.KT.prog w K mg base 5 (He.ga K "Line") "next_word" ["self"] (spNextWord (He.ga K "Line") (He.ga K "BadText")) := ⟨_, _, ok_lnextword tx lc c_is_word m_L_has_more m_L_taken F_L_next_word, meth ("Line", "next_word") (by decide +kernel), b_L_next_word⟩
  have m_L_next_number : Me (L2.CX _root_.KT.prog w) _root_.KT.prog w K mg base 5 (He.ga K "Line") "next_number" ["self"] (spNextNum (He.ga K "Line") (He.ga K "BadText")) := ⟨_, _, ok_lnextnum tx lc c_number_in m_L_has_more m_L_taken F_L_next_number, meth ("Line", "next_number") (by decide +kernel), b_L_next_number⟩
  have m_L_next_path : Me (L2.CX _root_.KT.prog w) _root_.KT.prog w K mg base 5 (He.ga K "Line") "next_path" ["self", "most"] (spNextPath (He.ga K "Line") (He.ga K "BadText")) := ⟨_, _, ok_lnextpath tx lc c_path_in m_L_has_more m_L_taken D_L_next_path, meth ("Line", "next_path") (by decide +kernel), b_L_next_path⟩
  have m_L_need_end : Me (L2.CX _root_.KT.prog w) _root_.KT.prog w K mg base 4 (He.ga K "Line") "need_end" ["self"] (spEnd (He.ga K "Line") (He.ga K "BadText")) := ⟨_, _, ok_lend lc m_L_has_more m_L_refuse F_L_need_end, meth ("Line", "need_end") (by decide +kernel), b_L_need_end⟩
  have mR : MkI _root_.KT.prog w K mg base 1 "Reader" (He.ga K "Reader") ["self"] (spRInit (He.ga K "Reader")) := ⟨_, _, He.mkr_ok (cd.facts (f := .mkr "Reader") (mem_rest (by simp [KHk.faRest]))), ok_rinit tx rc F_R_init, b_R_init, glo "Reader" (by decide +kernel)⟩
  have m_R_place_in : Me (L2.CX _root_.KT.prog w) _root_.KT.prog w K mg base 6 (He.ga K "Reader") "place_in" ["self", "line", "most"] (spPlace (He.ga K "Reader") (He.ga K "BadText") (He.ga K "Line")) := ⟨_, _, ok_place rc lc mX m_L_next_path F_R_place_in, meth ("Reader", "place_in") (by decide +kernel), b_R_place_in⟩
  have m_R_put : Me CX0 _root_.KT.prog w K mg base 1 (He.ga K "Reader") "put" ["self", "path", "entry"] (spPut (He.ga K "Reader")) := ⟨_, _, ok_put rc F_R_put, meth ("Reader", "put") (by decide +kernel), b_R_put⟩
  have m_R_begin_folder : Me CX0 _root_.KT.prog w K mg base 2 (He.ga K "Reader") "begin_folder" ["self", "path", "mark"] (spBegin (He.ga K "Reader")) := ⟨_, _, ok_begin rc m_R_put F_R_begin_folder, meth ("Reader", "begin_folder") (by decide +kernel), b_R_begin_folder⟩
  have m_R_take_pair : Me (L2.CX _root_.KT.prog w) _root_.KT.prog w K mg base 6 (He.ga K "Reader") "take_pair" ["self", "word", "line"] (spPair (He.ga K "Reader") (He.ga K "BadText") (He.ga K "Line")) := ⟨_, _, ok_pair tx rc lc mX m_L_next_number m_L_next_word F_R_take_pair, meth ("Reader", "take_pair") (by decide +kernel), b_R_take_pair⟩
  have m_R_entries : Me CX0 _root_.KT.prog w K mg base 8 (He.ga K "Reader") "entries" ["self", "path", "has_marks"] (spEntries (He.ga K "Reader") 7) := ⟨_, _, ok_entries tx rc F_R_entries (meth ("Reader", "entries") (by decide +kernel)) b_R_entries 7, meth ("Reader", "entries") (by decide +kernel), b_R_entries⟩
  have o_take := ok_take (w := w) (base := base) tx rc lc m_R_take_pair m_R_place_in m_R_begin_folder m_R_put m_L_next_number F_take_node
  have c_read_lines : Ca (L2.CX _root_.KT.prog w) _root_.KT.prog w K mg base 8 "read_lines" ["text", "sorts", "take"] (spLines (K := K) (He.ga K "Reader") (He.ga K "BadText") (He.fAd K ("take_node", none))) := ⟨_, _, ok_read_lines tx rc lc mX mR mL m_L_next_of m_L_need_end o_take F_take_node.kp b_take_node F_read_lines, g_read_lines, F_read_lines.kp, b_read_lines⟩
  have c_read_tree : Ca (L2.CX _root_.KT.prog w) _root_.KT.prog w K mg base 25 "read_tree" ["text"] (spRead K T (He.ga K "BadText") (He.ga K "BadTree")) := ⟨_, _, ok_read_tree tx rc c_read_lines g_take_node m_R_entries c_need_tree F_read_tree, g_read_tree, F_read_tree.kp, b_read_tree⟩
  have c_law_is_word : Ca CX0 _root_.KT.prog w K mg base 1 "_law_is_word" ["_law_word"] spWord := ⟨_, _, ok_lword tx F_law_is_word, g_law_is_word, F_law_is_word.kp, b_law_is_word⟩
  have c_law_is_number : Ca CX0 _root_.KT.prog w K mg base 1 "_law_is_number" ["_law_word"] spLNum := ⟨_, _, ok_lnum tx F_law_is_number, g_law_is_number, F_law_is_number.kp, b_law_is_number⟩
  have c_law_path_in : Ca CX0 _root_.KT.prog w K mg base 2 "_law_path_in" ["_law_word", "_law_most"] spPathIn := ⟨_, _, ok_lpath tx c_law_is_word F_law_path_in, g_law_path_in, F_law_path_in.kp, b_law_path_in⟩
  have c_law_at : Ca CX0 _root_.KT.prog w K mg base 1 "_law_at" ["_law_words", "_law_k"] (spAt K) := ⟨_, _, ok_lat tx F_law_at, g_law_at, F_law_at.kp, b_law_at⟩
  have c_law_wrong : Ca CX0 _root_.KT.prog w K mg base 3 "_law_wrong" ["_law_words", "_law_state"] (spWrong K) := ⟨_, _, ok_lwrong tx c_law_is_word c_law_is_number c_law_at c_law_path_in F_law_wrong, g_law_wrong, F_law_wrong.kp, b_law_wrong⟩
  have c_law_folder_of : Ca CX0 _root_.KT.prog w K mg base 9 "_law_folder_of" ["_law_rows", "_law_path"] (spFolderOf 7) := ⟨_, _, ok_lfo tx c_law_path_in F_law_folder_of g_law_folder_of b_law_folder_of 7, g_law_folder_of, F_law_folder_of.kp, b_law_folder_of⟩
  have c_law_due : Ca CX0 _root_.KT.prog w K mg base 10 "_law_due" ["_law_text"] (spDue K) := ⟨_, _, ok_ldue tx c_law_wrong c_law_folder_of F_law_due, g_law_due, F_law_due.kp, b_law_due⟩
  have c_law_said : Ca CX0 _root_.KT.prog w K mg base 27 "_law_said" ["_law_call"] (spSaid _root_.KT.prog w K mg base 26 (He.ga K)) := ⟨_, _, ok_lsaid tx sx F_law_said, g_law_said, F_law_said.kp, b_law_said⟩
  have c_law_like : CaG _root_.KT.prog w K mg base 1 "_law_like" ["_law_answer", "_law_due_here"] (spLike K) := ⟨_, _, ok_llike tx F_law_like, g_law_like, F_law_like.kp, b_law_like⟩
  have c_law_right : CaG _root_.KT.prog w K mg base 28 "_law_right" ["_law_text"] (spRight T) := ⟨_, _, ok_lright tx c_law_due c_law_said c_law_like c_need_tree c_read_tree FT_right TBr (List.mem_cons_of_mem _ List.mem_cons_self) huR, g_law_right, F_law_right.kp, b_law_right⟩
  have c_law_mixed : Ca CX0 _root_.KT.prog w K mg base 1 "_law_mixed" ["_law_cell", "_law_n"] spMixed := ⟨_, _, ok_mixed tx F_law_mixed, g_law_mixed, F_law_mixed.kp, b_law_mixed⟩
  have c_law_folded : Ca CX0 _root_.KT.prog w K mg base 1 "_law_folded" ["_law_script"] (spFolded K) := ⟨_, _, ok_folded tx F_law_folded, g_law_folded, F_law_folded.kp, b_law_folded⟩
  have c_law_draw : Ca CX0 _root_.KT.prog w K mg base 2 "_law_draw" ["_law_m", "_law_limit"] spDraw := ⟨_, _, ok_draw tx c_law_mixed F_law_draw, g_law_draw, F_law_draw.kp, b_law_draw⟩
  have c_law_begun : Ca CX0 _root_.KT.prog w K mg base 2 "_law_begun" ["_law_script"] (spBegun K) := ⟨_, _, ok_begun tx c_law_folded F_law_begun, g_law_begun, F_law_begun.kp, b_law_begun⟩
  have c_law_folder : Ca CX0 _root_.KT.prog w K mg base 5 "_law_folder" ["_law_m", "_law_deep", "_law_most"] (spLFolder 3) := ⟨_, _, ok_lfolder tx c_law_draw F_law_folder g_law_folder b_law_folder 3, g_law_folder, F_law_folder.kp, b_law_folder⟩
  have c_law_numbers : Ca CX0 _root_.KT.prog w K mg base 5 "_law_numbers" ["_law_node"] (spLNumbers 4) := ⟨_, _, ok_lnumbers tx F_law_numbers g_law_numbers b_law_numbers 4, g_law_numbers, F_law_numbers.kp, b_law_numbers⟩
  have c_law_tree : Ca CX0 _root_.KT.prog w K mg base 6 "_law_tree" ["_law_m", "_law_most"] spLTree := ⟨_, _, ok_ltree tx c_law_draw c_law_folder c_law_numbers F_law_tree, g_law_tree, F_law_tree.kp, b_law_tree⟩
  have c_law_bent : Ca CX0 _root_.KT.prog w K mg base 3 "_law_bent" ["_law_m", "_law_text"] spBent := ⟨_, _, ok_bent tx c_law_draw F_law_bent, g_law_bent, F_law_bent.kp, b_law_bent⟩
  exact ok_law tx c_law_begun c_law_tree c_tree_text c_law_right c_law_bent c_read_tree c_law_due F_law
end
end KF
end L2
set_option Elab.async false
set_option linter.all false
set_option maxRecDepth 100000
set_option maxHeartbeats 0
open PySem PySem.W PySem.Calls PyProof.Rows
theorem PySem.Challenge.cw_piledtrees_k92_whole_any_text_of_a_tree_holds : PySem.Challenge.rw_piledtrees_k92_whole_any_text_of_a_tree.Holds := by
  w_on; o_law
  refine HandSHeadRun.head_any (r := OpenLaw.row PySem.Challenge.rw_piledtrees_k92_whole_any_text_of_a_tree) (q := view (OpenLaw.row PySem.Challenge.rw_piledtrees_k92_whole_any_text_of_a_tree).prog [67]) (H := KHk.hk) (ob := KHk.ob) (M := 20000) (loose := KHk.loose) (d := HandSHeadRun.topDef (OpenLaw.row PySem.Challenge.rw_piledtrees_k92_whole_any_text_of_a_tree).prog 67) (kwd := []) KHk.ob_eq
    (by kernel_rfl) (fun s => by kernel_rfl) KHk.run (by kernel_rfl) (by kernel_rfl) (by kernel_rfl) (by rfl) (by first | assumption | decide +kernel) (by decide +kernel) ⟨rfl, rfl, rfl, rfl, rfl, by decide +kernel⟩ ?hw ?hc
  case hw => w_witness2
  case hc =>
    refine L2.KR.walk_ofG (l := PySem.Challenge.rw_piledtrees_k92_whole_any_text_of_a_tree) (n := 63) (k := 29) (x := "_law_script") rfl (by decide) (by kernel_rfl) ⟨rfl, by decide, by decide⟩ ?F
    intro w mg fa h Y G hmg0
    obtain ⟨K, KX, c⟩ := Y
    have hmg : mg ("law" : PySem.Str) = some (.ref fa) := by
      have e : (HandSHeadRun.topDef (OpenLaw.row PySem.Challenge.rw_piledtrees_k92_whole_any_text_of_a_tree).prog 67).name = ("law" : PySem.Str) := by kernel_rfl
      rw [← e]
      exact hmg0
    exact ⟨K, KX, L2.KF.facts KX G hmg c⟩
