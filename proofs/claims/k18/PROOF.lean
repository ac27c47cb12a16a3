import PyProof.Rows.All
import Wide.All
import OpenK.AllK
import Wide.FinOn
import HandS.Head2
import HandS.HeadHook2
import HandS.HeadHook3
import HandS.Words
import KE.KSuper
import KE.KNest
import HandS.ForMost
import HandS.ForExc
import HandS.Deep
import HandS.IsInst
import HandS.Lambda
import HandS.TupAny
import HandS.Wide
import HandS.Style
import HandS.Flow
import HandS.SortInts
import HandS.Walk
import HandS.WordsExc
import HandS.CallSlots
import HandS.ExcSuper
import HandS.ExcField
import KE.GoesEnum
import HandS.Ends
import HandS.Conv
import HandS.Text
import HandS.RaiseMore
import HandS.FltList
import PyProof.ReprRoads
import PyProof.CallStr
import PyProof.CallFns
import HandS.HeadEnd
import HandS.Defaults
import KE.KTupSum
import PyProof.StrBlock2
import HandS.TupMul
import KE.DataCmp
import KE.SortData
import KE.SortKeyHeap
import KE.DataFind
import KE.DataMinMax
import HandS.Zip
import HandS.More
import KE.KLam
import KE.KDictZip
import HandS.TryOnly
import HandS.ExcOwn
import PyProof.ListRange
import PyProof.ListNew
import PyProof.StrWalks
import PySem.Challenge.RW_whoiswho_k18_whole_marks_kept_of_lots
set_option Elab.async false
set_option linter.all false
set_option maxRecDepth 100000
set_option maxHeartbeats 8000000
/-! Pev: what a head is asked. -/
namespace Pev
open PySem PySem.Spec
open PyProof.Rows L2 He
/-- the first statement of a class -/
def initS : Stmt → Stmt
  | .ClassDef _ _ _ b _ _ _ _ _ _ _ => b.getD 0 (.Pass ⟨0, 0, 0, 0⟩)
  | s => s
/-- an own error: the module's name, its __init__, that one's qualified name, its field -/
structure ErrD where
  x : Str
  st : Stmt
  q : Str
  fld : Option Str
abbrev FnE : Type := Option (Str × Str × Arguments × FuncBody × Scope × Addr × Addr)
def clA (K : PySem.W.Frag) (e : ErrD) : Addr := ga K e.x
def inA (K : PySem.W.Frag) (e : ErrD) : Addr := ma K (ga K e.x) "__init__"
def fnE (K : PySem.W.Frag) (e : ErrD) : FnE := match K.lookup (inA K e) with
  | some ⟨_, _, .func fd, _⟩ => some (fd.name, fd.qualname, fd.params, fd.body, fd.scope, fd.globals, fd.builtins)
  | _ => none
def ErrD.val (e : ErrD) : FnE := some ("__init__", e.q, defArgs e.st, .stmts (defBody e.st), defScope e.st, mainGlobals, builtinsNs)
def clsB (K : PySem.W.Frag) (C B : Addr) : Bool := match K.lookup C with
  | some ⟨.type "type", _, .cls cd, sl⟩ => (match cd.mro, sl.toList with
    | [.ref C2, .ref B2, .type "Exception", .type "BaseException", .type "object"], [_, _, _, _, some (.builtin n), _] => decide (C2 = C) && (decide (B2 = B) && (decide (n = "Exception.__new__") && (cd.hasDict && !cd.hasDel)))
    | _, _ => false)
  | _ => false
def cellB (K : PySem.W.Frag) (P : Program) (C : Addr) (fd : FuncData) : Bool := match fd.defaults, fd.closure, fd.code with
  | .none, [(n, cc)], .ref cda => decide (n = ("__class__" : Str)) && ((match K.lookup cc with
    | some ⟨_, _, .cell (some (.ref C2)), _⟩ => decide (C2 = C)
    | _ => false) && (match K.lookup cda with
      | some ⟨_, _, .fields vs, _⟩ => (match (vs[2]? : Option Value) with
        | some (.str file _) => ((P.main.file : Str) == file)
        | _ => false)
      | _ => false))
  | _, _, _ => false
def fldB (K : PySem.W.Frag) (C : Addr) : Option Str → Bool
  | none => true
  | some f => eqO (PySem.W.findIn K (.ref C) "__setattr__") (some (some (.builtin "object.__setattr__"))) && (eqO (PySem.W.findIn K (.ref C) "__getattribute__") (some (some (.builtin "BaseException.__getattribute__"))) &&
    (eqO (PySem.W.findIn K (.ref C) "__getattr__") (some none) && (eqO (PySem.W.findIn K (.ref C) f) (some none) && PySem.W.hasDictIn K C)))
def excB (K : PySem.W.Frag) (C : Addr) : Bool := decide (PySem.W.subIn K (.ref C) (.type "BaseException") = some true) && decide (PySem.W.typeIn K (.ref C) = some (.type "type"))
def ErrD.ok (P : Program) (B : Addr) (K : PySem.W.Frag) (e : ErrD) : Bool :=
  eqO (PySem.W.nsIn K mainGlobals e.x) (some (some (.ref (clA K e)))) && (clsB K (clA K e) B && (eqO (PySem.W.findIn K (.ref (clA K e)) "__init__") (some (some (.ref (inA K e)))) && (decide (PySem.W.typeIn K (.ref (inA K e)) = some (.type "function")) &&
    (PySem.W.keepIn K (.ref (clA K e)) && (excB K (clA K e) && (eqO (PySem.W.ks_superIn K (clA K e) (clA K e) "__init__") (some (some (.builtin "Exception.__init__"))) && (fldB K (clA K e) e.fld &&
      (match K.lookup (inA K e) with
        | some ⟨_, _, .func fd, _⟩ => PySem.W.codeIn K fd.code e.q && cellB K P (clA K e) fd
        | _ => false))))))))
/-! ### the Hook -/
def asP (g : Addr → Option Obj) : Nat → List Addr
  | 0 => [mainGlobals, cStatics]
  | n + 1 => growD g (asP g n)
/-- a written dict: its name, its keys and values -/
abbrev TabP : Type := Str × List (Str × He.Dv)
abbrev AlP : Type := Bool × List FnW × List FnE × List (Option (List (Option (Str × Int))))
def extB (P : Program) (es : List ErrD) (K : PySem.W.Frag) : Bool := es.isEmpty || (eqO (PySem.W.nsIn K cStatics "thirdparty.any") (some none) && (eqO (PySem.W.nsIn K mainGlobals "WhoError") (some (some (.ref (ga K "WhoError")))) && (excB K (ga K "WhoError") && (PySem.W.isClsIn K (ga K "WhoError") &&
  (decide ((es.map (clA K)).Nodup) && (decide (ga K "WhoError" ∉ es.map (clA K)) && es.all fun e => e.ok P (ga K "WhoError") K))))))
def obsP (P : Program) (fa : List Fa) (tp : List (Str × List Dv)) (fn : List DefD) (es : List ErrD) (ts : List TabP) (K : PySem.W.Frag) : AlP := (((fa.all fun f => f.ok K) && (tp.all fun q => tupB K q.1 q.2) && ts.all fun t => valsB K (ga K t.1) t.2) && ((fn.all fun d => d.ok K) && extB P es K), fn.map fun d => fnW K d.at_, es.map (fnE K), ts.map fun t => dicW K (ga K t.1))
def valP (fn : List DefD) (es : List ErrD) (ts : List TabP) (w : World) : AlP := (true, fn.map DefD.val, es.map ErrD.val, ts.map fun t => some (keysIn w.params (t.2.map (·.1))))
def SaysP (P : Program) (fa : List Fa) (tp : List (Str × List Dv)) (fn : List DefD) (es : List ErrD) (ts : List TabP) (w : World) (K : PySem.W.Frag) : Prop := obsP P fa tp fn es ts K = valP fn es ts w
end Pev
/-! Pev: what a head is asked where defs make lambdas. -/
namespace Pev
open PySem PySem.Spec
open PyProof.Rows L2 He
/-- an empty table of code objects -/
def isTab0 : Obj → Bool
  | ⟨.none, none, .fields a, sl⟩ => a.toList.isEmpty && sl.toList.isEmpty
  | _ => false
def asL (g : Addr → Option Obj) (n : Nat) : List Addr := (asP g n).filter fun a => match g a with
  | some o => !isTab0 o
  | none => true
/-- the table that a code object names, where its fields are as they ought to be -/
def codeTab (c : Addr) : Obj → Option Addr
  | ⟨.type "code", _, .fields vs, _⟩ => (match (vs[11]? : Option Value), vs.getD 11 .none, vs.getD 18 .none, vs.getD 7 .none, vs.getD 9 .none, vs.getD 10 .none with
    | some (.ref P), .ref P2, .str _ _, .int _ _, .bool _, .int _ _ => if P = P2 ∧ c ≠ P then some P else none
    | _, _, _, _, _, _ => none)
  | _ => none
/-- the code object of the def x -/
def codeOf (K : PySem.W.Frag) (x : Str) : Option Addr := match K.lookup (ga K x) with
  | some ⟨_, _, .func fd, _⟩ => (match fd.code with
    | .ref c => some c
    | _ => none)
  | _ => none
/-- its table -/
def lamT (g : Addr → Option Obj) (K : PySem.W.Frag) (x : Str) : Option Addr := match codeOf K x with
  | some c => (match g c with
    | some o => codeTab c o
    | none => none)
  | none => none
def lamB (g : Addr → Option Obj) (K : PySem.W.Frag) (x : Str) : Bool := match lamT g K x with
  | some P => (K.lookup P).isNone && (match g P with
    | some t => isTab0 t
    | none => false)
  | none => false
def lamsB (g : Addr → Option Obj) (K : PySem.W.Frag) (lm : List Str) : Bool := lm.all (lamB g K) && decide ((lm.map (lamT g K)).Nodup)
/-- what is so then -/
structure LamAt (h : Heap) (K : PySem.W.Frag) (x : Str) (c P : Addr) : Prop where
  code : codeOf K x = some c
  hd : PySem.W.CodeHd h c P
  tab : h.get? P = some { cls := .none, data := .fields #[] }
  out : K.lookup P = none
def LamsAt (h : Heap) (K : PySem.W.Frag) (lm : List Str) : Prop := ∃ cs : List (Addr × Addr), cs.length = lm.length ∧ (∀ (i : Nat) (x : Str) (p : Addr × Addr), lm[i]? = some x → cs[i]? = some p → LamAt h K x p.1 p.2) ∧ (cs.map (·.2)).Nodup
theorem isTab0_ok {t : Obj} (h : isTab0 t = true) : t = { cls := .none, data := .fields #[] } := by
  unfold isTab0 at h
  split at h
  · rename_i a sl
    rw [Bool.and_eq_true] at h
    obtain ⟨a⟩ := a
    obtain ⟨sl⟩ := sl
    obtain ⟨h1, h2⟩ := h
    cases a with
    | nil =>
      cases sl with
      | nil => rfl
      | cons => cases h2
    | cons => cases h1
  · cases h
theorem codeTab_ok {h : Heap} {c P : Addr} {o : Obj} (e : h.get? c = some o) (q : codeTab c o = some P) : PySem.W.CodeHd h c P := by
  unfold codeTab at q
  split at q
  · rename_i od vs sl
    split at q
    · rename_i P1 P2 file tf flags tg inF text tt e1 e2 e3 e4 e5 e6
      split at q
      · rename_i z
        obtain ⟨rfl, ne⟩ := z
        cases q
        exact ⟨_, vs, file, tf, flags, tg, inF, text, tt, e, rfl, rfl, e1, e2, e3, e4, e5, e6, ne⟩
      · cases q
    · cases q
  · cases q
theorem lamB_ok {h : Heap} {K : PySem.W.Frag} {x : Str} (e : lamB h.get? K x = true) : ∃ c P, lamT h.get? K x = some P ∧ LamAt h K x c P := by
  unfold lamB at e
  split at e
  · rename_i P q
    rw [Bool.and_eq_true] at e
    obtain ⟨e1, e2⟩ := e
    split at e2
    · rename_i t ht
      have q2 := q
      unfold lamT at q
      split at q
      · rename_i c hc
        split at q
        · rename_i o ho
          exact ⟨c, P, q2, hc, codeTab_ok ho q, by rw [ht, isTab0_ok e2], Option.isNone_iff_eq_none.mp e1⟩
        · cases q
      · cases q
    · cases e2
  · cases e
theorem lams_ok {h : Heap} {K : PySem.W.Frag} {lm : List Str} (e : lamsB h.get? K lm = true) : LamsAt h K lm := by
  unfold lamsB at e
  rw [Bool.and_eq_true] at e
  obtain ⟨e1, e2⟩ := e
  have e2 := of_decide_eq_true e2
  have gen : ∀ lm : List Str, (∀ x ∈ lm, lamB h.get? K x = true) → ∃ cs : List (Addr × Addr), cs.length = lm.length ∧ (∀ (i : Nat) (x : Str) (p : Addr × Addr), lm[i]? = some x → cs[i]? = some p → LamAt h K x p.1 p.2) ∧ cs.map (fun p => some p.2) = lm.map (lamT h.get? K) := by
    intro lm
    induction lm with
    | nil => exact fun _ => ⟨[], rfl, fun i x p e => by simp at e, rfl⟩
    | cons x lm ih =>
      intro hh
      obtain ⟨cs, l1, l2, l3⟩ := ih fun y hy => hh y (List.mem_cons_of_mem _ hy)
      obtain ⟨c, P, t1, t2⟩ := lamB_ok (hh x List.mem_cons_self)
      refine ⟨(c, P) :: cs, by rw [List.length_cons, List.length_cons, l1], fun i y p a b => ?_, by rw [List.map_cons, List.map_cons, l3, t1]⟩
      cases i with
      | zero =>
        cases a
        cases b
        exact t2
      | succ i => exact l2 i y p (by simpa using a) (by simpa using b)
  obtain ⟨cs, l1, l2, l3⟩ := gen lm (List.all_eq_true.mp e1)
  refine ⟨cs, l1, l2, ?_⟩
  rw [← l3] at e2
  have : cs.map (fun p => some p.2) = (cs.map (·.2)).map some := by rw [List.map_map]; rfl
  rw [this] at e2
  exact List.Pairwise.of_map (f := some) (S := (· ≠ ·)) (fun a b h z => h (congrArg some z)) e2
theorem LamsAt.keeps {h h' : Heap} {K : PySem.W.Frag} {lm : List Str} (x : LamsAt h K lm) (k : ∀ b o, h.get? b = some o → h'.get? b = some o) : LamsAt h' K lm :=
  let ⟨cs, l1, l2, l3⟩ := x
  ⟨cs, l1, fun i y p a b => let z := l2 i y p a b; ⟨z.code, z.hd.keeps k, k _ _ z.tab, z.out⟩, l3⟩
abbrev AlL : Type := Bool × AlP
def obsLG (n : Nat) (P : Program) (fa : List Fa) (tp : List (Str × List Dv)) (fn : List DefD) (es : List ErrD) (ts : List TabP) (lm : List Str) (g : Addr → Option Obj) : AlL := (lamsB g (frG g (asL g n)) lm, obsP P fa tp fn es ts (frG g (asL g n)))
def hookLm (n : Nat) (P : Program) (fa : List Fa) (tp : List (Str × List Dv)) (fn : List DefD) (es : List ErrD) (ts : List TabP) (lm : List Str) : PySem.W.Hook where
  α := AlL
  obs := fun s => obsLG n P fa tp fn es ts lm s.heap.get?
  val := fun w => (true, valP fn es ts w)
  says := fun w h => ∃ K : PySem.W.Frag, K.In h ∧ SaysP P fa tp fn es ts w K ∧ LamsAt h K lm
  of := fun _ _ e => ⟨_, frG_in, congrArg (fun z : AlL => z.2) e, lams_ok (congrArg (fun z : AlL => z.1) e)⟩
  keeps := fun _ _ _ ⟨K, hK, c, l⟩ k => ⟨K, PySem.W.Frag.In.keeps hK k, c, l.keeps k⟩
theorem obsLG_eq {n : Nat} {P : Program} {fa : List Fa} {tp : List (Str × List Dv)} {fn : List DefD} {es : List ErrD} {ts : List TabP} {lm : List Str} {g : Addr → Option Obj} {s : Shared} (h : ∀ a, g a = s.heap.get? a) : obsLG n P fa tp fn es ts lm g = (hookLm n P fa tp fn es ts lm).obs s := by
  have e : g = s.heap.get? := funext h
  rw [e] <;> rfl
end Pev
namespace Lw
open PySem PySem.Spec PyProof.Rows L2 Pev
/-! ### the text -/
def topS (i : Nat) : Stmt := PySem.Challenge.pw_whoiswho_k18_whole_marks_kept_of_lots.main.body.getD i (.Pass ⟨0, 0, 0, 0⟩)
abbrev s_is_integer : Stmt := topS 5
abbrev s_need_many : Stmt := topS 9
abbrev s_is_number : Stmt := topS 6
abbrev s_is_sequence : Stmt := topS 7
abbrev s_are_unlike : Stmt := topS 10
abbrev s_need_marks : Stmt := topS 12
abbrev s_kept_of : Stmt := topS 14
abbrev s_first_marks : Stmt := topS 15
abbrev s_lots_apart : Stmt := topS 13
abbrev s_is_pair : Stmt := topS 8
abbrev s_need_kept_rows : Stmt := topS 16
abbrev s_keeping_paper : Stmt := topS 17
abbrev s__law_box : Stmt := topS 19
abbrev s__law_take : Stmt := topS 20
abbrev s__law_mixed : Stmt := topS 22
abbrev s__law_apart : Stmt := topS 23
abbrev s__law_common : Stmt := topS 24
abbrev s__law_kept : Stmt := topS 25
abbrev s__law_parts : Stmt := topS 26
abbrev s__law_missed : Stmt := topS 27
abbrev s__law_pick : Stmt := topS 21
abbrev s__law_refused : Stmt := topS 28
abbrev s__law_errors : Stmt := topS 29
abbrev s_law : Stmt := topS 30
abbrev si_0 : Stmt := initS (topS 2)
abbrev ed_0 : ErrD := ⟨"InvalidLot", si_0, "InvalidLot.__init__", some "at"⟩
abbrev si_1 : Stmt := initS (topS 3)
abbrev ed_1 : ErrD := ⟨"InvalidSize", si_1, "InvalidSize.__init__", some "word"⟩
abbrev df_is_integer : He.DefD := ⟨("is_integer", none), "is_integer", "is_integer", defArgs s_is_integer, defBody s_is_integer, defScope s_is_integer, [], []⟩
abbrev df_need_many : He.DefD := ⟨("need_many", none), "need_many", "need_many", defArgs s_need_many, defBody s_need_many, defScope s_need_many, [.int 0], []⟩
abbrev df_is_number : He.DefD := ⟨("is_number", none), "is_number", "is_number", defArgs s_is_number, defBody s_is_number, defScope s_is_number, [], []⟩
abbrev df_is_sequence : He.DefD := ⟨("is_sequence", none), "is_sequence", "is_sequence", defArgs s_is_sequence, defBody s_is_sequence, defScope s_is_sequence, [], []⟩
abbrev df_are_unlike : He.DefD := ⟨("are_unlike", none), "are_unlike", "are_unlike", defArgs s_are_unlike, defBody s_are_unlike, defScope s_are_unlike, [], []⟩
abbrev df_need_marks : He.DefD := ⟨("need_marks", none), "need_marks", "need_marks", defArgs s_need_marks, defBody s_need_marks, defScope s_need_marks, [], []⟩
abbrev df_kept_of : He.DefD := ⟨("kept_of", none), "kept_of", "kept_of", defArgs s_kept_of, defBody s_kept_of, defScope s_kept_of, [], []⟩
abbrev df_first_marks : He.DefD := ⟨("first_marks", none), "first_marks", "first_marks", defArgs s_first_marks, defBody s_first_marks, defScope s_first_marks, [], []⟩
abbrev df_lots_apart : He.DefD := ⟨("lots_apart", none), "lots_apart", "lots_apart", defArgs s_lots_apart, defBody s_lots_apart, defScope s_lots_apart, [], []⟩
abbrev df_is_pair : He.DefD := ⟨("is_pair", none), "is_pair", "is_pair", defArgs s_is_pair, defBody s_is_pair, defScope s_is_pair, [], []⟩
abbrev df_need_kept_rows : He.DefD := ⟨("need_kept_rows", none), "need_kept_rows", "need_kept_rows", defArgs s_need_kept_rows, defBody s_need_kept_rows, defScope s_need_kept_rows, [], []⟩
abbrev df_keeping_paper : He.DefD := ⟨("keeping_paper", none), "keeping_paper", "keeping_paper", defArgs s_keeping_paper, defBody s_keeping_paper, defScope s_keeping_paper, [], []⟩
abbrev df__law_box : He.DefD := ⟨("_law_box", none), "_law_box", "_law_box", defArgs s__law_box, defBody s__law_box, defScope s__law_box, [], []⟩
abbrev df__law_take : He.DefD := ⟨("_law_take", none), "_law_take", "_law_take", defArgs s__law_take, defBody s__law_take, defScope s__law_take, [], []⟩
abbrev df__law_mixed : He.DefD := ⟨("_law_mixed", none), "_law_mixed", "_law_mixed", defArgs s__law_mixed, defBody s__law_mixed, defScope s__law_mixed, [], []⟩
abbrev df__law_apart : He.DefD := ⟨("_law_apart", none), "_law_apart", "_law_apart", defArgs s__law_apart, defBody s__law_apart, defScope s__law_apart, [], []⟩
abbrev df__law_common : He.DefD := ⟨("_law_common", none), "_law_common", "_law_common", defArgs s__law_common, defBody s__law_common, defScope s__law_common, [], []⟩
abbrev df__law_kept : He.DefD := ⟨("_law_kept", none), "_law_kept", "_law_kept", defArgs s__law_kept, defBody s__law_kept, defScope s__law_kept, [], []⟩
abbrev df__law_parts : He.DefD := ⟨("_law_parts", none), "_law_parts", "_law_parts", defArgs s__law_parts, defBody s__law_parts, defScope s__law_parts, [], []⟩
abbrev df__law_missed : He.DefD := ⟨("_law_missed", none), "_law_missed", "_law_missed", defArgs s__law_missed, defBody s__law_missed, defScope s__law_missed, [], []⟩
abbrev df__law_pick : He.DefD := ⟨("_law_pick", none), "_law_pick", "_law_pick", defArgs s__law_pick, defBody s__law_pick, defScope s__law_pick, [], []⟩
abbrev df__law_refused : He.DefD := ⟨("_law_refused", none), "_law_refused", "_law_refused", defArgs s__law_refused, defBody s__law_refused, defScope s__law_refused, [], []⟩
abbrev df__law_errors : He.DefD := ⟨("_law_errors", none), "_law_errors", "_law_errors", defArgs s__law_errors, defBody s__law_errors, defScope s__law_errors, [], []⟩
abbrev df_law : He.DefD := ⟨("law", none), "law", "law", defArgs s_law, defBody s_law, defScope s_law, [], []⟩
def fnL : List He.DefD := [df_is_integer, df_need_many, df_is_number, df_is_sequence, df_are_unlike, df_need_marks, df_kept_of, df_first_marks, df_lots_apart, df_is_pair, df_need_kept_rows, df_keeping_paper, df__law_box, df__law_take, df__law_mixed, df__law_apart, df__law_common, df__law_kept, df__law_parts, df__law_missed, df__law_pick, df__law_refused, df__law_errors, df_law]
def faL : List He.Fa := ([.glo "is_integer", .glo "need_many", .glo "is_number", .glo "is_sequence", .glo "are_unlike", .glo "need_marks", .glo "kept_of", .glo "first_marks", .glo "lots_apart", .glo "is_pair", .glo "need_kept_rows", .glo "keeping_paper", .glo "_law_box", .glo "_law_take", .glo "_law_mixed", .glo "_law_apart", .glo "_law_common", .glo "_law_kept", .glo "_law_parts", .glo "_law_missed", .glo "_law_pick", .glo "_law_refused", .glo "_law_errors", .glo "law", .free "abs", .free "all", .free "any", .free "bool", .free "enumerate", .free "int"] : List He.Fa) ++ ([.free "isinstance", .free "len", .free "list", .free "max", .free "min", .free "range", .free "sorted", .free "tuple", .free "super"] : List He.Fa)
def tsL : List TabP := []
def tpL : List (Str × List He.Dv) := []
def esL : List ErrD := [ed_0, ed_1]
def lmL : List Str := ["_law_errors"]
abbrev hkL : PySem.W.Hook := hookLm 5 PySem.Challenge.pw_whoiswho_k18_whole_marks_kept_of_lots faL tpL fnL esL tsL lmL
def obL (s : PySem.W.SharedT) : AlL := obsLG 5 PySem.Challenge.pw_whoiswho_k18_whole_marks_kept_of_lots faL tpL fnL esL tsL lmL (HandSHeadRun.getT s)
theorem obL_eq (s : PySem.W.SharedT) : obL s = hkL.obs s.abs := obsLG_eq (HandSHeadRun.getT_eq s)
def lsL : List Str := ["__name__", "WhoError", "InvalidLot", "InvalidSize", "is_integer", "is_number", "is_sequence", "is_pair", "need_many", "are_unlike", "need_marks", "lots_apart", "kept_of", "first_marks", "need_kept_rows", "keeping_paper", "_law_box", "_law_take", "_law_pick", "_law_mixed", "_law_apart", "_law_common", "_law_kept", "_law_parts", "_law_missed", "_law_refused", "_law_errors"]
theorem runL (w : World) : HandSHeadRun.RunEq (PySem.W.OpenLaw.row PySem.Challenge.rw_whoiswho_k18_whole_marks_kept_of_lots) (PySem.W.view (PySem.W.OpenLaw.row PySem.Challenge.rw_whoiswho_k18_whole_marks_kept_of_lots).prog [30]) hkL obL 40000 lsL w := by
  intro os
  kernel_rfl
end Lw
/-! Pev, first part: values, the store, what stands for what. -/
namespace Pev
open PySem PySem.Spec PyProof.Rows L2

/-- a value at run time: data that never changes, a place of the store, a list that is read alone -/
inductive R where
  | dat (d : PyData) | obj (k : Nat) | ro (ds : List PyData) | err (c : Nat) (f : Option PyData)
  /-- a lambda without parameters, or such a one and what is due, in a tuple -/
  | lam (i : Nat) (f : Option PyData)

inductive Cell where
  | dead | lst (rs : List R)

abbrev Sto := List Cell
abbrev Rho := List (Option R)

inductive Out (α : Type) where
  | ok (a : α) (S : Sto) | exc (c : Nat) (f : Option PyData) (S : Sto) | stuck

inductive OutS where
  | nx (ρ : Rho) (S : Sto) | rt (r : R) (S : Sto) | bk (ρ : Rho) (S : Sto) | ct (ρ : Rho) (S : Sto)
  | exc (c : Nat) (f : Option PyData) (ρ : Rho) (S : Sto) | stuck

abbrev EM := Rho → Sto → Out R
abbrev EMs := Rho → Sto → Out (List R)
abbrev TM := Rho → Sto → Out Bool
abbrev SM := Rho → Sto → OutS
abbrev FM := List R → Sto → Out R

def Out.bind {α β : Type} (o : Out α) (f : α → Sto → Out β) : Out β := match o with
  | .ok a S => f a S
  | .exc c d S => .exc c d S
  | .stuck => .stuck

/-! ### addresses -/
def live (α : List (Option Addr)) : List Addr := α.filterMap id
theorem mem_live {α : List (Option Addr)} {a : Addr} : a ∈ live α ↔ ∃ k : Nat, α[k]? = some (some a) := by
  unfold live
  rw [List.mem_filterMap]
  constructor
  · rintro ⟨o, ho, e⟩
    obtain ⟨k, hk⟩ := List.mem_iff_getElem?.mp ho
    refine ⟨k, ?_⟩
    rw [hk]
    cases o with
    | none => cases e
    | some b => cases e; rfl
  · rintro ⟨k, hk⟩
    exact ⟨some a, List.mem_iff_getElem?.mpr ⟨k, hk⟩, rfl⟩

/-- no table of code objects -/
def NT : HO → Prop
  | .tbl _ => False
  | _ => True
/-- the heap without some places, and without tables -/
def hid (B : List Addr) (H : Hp) : Hp := fun a => if a ∈ B then none else match H a with
  | some (.tbl _) => none
  | x => x
theorem hid_some {B : List Addr} {H : Hp} {a : Addr} {o : HO} : hid B H a = some o ↔ a ∉ B ∧ H a = some o ∧ NT o := by
  unfold hid
  by_cases h : a ∈ B
  · rw [if_pos h]
    exact ⟨fun z => (by cases z), fun z => absurd h z.1⟩
  · rw [if_neg h]
    cases q : H a with
    | none => exact ⟨fun z => (by cases z), fun z => (by cases z.2.1)⟩
    | some x =>
      cases x with
      | tbl ps => exact ⟨fun z => (by cases z), fun z => (by cases z.2.1; exact z.2.2.elim)⟩
      | _ => exact ⟨fun z => (by cases z; exact ⟨h, rfl, trivial⟩), fun z => z.2.1⟩
theorem hid_le {B : List Addr} {H : Hp} : Same (hid B H) H := fun _ _ h => (hid_some.mp h).2.1

/-! ### data -/
mutual
inductive Dq (K : PySem.W.Frag) (H : Hp) : V → PyData → Prop
  | non : Dq K H .non .none
  | bl (b : Bool) : Dq K H (.bl b) (.bool b)
  | int (i : Int) : Dq K H (.int i) (.int i)
  | str (x : Str) : Dq K H (.str x) (.str x)
  | lst {a : Addr} {vs : List V} {ds : List PyData} : H a = some (.lst vs) → DqAll K H vs ds → Dq K H (.ref a) (.list ds)
  | tup {a : Addr} {vs : List V} {ds : List PyData} : SqT K H a vs → DqAll K H vs ds → Dq K H (.ref a) (.tuple ds)
inductive DqAll (K : PySem.W.Frag) (H : Hp) : List V → List PyData → Prop
  | nil : DqAll K H [] []
  | cons {v : V} {vs : List V} {d : PyData} {ds : List PyData} : Dq K H v d → DqAll K H vs ds → DqAll K H (v :: vs) (d :: ds)
end

theorem sqT_same {K : PySem.W.Frag} {H H' : Hp} {a : Addr} {xs : List V} (e : Same H H') (h : SqT K H a xs) : SqT K H' a xs := by
  rcases h with (h | ⟨o, h⟩) | h
  · exact .inl (.inl (e _ _ h))
  · exact .inl (.inr ⟨o, e _ _ h⟩)
  · exact .inr h

section
variable {K : PySem.W.Frag} {H H' : Hp}
mutual
theorem Dq.same (e : Same H H') : ∀ {v : V} {d : PyData}, Dq K H v d → Dq K H' v d
  | _, _, .non => .non
  | _, _, .bl b => .bl b
  | _, _, .int i => .int i
  | _, _, .str x => .str x
  | _, _, .lst h hs => .lst (e _ _ h) (DqAll.same e hs)
  | _, _, .tup h hs => .tup (sqT_same e h) (DqAll.same e hs)
theorem DqAll.same (e : Same H H') : ∀ {vs : List V} {ds : List PyData}, DqAll K H vs ds → DqAll K H' vs ds
  | _, _, .nil => .nil
  | _, _, .cons h t => .cons (Dq.same e h) (DqAll.same e t)
end
mutual
theorem Dq.dp : ∀ {v : V} {d : PyData}, Dq K H v d → Dp K H v d
  | _, _, .non => .non
  | _, _, .bl b => .bl b
  | _, _, .int i => .int i
  | _, _, .str x => .str x
  | _, _, .lst h hs => .lst (SqL.of h) (DqAll.dp hs)
  | _, _, .tup h hs => .tup h (DqAll.dp hs)
theorem DqAll.dp : ∀ {vs : List V} {ds : List PyData}, DqAll K H vs ds → DpAll K H vs ds
  | _, _, .nil => .nil
  | _, _, .cons h t => .cons (Dq.dp h) (DqAll.dp t)
end
theorem DqAll.length : ∀ {vs : List V} {ds : List PyData}, DqAll K H vs ds → vs.length = ds.length
  | _, _, .nil => rfl
  | _, _, .cons _ t => by rw [List.length_cons, List.length_cons, DqAll.length t]
theorem DqAll.get : ∀ {vs : List V} {ds : List PyData} {i : Nat} {d : PyData}, DqAll K H vs ds → ds[i]? = some d → ∃ v, vs[i]? = some v ∧ Dq K H v d
  | _, _, _, _, .nil, e => by simp at e
  | _, _, 0, _, .cons h _, e => by simp at e; subst e; exact ⟨_, rfl, h⟩
  | _, _, i + 1, _, .cons _ t, e => by
    obtain ⟨v, h1, h2⟩ := DqAll.get (i := i) t (by simpa using e)
    exact ⟨v, by simpa using h1, h2⟩
theorem DqAll.append : ∀ {vs ws : List V} {ds es : List PyData}, DqAll K H vs ds → DqAll K H ws es → DqAll K H (vs ++ ws) (ds ++ es)
  | _, _, _, _, .nil, h => h
  | _, _, _, _, .cons h t, s => .cons h (DqAll.append t s)
end

/-! ### what stands for what -/
/-- a lambda without parameters, as its maker makes it -/
structure LamI where
  q : Str
  params : Arguments
  body : Expr
  scope : Scope
  clo : List (Str × Addr)
structure Tb where
  K : PySem.W.Frag
  cls : Nat → Addr
  fld : Nat → Str
  /-- the exception that an except suite holds -/
  cur : Option (Addr × Value × Option Addr × Nat) := none
  /-- the tables of code objects of the defs that hold lambdas, and the names of these -/
  tabs : List (Addr × Str) := []
  /-- the lambdas without parameters that are about -/
  lams : List LamI := []
  /-- what a lambda needs when it is called -/
  ctx : List Addr → List (Option Addr) → Hp → Prop := fun _ _ _ => True
  ctxS : ∀ (β : List Addr) (α : List (Option Addr)) (H : Hp) (β' : List Addr) (α' : List (Option Addr)) (H' : Hp), α.length ≤ α'.length → (∀ (k : Nat) (a : Addr), k < α.length → α'[k]? = some (some a) → α[k]? = some (some a)) →
    Same (hid (β ++ live α) H) (hid (β' ++ live α') H') → ctx β α H → ctx β' α' H' := by intros; trivial
instance : Coe Tb PySem.W.Frag := ⟨Tb.K⟩

/-- the places that data may not use -/
def blk (β : List Addr) (α : List (Option Addr)) : List Addr := β ++ live α

def ExcR (T : Tb) (β : List Addr) (α : List (Option Addr)) (H : Hp) (c : Nat) (f : Option PyData) (cls : Value) (d : Option Addr) : Prop :=
  cls = .ref (T.cls c) ∧ ∀ z, f = some z → ∃ dd v, d = some dd ∧ hid (blk β α) H dd = some (.xd [(T.fld c, v)]) ∧ Dq T.K (hid (blk β α) H) v z

/-- the function object at a -/
def LamOb (a : Addr) (L : LamI) (pm : Value) (c' : Addr) (ctv : Value) : HO := .ext fun h => h.get? a = some (PySem.W.kla_obj "<lambda>" L.q L.params L.body L.scope L.clo pm c' ctv)
def LamV (K : Tb) (H : Hp) (i : Nat) (a : Addr) : Prop := ∃ L pm c' ctv, K.lams[i]? = some L ∧ H a = some (LamOb a L pm c' ctv) ∧ H c' = some (LamX.CodeO c' L.q)
def LamR (K : Tb) (H : Hp) (i : Nat) : Option PyData → V → Prop
  | none, v => ∃ a, v = .ref a ∧ LamV K H i a
  | some d, v => ∃ a f w, v = .ref a ∧ SqT K.K H a [.ref f, w] ∧ LamV K H i f ∧ Dq K.K H w d
theorem LamV.same {K : Tb} {H H' : Hp} (e : Same H H') {i : Nat} {a : Addr} (h : LamV K H i a) : LamV K H' i a := by
  obtain ⟨L, pm, c', ctv, h1, h2, h3⟩ := h
  exact ⟨L, pm, c', ctv, h1, e _ _ h2, e _ _ h3⟩
theorem LamR.same {K : Tb} {H H' : Hp} (e : Same H H') {i : Nat} {f : Option PyData} {v : V} (h : LamR K H i f v) : LamR K H' i f v := by
  cases f with
  | none =>
    obtain ⟨a, rfl, h1⟩ := h
    exact ⟨a, rfl, h1.same e⟩
  | some d =>
    obtain ⟨a, f, w, rfl, h1, h2, h3⟩ := h
    exact ⟨a, f, w, rfl, sqT_same e h1, h2.same e, Dq.same e h3⟩
def Vr (K : Tb) (β : List Addr) (α : List (Option Addr)) (H : Hp) : R → V → Prop
  | .dat d, v => Dq K (hid (blk β α) H) v d
  | .obj k, v => k < α.length ∧ ∀ a, α[k]? = some (some a) → v = .ref a
  | .ro ds, v => ∃ a vs, v = .ref a ∧ SqL K (hid (blk β α) H) a vs ∧ DqAll K (hid (blk β α) H) vs ds
  | .err _ _, _ => False
  | .lam i f, v => LamR K (hid (blk β α) H) i f v ∧ K.ctx β α H

abbrev Vrs (K : Tb) (β : List Addr) (α : List (Option Addr)) (H : Hp) : List R → List V → Prop := Paired (Vr K β α H)

/-- a list -/
def ML : Option HO → Prop
  | some (.lst _) => True
  | _ => False
theorem ML.mut : ∀ {o : Option HO}, ML o → Mut o
  | some (.lst _), _ => trivial
  | some (.tup _), h => h.elim
  | some (.dK _), h => h.elim
  | some (.dT _), h => h.elim
  | some (.set _ _), h => h.elim
  | some (.ins _ _ _), h => h.elim
  | some (.own _), h => h.elim
  | some (.xd _), h => h.elim
  | some (.met _ _), h => h.elim
  | some (.rng _ _), h => h.elim
  | some (.frz _ _), h => h.elim
  | some (.tbl _), h => h.elim
  | some (.ext _), h => h.elim
  | none, h => h.elim

/-- what may stand at a place that data may not use -/
def Bd : Option HO → Prop
  | none => False
  | some (.tbl _) => False
  | some (.ext _) => False
  | some _ => True
theorem Bd.has {o : Option HO} (h : Bd o) : o ≠ none := fun e => by rw [e] at h; exact h
theorem Bd.nt {o : HO} (h : Bd (some o)) : NT o := by
  cases o <;> first | trivial | exact h
theorem ML.bd : ∀ {o : Option HO}, ML o → Bd o
  | some (.lst _), _ => trivial
  | some (.tup _), h => h.elim
  | some (.dK _), h => h.elim
  | some (.dT _), h => h.elim
  | some (.set _ _), h => h.elim
  | some (.ins _ _ _), h => h.elim
  | some (.own _), h => h.elim
  | some (.xd _), h => h.elim
  | some (.met _ _), h => h.elim
  | some (.rng _ _), h => h.elim
  | some (.frz _ _), h => h.elim
  | some (.tbl _), h => h.elim
  | some (.ext _), h => h.elim
  | none, h => h.elim
structure Rl (K : Tb) (β : List Addr) (α : List (Option Addr)) (S : Sto) (H : Hp) : Prop where
  len : α.length = S.length
  inj : ∀ (k j : Nat) (a : Addr), α[k]? = some (some a) → α[j]? = some (some a) → k = j
  off : ∀ a ∈ live α, a ∉ β
  bt : ∀ b ∈ β, Bd (H b)
  mt : ∀ a ∈ live α, ML (H a)
  cell : ∀ (k : Nat) (rs : List R), S[k]? = some (.lst rs) → ∃ a vs, α[k]? = some (some a) ∧ H a = some (.lst vs) ∧ Vrs K β α H rs vs
  tab : LamX.Tabs K.tabs H

/-- how a state may go on -/
structure Ext (α : List (Option Addr)) (H : Hp) (α' : List (Option Addr)) (H' : Hp) : Prop where
  len : α.length ≤ α'.length
  old : ∀ (k : Nat) (a : Addr), k < α.length → α'[k]? = some (some a) → α[k]? = some (some a)
  new : ∀ (k : Nat) (a : Addr), α.length ≤ k → α'[k]? = some (some a) → H a = none
  keep : ∀ b o, b ∉ live α → NT o → H b = some o → H' b = some o
  stay : ∀ b, H b ≠ none → H' b ≠ none

theorem mut_some {o : Option HO} (h : Mut o) : o ≠ none := fun e => by rw [e] at h; exact h
theorem Rl.at' {K : Tb} {β : List Addr} {α : List (Option Addr)} {H : Hp} {S : Sto} (Rr : Rl K β α S H) : ∀ a ∈ live α, H a ≠ none := fun a h => mut_some (Rr.mt a h).mut
theorem same_at {H H' : Hp} (h : Same H H') {a : Addr} (m : H a ≠ none) : H' a = H a := by
  cases q : H a with
  | none => exact absurd q m
  | some o => exact h a o q
section
variable {K : Tb} {β : List Addr} {α α' α'' : List (Option Addr)} {H H' H'' : Hp} {S S' : Sto}
theorem ExcR.to {H' : Hp} {β' : List Addr} {c : Nat} {f : Option PyData} {cls : Value} {d : Option Addr} (s : Same (hid (blk β α) H) (hid (blk β' α') H')) (h : ExcR K β α H c f cls d) : ExcR K β' α' H' c f cls d :=
  ⟨h.1, fun z e => by
    obtain ⟨dd, v, e1, e2, e3⟩ := h.2 z e
    exact ⟨dd, v, e1, s _ _ e2, Dq.same s e3⟩⟩
theorem Ext.refl : Ext α H α H where
  len := Nat.le_refl _
  old := fun _ _ _ h => h
  new := fun k a h e => by
    rw [List.getElem?_eq_none h] at e
    cases e
  keep := fun _ _ _ _ h => h
  stay := fun _ h => h
theorem Ext.liv (e : Ext α H α' H') {a : Addr} (h : a ∈ live α') : a ∈ live α ∨ H a = none := by
  obtain ⟨k, hk⟩ := mem_live.mp h
  by_cases z : k < α.length
  · exact .inl (mem_live.mpr ⟨k, e.old k a z hk⟩)
  · exact .inr (e.new k a (by omega) hk)
theorem Ext.trans (e : Ext α H α' H') (f : Ext α' H' α'' H'') : Ext α H α'' H'' where
  len := Nat.le_trans e.len f.len
  old := fun k a h q => e.old k a h (f.old k a (Nat.lt_of_lt_of_le h e.len) q)
  new := fun k a h q => by
    by_cases z : k < α'.length
    · exact e.new k a h (f.old k a z q)
    · have n := f.new k a (by omega) q
      cases r : H a with
      | none => rfl
      | some o => exact absurd n (e.stay a (by rw [r]; simp))
  keep := fun b o h nt q => by
    refine f.keep b o (fun z => ?_) nt (e.keep b o h nt q)
    rcases e.liv z with z | z
    · exact h z
    · rw [q] at z; cases z
  stay := fun b h => f.stay b (e.stay b h)
/-- data stays -/
theorem Ext.hid (e : Ext α H α' H') : Same (hid (blk β α) H) (hid (blk β α') H') := fun a o h => by
  obtain ⟨n, q, nt⟩ := hid_some.mp h
  refine hid_some.mpr ⟨fun z => n ?_, e.keep a o (fun z => n (List.mem_append_right _ z)) nt q, nt⟩
  rcases List.mem_append.mp z with z | z
  · exact List.mem_append_left _ z
  · rcases e.liv z with z | z
    · exact List.mem_append_right _ z
    · rw [q] at z; cases z
theorem Vr.ext (e : Ext α H α' H') {r : R} {v : V} (h : Vr K β α H r v) : Vr K β α' H' r v := by
  cases r with
  | dat d => exact Dq.same e.hid h
  | obj k => exact ⟨Nat.lt_of_lt_of_le h.1 e.len, fun a q => h.2 a (e.old k a h.1 q)⟩
  | ro ds =>
    obtain ⟨a, vs, e1, e2, e3⟩ := h
    exact ⟨a, vs, e1, e.hid.seq e2, DqAll.same e.hid e3⟩
  | err c f => exact h.elim
  | lam i f => exact ⟨LamR.same e.hid h.1, K.ctxS _ _ _ _ _ _ e.len e.old e.hid h.2⟩
theorem Vrs.ext (e : Ext α H α' H') {rs : List R} {vs : List V} (h : Vrs K β α H rs vs) : Vrs K β α' H' rs vs := Paired.mapP h fun _ _ q => q.ext e

/-- nothing of the store is touched, the heap grows -/
theorem Ext.same (h : Same H H') : Ext α H α H' where
  len := Nat.le_refl _
  old := fun _ _ _ h => h
  new := fun k a h e => by
    rw [List.getElem?_eq_none h] at e
    cases e
  keep := fun b o _ _ q => h b o q
  stay := fun b q => by
    cases r : H b with
    | none => exact absurd r q
    | some o => rw [h b o r]; simp
theorem Rl.same (R : Rl K β α S H) (h : Same H H') : Rl K β α S H' where
  len := R.len
  inj := R.inj
  off := R.off
  bt := fun b q => by rw [same_at h (R.bt b q).has]; exact R.bt b q
  mt := fun b q => by rw [same_at h (R.at' b q)]; exact R.mt b q
  cell := fun k rs q => by
    obtain ⟨a, vs, e1, e2, e3⟩ := R.cell k rs q
    exact ⟨a, vs, e1, h _ _ e2, Vrs.ext (Ext.same h) e3⟩
  tab := R.tab.ext h
/-- all but tables stays -/
structure SmN (H H' : Hp) : Prop where
  keep : ∀ b o, NT o → H b = some o → H' b = some o
  stay : ∀ b, H b ≠ none → H' b ≠ none
theorem mut_nt {o : HO} (h : Mut (some o)) : NT o := by
  cases o <;> first | trivial | exact h
theorem Ext.sm (h : SmN H H') : Ext α H α H' where
  len := Nat.le_refl _
  old := fun _ _ _ h => h
  new := fun k a h e => by
    rw [List.getElem?_eq_none h] at e
    cases e
  keep := fun b o _ nt q => h.keep b o nt q
  stay := h.stay
theorem Rl.sm (R : Rl K β α S H) (h : SmN H H') (t : LamX.Tabs K.tabs H') : Rl K β α S H' where
  len := R.len
  inj := R.inj
  off := R.off
  bt := fun b q => by
    have m := R.bt b q
    cases e : H b with
    | none => rw [e] at m; exact m.elim
    | some o =>
      rw [e] at m
      rw [h.keep b o m.nt e]
      exact m
  mt := fun b q => by
    have m := R.mt b q
    cases e : H b with
    | none => rw [e] at m; exact m.elim
    | some o =>
      rw [e] at m
      rw [h.keep b o (mut_nt m.mut) e]
      exact m
  cell := fun k rs q => by
    obtain ⟨a, vs, e1, e2, e3⟩ := R.cell k rs q
    exact ⟨a, vs, e1, h.keep _ _ trivial e2, Vrs.ext (Ext.sm h) e3⟩
  tab := t
/-- a list is written: the tables stand -/
theorem tabs_upd {T : List (Addr × Str)} {a : Addr} {vs : List V} {o : HO} (h : LamX.Tabs T H) (ha : H a = some (.lst vs)) : LamX.Tabs T (upd H a o) := fun p hp => by
  obtain ⟨ps, h1, h2, h3⟩ := h p hp
  refine ⟨ps, by rw [upd_ne (fun z => by rw [z, ha] at h1; cases h1)]; exact h1, h2, fun pos cv hc => ?_⟩
  obtain ⟨c, e1, e2⟩ := h3 pos cv hc
  exact ⟨c, e1, by rw [upd_ne (fun z => by rw [z, ha] at e2; cases e2)]; exact e2⟩
theorem same_new {p : Addr} {o : HO} (h : H p = none) : Same H (upd H p o) := fun b x e => by
  rw [upd_ne (ne_of_none e h)]; exact e
/-- a new thing is no place of the store, and not forbidden -/
theorem Rl.newOff (R : Rl K β α S H) {p : Addr} (h : H p = none) : p ∉ blk β α := fun z => by
  rcases List.mem_append.mp z with z | z
  · exact (R.bt p z).has h
  · exact R.at' p z h
theorem Rl.hidNew (R : Rl K β α S H) {p : Addr} {o : HO} (h : H p = none) (nt : NT o := by trivial) : hid (blk β α) (upd H p o) p = some o := hid_some.mpr ⟨R.newOff h, upd_same, nt⟩
end

/-! ### slots -/
/-- what stands in the i-th slot -/
def Sl (K : Tb) (β : List Addr) (α : List (Option Addr)) (H : Hp) (σ : L2.St) (i : Nat) (r : R) : Prop := match r with
  | .err c f => ∀ a cls d, K.cur = some (a, cls, d, i) → σ[i]? = some (some (.ref a)) ∧ ExcR K β α H c f cls d
  | r => ∃ v, σ[i]? = some (some v) ∧ Vr K β α H r v
def Er (K : Tb) (β : List Addr) (α : List (Option Addr)) (H : Hp) (σ : L2.St) (ρ : Rho) : Prop :=
  σ.length = ρ.length ∧ ∀ (i : Nat) (r : R), ρ[i]? = some (some r) → Sl K β α H σ i r
section
variable {K : Tb} {β : List Addr} {α α' : List (Option Addr)} {H H' : Hp} {σ σ' : L2.St} {ρ : Rho} {i : Nat} {r : R}
theorem Sl.of (h : ∃ v, σ[i]? = some (some v) ∧ Vr K β α H r v) : Sl K β α H σ i r := by
  cases r with
  | err c f => exact h.elim fun _ z => z.2.elim
  | _ => exact h
theorem Sl.to {β' : List Addr} (h : Sl K β α H σ i r) (e : σ'[i]? = σ[i]?) (x : ∀ c f cls d, ExcR K β α H c f cls d → ExcR K β' α' H' c f cls d) (v : ∀ r v, Vr K β α H r v → Vr K β' α' H' r v) : Sl K β' α' H' σ' i r := by
  cases r with
  | err c f => exact fun a cls d q => ⟨e.trans (h a cls d q).1, x _ _ _ _ (h a cls d q).2⟩
  | dat _ => obtain ⟨u, h1, h2⟩ := h; exact ⟨u, e.trans h1, v _ _ h2⟩
  | obj _ => obtain ⟨u, h1, h2⟩ := h; exact ⟨u, e.trans h1, v _ _ h2⟩
  | ro _ => obtain ⟨u, h1, h2⟩ := h; exact ⟨u, e.trans h1, v _ _ h2⟩
  | lam _ _ => obtain ⟨u, h1, h2⟩ := h; exact ⟨u, e.trans h1, v _ _ h2⟩
theorem Sl.val (h : Sl K β α H σ i r) (n : ∀ c f, r ≠ .err c f) : ∃ v, σ[i]? = some (some v) ∧ Vr K β α H r v := by
  cases r with
  | err c f => exact absurd rfl (n c f)
  | _ => exact h
theorem Er.ext (e : Ext α H α' H') (h : Er K β α H σ ρ) : Er K β α' H' σ ρ := ⟨h.1, fun i r q => (h.2 i r q).to rfl (fun _ _ _ _ z => z.to e.hid) fun _ _ z => z.ext e⟩
theorem Er.set (h : Er K β α H σ ρ) {i : Nat} {r : R} {v : V} (hr : Vr K β α H r v) : Er K β α H (σ.set i (some v)) (ρ.set i (some r)) := by
  refine ⟨by rw [List.length_set, List.length_set]; exact h.1, fun j q e => ?_⟩
  by_cases z : i = j
  · subst z
    by_cases hl : i < ρ.length
    · rw [List.getElem?_set_self hl] at e
      cases e
      exact .of ⟨v, List.getElem?_set_self (by rw [h.1]; exact hl), hr⟩
    · rw [List.getElem?_eq_none (by rw [List.length_set]; omega)] at e; cases e
  · rw [List.getElem?_set_ne z] at e
    exact (h.2 j q e).to (List.getElem?_set_ne z) (fun _ _ _ _ y => y) fun _ _ y => y
theorem Er.unset (h : Er K β α H σ ρ) (i : Nat) : Er K β α H (σ.set i none) (ρ.set i none) := by
  refine ⟨by rw [List.length_set, List.length_set]; exact h.1, fun j q e => ?_⟩
  by_cases z : i = j
  · subst z
    by_cases hl : i < ρ.length
    · rw [List.getElem?_set_self hl] at e; cases e
    · rw [List.getElem?_eq_none (by rw [List.length_set]; omega)] at e; cases e
  · rw [List.getElem?_set_ne z] at e
    exact (h.2 j q e).to (List.getElem?_set_ne z) (fun _ _ _ _ y => y) fun _ _ y => y
end

/-! ### what is wanted behind a term -/
/-- rel: how the mirror's answer stands for the walk's -/
def PostG {a b : Type} (T : Tb) (β : List Addr) (W : WX) (rel : List (Option Addr) → Hp → a → b → Prop) (σ : L2.St) (o : Out a) (α : List (Option Addr)) (H : Hp) (Q : b → Hp → Prop) : Prop :=
  match o with
  | .ok x S => ∀ α' H' v, Ext α H α' H' → Rl T β α' S H' → rel α' H' x v → Q v H'
  | .exc c f S => ∀ α' H' cls d, Ext α H α' H' → Rl T β α' S H' → ExcR T β α' H' c f cls d → W cls d σ H'
  | .stuck => False

def PostS (T : Tb) (β : List Addr) (W : WX) (o : OutS) (α : List (Option Addr)) (H : Hp) (D : Ends) : Prop :=
  match o with
  | .nx ρ S => ∀ α' H' σ', Ext α H α' H' → Rl T β α' S H' → Er T β α' H' σ' ρ → D.nx σ' H'
  | .rt r S => ∀ α' H' v, Ext α H α' H' → Rl T β α' S H' → Vr T β α' H' r v → D.rt v H'
  | .bk ρ S => ∀ α' H' σ', Ext α H α' H' → Rl T β α' S H' → Er T β α' H' σ' ρ → D.bk σ' H'
  | .ct ρ S => ∀ α' H' σ', Ext α H α' H' → Rl T β α' S H' → Er T β α' H' σ' ρ → D.ct σ' H'
  | .exc c f ρ S => ∀ α' H' σ' cls d, Ext α H α' H' → Rl T β α' S H' → Er T β α' H' σ' ρ → ExcR T β α' H' c f cls d → W cls d σ' H'
  | .stuck => False

section
variable {a b c e : Type} {T : Tb} {β : List Addr} {W : WX} {rel : List (Option Addr) → Hp → a → b → Prop} {rel2 : List (Option Addr) → Hp → c → e → Prop} {σ : L2.St} {α α' : List (Option Addr)} {H H' : Hp} {S : Sto} {ρ : Rho}
theorem PostG.on {o : Out a} {Q : b → Hp → Prop} (x : Ext α H α' H') (h : PostG T β W rel σ o α H Q) : PostG T β W rel σ o α' H' Q := by
  cases o with
  | ok y S => exact fun α2 H2 v e r q => h α2 H2 v (x.trans e) r q
  | exc c f S => exact fun α2 H2 cls d e r q => h α2 H2 cls d (x.trans e) r q
  | stuck => exact h
theorem PostS.on {o : OutS} {D : Ends} (x : Ext α H α' H') (h : PostS T β W o α H D) : PostS T β W o α' H' D := by
  cases o with
  | nx ρ S => exact fun α2 H2 s e r q => h α2 H2 s (x.trans e) r q
  | rt y S => exact fun α2 H2 v e r q => h α2 H2 v (x.trans e) r q
  | bk ρ S => exact fun α2 H2 s e r q => h α2 H2 s (x.trans e) r q
  | ct ρ S => exact fun α2 H2 s e r q => h α2 H2 s (x.trans e) r q
  | exc c f ρ S => exact fun α2 H2 s cls d e r q z => h α2 H2 s cls d (x.trans e) r q z
  | stuck => exact h
theorem PostG.bind {o : Out a} {f : a → Sto → Out c} {Q : e → Hp → Prop} (h : PostG T β W rel2 σ (o.bind f) α H Q) :
    PostG T β W rel σ o α H (fun v H1 => ∃ α1 S1 x, o = .ok x S1 ∧ Ext α H α1 H1 ∧ Rl T β α1 S1 H1 ∧ rel α1 H1 x v ∧ PostG T β W rel2 σ (f x S1) α1 H1 Q) := by
  cases o with
  | ok y S => exact fun α2 H2 v e r q => ⟨α2, S, y, rfl, e, r, q, PostG.on e h⟩
  | exc c f S => exact h
  | stuck => exact h
def Out.toS (o : Out a) (ρ : Rho) (k : a → Sto → OutS) : OutS := match o with
  | .ok x S => k x S
  | .exc c f S => .exc c f ρ S
  | .stuck => .stuck
theorem PostS.bind {o : Out a} {k : a → Sto → OutS} {D : Ends} (he : Er T β α H σ ρ) (h : PostS T β W (o.toS ρ k) α H D) :
    PostG T β W rel σ o α H (fun v H1 => ∃ α1 S1 x, o = .ok x S1 ∧ Ext α H α1 H1 ∧ Rl T β α1 S1 H1 ∧ rel α1 H1 x v ∧ PostS T β W (k x S1) α1 H1 D) := by
  cases o with
  | ok y S => exact fun α2 H2 v e r q => ⟨α2, S, y, rfl, e, r, q, PostS.on e h⟩
  | exc c f S => exact fun α2 H2 cls d e r q => h α2 H2 σ cls d e r (he.ext e) q
  | stuck => exact h
end

/-! ### the transformers of mirrors -/
def tE (T : Tb) (W : WX) (m : EM) : TE := fun σ H Q => ∃ β α S ρ, Rl T β α S H ∧ Er T β α H σ ρ ∧ PostG T β W (Vr T β) σ (m ρ S) α H Q
def tA (T : Tb) (W : WX) (m : EMs) : TA := fun σ H Q => ∃ β α S ρ, Rl T β α S H ∧ Er T β α H σ ρ ∧ PostG T β W (Vrs T β) σ (m ρ S) α H Q
def tT (T : Tb) (W : WX) (m : TM) : TT := fun σ H Q => ∃ β α S ρ, Rl T β α S H ∧ Er T β α H σ ρ ∧ PostG T β W (fun _ _ x v => x = v) σ (m ρ S) α H Q
def tS (T : Tb) (W : WX) (m : SM) : TS := fun D σ H => ∃ β α S ρ, Rl T β α S H ∧ Er T β α H σ ρ ∧ PostS T β W (m ρ S) α H D

section
variable {X : Cx} {e : Expr} {es : List Expr} {st : Stmt} {sts : List Stmt}
theorem pe_le {t t' : TE} (h : PE X e t) (i : ∀ σ H Q, t' σ H Q → t σ H Q) : PE X e t' := ⟨fun pins s σ H Q I q => h.run pins s σ H Q I (i σ H Q q)⟩
theorem pt_le {t t' : TT} (h : PT X e t) (i : ∀ σ H Q, t' σ H Q → t σ H Q) : PT X e t' := ⟨fun pins s σ H Q I q => h.run pins s σ H Q I (i σ H Q q)⟩
theorem pw_le {t t' : TT} (h : PW X e t) (i : ∀ σ H Q, t' σ H Q → t σ H Q) : PW X e t' := ⟨fun w pins s σ H Q I q => h.run w pins s σ H Q I (i σ H Q q)⟩
theorem pa_le {t t' : TA} (h : PA X es t) (i : ∀ σ H Q, t' σ H Q → t σ H Q) : PA X es t' := ⟨fun pos pins s σ H Q I q => h.run pos pins s σ H Q I (i σ H Q q)⟩
theorem ps_le {t t' : TS} (h : PS X st t) (i : ∀ D σ H, t' D σ H → t D σ H) : PS X st t' := ⟨fun pins s σ H D I q => h.run pins s σ H D I (i D σ H q)⟩
theorem pss_le {t t' : TS} (h : PSs X sts t) (i : ∀ D σ H, t' D σ H → t D σ H) : PSs X sts t' := ⟨fun pins s σ H D I q => h.run pins s σ H D I (i D σ H q)⟩
end
end Pev
/-! Pev, second part: views of values, new lists, operators. -/
namespace Pev
open PySem PySem.Spec PyProof.Rows L2

section
variable {K : Tb} {β : List Addr} {α α' : List (Option Addr)} {H H' : Hp} {S S' : Sto}
theorem Vrs.get : ∀ {rs : List R} {vs : List V} {i : Nat} {r : R}, Vrs K β α H rs vs → rs[i]? = some r → ∃ v, vs[i]? = some v ∧ Vr K β α H r v
  | _, _, _, _, .nil, e => by simp at e
  | _, _, 0, _, .cons h _, e => by simp at e; subst e; exact ⟨_, rfl, h⟩
  | _, _, i + 1, _, .cons _ t, e => by
    obtain ⟨v, h1, h2⟩ := Vrs.get (i := i) t (by simpa using e)
    exact ⟨v, by simpa using h1, h2⟩
theorem Vrs.length {rs : List R} {vs : List V} (h : Vrs K β α H rs vs) : rs.length = vs.length := Paired.length h
theorem Vrs.append : ∀ {rs qs : List R} {vs ws : List V}, Vrs K β α H rs vs → Vrs K β α H qs ws → Vrs K β α H (rs ++ qs) (vs ++ ws)
  | _, _, _, _, .nil, h => h
  | _, _, _, _, .cons h t, s => .cons h (Vrs.append t s)
theorem Vrs.set {r : R} {v : V} (h : Vr K β α H r v) : ∀ {rs : List R} {vs : List V} (i : Nat), Vrs K β α H rs vs → Vrs K β α H (rs.set i r) (vs.set i v)
  | _, _, _, .nil => .nil
  | _, _, 0, .cons _ t => .cons h t
  | _, _, i + 1, .cons q t => .cons q (Vrs.set h i t)
theorem Vrs.take : ∀ {rs : List R} {vs : List V} (n : Nat), Vrs K β α H rs vs → Vrs K β α H (rs.take n) (vs.take n)
  | _, _, 0, _ => .nil
  | _, _, _ + 1, .nil => .nil
  | _, _, n + 1, .cons r t => .cons r (Vrs.take n t)
theorem Vrs.drop : ∀ {rs : List R} {vs : List V} (n : Nat), Vrs K β α H rs vs → Vrs K β α H (rs.drop n) (vs.drop n)
  | _, _, 0, r => r
  | _, _, _ + 1, .nil => .nil
  | _, _, n + 1, .cons _ t => Vrs.drop n t
theorem Vrs.dropLast {rs : List R} {vs : List V} (h : Vrs K β α H rs vs) : Vrs K β α H rs.dropLast vs.dropLast := by
  rw [List.dropLast_eq_take, List.dropLast_eq_take, ← Vrs.length h]
  exact Vrs.take _ h
theorem Vrs.eraseIdx : ∀ {rs : List R} {vs : List V} (i : Nat), Vrs K β α H rs vs → Vrs K β α H (rs.eraseIdx i) (vs.eraseIdx i)
  | _, _, _, .nil => .nil
  | _, _, 0, .cons _ t => t
  | _, _, i + 1, .cons q t => .cons q (Vrs.eraseIdx i t)
theorem Vrs.reverse : ∀ {rs : List R} {vs : List V}, Vrs K β α H rs vs → Vrs K β α H rs.reverse vs.reverse
  | _, _, .nil => .nil
  | _, _, .cons q t => by
    rw [List.reverse_cons, List.reverse_cons]
    exact Vrs.append (Vrs.reverse t) (.cons q .nil)
/-- data, as values at run time -/
theorem DqAll.vrs : ∀ {ds : List PyData} {vs : List V}, DqAll K (hid (blk β α) H) vs ds → Vrs K β α H (ds.map .dat) vs
  | _, _, .nil => .nil
  | _, _, .cons h t => .cons h (DqAll.vrs t)
end

/-! ### all of these are data -/
def R.d? : R → Option PyData
  | .dat d => some d
  | _ => none
def datAll : List R → Option (List PyData)
  | [] => some []
  | r :: rs => match r.d?, datAll rs with
    | some d, some ds => some (d :: ds)
    | _, _ => none
theorem datAll_map (ds : List PyData) : datAll (ds.map .dat) = some ds := by
  induction ds with
  | nil => rfl
  | cons d ds ih => simp [datAll, R.d?, ih]
theorem datAll_eq : ∀ {rs : List R} {ds : List PyData}, datAll rs = some ds → rs = ds.map .dat
  | [], ds, h => by cases h; rfl
  | r :: rs, ds, h => by
    unfold datAll at h
    split at h
    · rename_i d ds' e1 e2
      cases h
      cases r with
      | dat d' => cases e1; rw [datAll_eq e2]; rfl
      | obj k => cases e1
      | ro l => cases e1
      | err _ _ => cases e1
      | lam _ _ => cases e1
    · cases h
theorem Vrs.dq {K : Tb} {β : List Addr} {α : List (Option Addr)} {H : Hp} : ∀ {ds : List PyData} {vs : List V}, Vrs K β α H (ds.map .dat) vs → DqAll K (hid (blk β α) H) vs ds
  | [], _, h => by cases h; exact .nil
  | d :: ds, _, h => by
    cases h with
    | cons h t => exact .cons h (Vrs.dq t)

/-! ### views -/
/-- the items of a list -/
def lv (S : Sto) : R → Option (List R)
  | .dat (.list ds) => some (ds.map .dat)
  | .obj k => match S[k]? with
    | some (.lst rs) => some rs
    | _ => none
  | .ro ds => some (ds.map .dat)
  | _ => none
/-- the items of a list that is tracked -/
def lvt (S : Sto) : R → Option (List R)
  | .dat (.list ds) => some (ds.map .dat)
  | .obj k => match S[k]? with
    | some (.lst rs) => some rs
    | _ => none
  | _ => none
def tv : R → Option (List PyData)
  | .dat (.tuple ds) => some ds
  | _ => none
section
variable {K : Tb} {β : List Addr} {α α' : List (Option Addr)} {H H' : Hp} {S S' : Sto}
theorem lvt_ok (Rr : Rl K β α S H) {r : R} {v : V} {rs : List R} (h : Vr K β α H r v) (e : lvt S r = some rs) : ∃ a vs, v = .ref a ∧ H a = some (.lst vs) ∧ Vrs K β α H rs vs := by
  cases r with
  | dat d =>
    cases d with
    | list ds =>
      cases e
      cases h with
      | lst h1 h2 => exact ⟨_, _, rfl, (hid_some.mp h1).2.1, DqAll.vrs h2⟩
    | _ => cases e
  | obj k =>
    unfold lvt at e
    dsimp only at e
    split at e
    · rename_i rs' q
      cases e
      obtain ⟨a, vs, e1, e2, e3⟩ := Rr.cell k _ q
      exact ⟨a, vs, h.2 a e1, e2, e3⟩
    · cases e
  | ro ds => cases e
  | err _ _ => cases e
  | lam _ _ => cases e
theorem lv_ok (Rr : Rl K β α S H) {r : R} {v : V} {rs : List R} (h : Vr K β α H r v) (e : lv S r = some rs) : ∃ a vs, v = .ref a ∧ SqL K H a vs ∧ Vrs K β α H rs vs := by
  cases r with
  | ro ds =>
    cases e
    obtain ⟨a, vs, e1, e2, e3⟩ := h
    exact ⟨a, vs, e1, (hid_le.seq e2), DqAll.vrs e3⟩
  | dat d =>
    have e' : lvt S (.dat d) = some rs := by cases d <;> exact e
    obtain ⟨a, vs, e1, e2, e3⟩ := lvt_ok Rr h e'
    exact ⟨a, vs, e1, SqL.of e2, e3⟩
  | obj k =>
    obtain ⟨a, vs, e1, e2, e3⟩ := lvt_ok Rr h (show lvt S (.obj k) = some rs from e)
    exact ⟨a, vs, e1, SqL.of e2, e3⟩
  | err _ _ => cases e
  | lam _ _ => cases e
theorem tv_ok {r : R} {v : V} {ds : List PyData} (h : Vr K β α H r v) (e : tv r = some ds) : ∃ a vs, v = .ref a ∧ SqT K H a vs ∧ DqAll K (hid (blk β α) H) vs ds := by
  cases r with
  | dat d =>
    cases d with
    | tuple ds' =>
      cases e
      cases h with
      | tup h1 h2 => exact ⟨_, _, rfl, sqT_same hid_le h1, h2⟩
    | _ => cases e
  | _ => cases e
end

/-! ### data in the store seen whole -/
def snap (S : Sto) : Nat → R → Option PyData
  | _, .dat d => some d
  | _, .err _ _ => none
  | _, .lam _ _ => none
  | 0, _ => none
  | n + 1, .obj k => match S[k]? with
    | some (.lst rs) => (rs.mapM (snap S n)).map .list
    | _ => none
  | _ + 1, .ro _ => none
section
variable {K : Tb} {β : List Addr} {α α' : List (Option Addr)} {H H' : Hp} {S S' : Sto}
theorem mapM_all {n : Nat} (ih : ∀ (r : R) (v : V) (d : PyData), Vr K β α H r v → snap S n r = some d → Dq K (hid β H) v d) :
    ∀ {rs : List R} {vs : List V} {ds : List PyData}, Vrs K β α H rs vs → rs.mapM (snap S n) = some ds → DqAll K (hid β H) vs ds
  | [], _, ds, h, e => by
    cases h
    rw [List.mapM_nil] at e
    cases e
    exact .nil
  | r :: rs, _, ds, h, e => by
    cases h with
    | cons h t =>
      rw [List.mapM_cons] at e
      cases e1 : snap S n r with
      | none => rw [e1] at e; cases e
      | some d =>
        rw [e1] at e
        cases e2 : rs.mapM (snap S n) with
        | none =>
          rw [e2] at e
          cases e
        | some ds' =>
          rw [e2] at e
          cases e
          exact .cons (ih r _ d h e1) (mapM_all ih t e2)
theorem snap_dq (Rr : Rl K β α S H) : ∀ (n : Nat) (r : R) (v : V) (d : PyData), Vr K β α H r v → snap S n r = some d → Dq K (hid β H) v d := by
  have sub : Same (hid (blk β α) H) (hid β H) := fun a o h => by
    obtain ⟨n, q, nt⟩ := hid_some.mp h
    exact hid_some.mpr ⟨fun z => n (List.mem_append_left _ z), q, nt⟩
  intro n
  induction n with
  | zero =>
    intro r v d h e
    cases r with
    | dat d' => cases e; exact Dq.same sub h
    | obj k => cases e
    | ro l => cases e
    | err _ _ => cases e
    | lam _ _ => cases e
  | succ n ih =>
    intro r v d h e
    cases r with
    | dat d' => cases e; exact Dq.same sub h
    | ro l => cases e
    | err _ _ => cases e
    | lam _ _ => cases e
    | obj k =>
      unfold snap at e
      split at e
      · rename_i rs q
        cases e2 : rs.mapM (snap S n) with
        | none => rw [e2] at e; cases e
        | some ds =>
          rw [e2] at e
          cases e
          obtain ⟨a, vs, e1, e3, e4⟩ := Rr.cell k _ q
          have ev := h.2 a e1
          subst ev
          refine .lst (hid_some.mpr ⟨Rr.off a (mem_live.mpr ⟨k, e1⟩), e3, trivial⟩) (mapM_all (fun r v d => ih r v d) e4 e2)
      · cases e
theorem snap_dp (Rr : Rl K β α S H) {n : Nat} {r : R} {v : V} {d : PyData} (h : Vr K β α H r v) (e : snap S n r = some d) : Dp K H v d := Dq.dp (Dq.same hid_le (snap_dq Rr n r v d h e))
end

/-! ### a new list, a new tuple -/
def newL (own : Bool) (rs : List R) (S : Sto) : Out R := match own with
  | true => .ok (.obj S.length) (S ++ [.lst rs])
  | false => match datAll rs with
    | some ds => .ok (.dat (.list ds)) S
    | none => .stuck
def newT (rs : List R) (S : Sto) : Out R := match datAll rs with
  | some ds => .ok (.dat (.tuple ds)) S
  | none => .stuck
section
variable {T : Tb} {β : List Addr} {W : WX} {σ : L2.St} {α : List (Option Addr)} {H : Hp} {S : Sto}
theorem Rl.alloc {K : Tb} (Rr : Rl K β α S H) {p : Addr} {rs : List R} {vs : List V} (hp : H p = none) (hv : Vrs K β α H rs vs) :
    Rl K β (α ++ [some p]) (S ++ [.lst rs]) (upd H p (.lst vs)) ∧ Ext α H (α ++ [some p]) (upd H p (.lst vs)) := by
  have hl : ∀ {k : Nat} {a : Addr}, (α ++ [some p])[k]? = some (some a) → (k < α.length ∧ α[k]? = some (some a)) ∨ (k = α.length ∧ a = p) := by
    intro k a e
    by_cases z : k < α.length
    · rw [List.getElem?_append_left z] at e
      exact .inl ⟨z, e⟩
    · rw [List.getElem?_append_right (by omega)] at e
      by_cases y : k - α.length = 0
      · rw [y] at e
        cases e
        exact .inr ⟨by omega, rfl⟩
      · rw [List.getElem?_eq_none (by rw [List.length_singleton]; omega)] at e
        cases e
  have mem : ∀ {a : Addr}, a ∈ live (α ++ [some p]) → a ∈ live α ∨ a = p := fun h => by
    obtain ⟨k, hk⟩ := mem_live.mp h
    rcases hl hk with ⟨_, q⟩ | ⟨_, q⟩
    · exact .inl (mem_live.mpr ⟨k, q⟩)
    · exact .inr q
  have nl : ∀ {a : Addr}, a ∈ live α → a ≠ p := fun h e => by
    subst e
    exact Rr.at' _ h hp
  have ext : Ext α H (α ++ [some p]) (upd H p (.lst vs)) := {
    len := by rw [List.length_append]; omega
    old := fun k a h e => by
      rcases hl e with ⟨_, q⟩ | ⟨q, _⟩
      · exact q
      · omega
    new := fun k a h e => by
      rcases hl e with ⟨q, _⟩ | ⟨_, q⟩
      · omega
      · rw [q]; exact hp
    keep := fun b o _ _ q => by rw [upd_ne (ne_of_none q hp)]; exact q
    stay := fun b q => by
      by_cases z : b = p
      · subst z; exact absurd hp q
      · rw [upd_ne z]; exact q }
  refine ⟨{ len := by rw [List.length_append, List.length_append, Rr.len]; rfl, inj := ?_, off := ?_, bt := ?_, mt := ?_, cell := ?_, tab := Rr.tab.ext (same_new hp) }, ext⟩
  · intro k j a h1 h2
    rcases hl h1 with ⟨_, q1⟩ | ⟨q1, z1⟩
    · rcases hl h2 with ⟨_, q2⟩ | ⟨q2, z2⟩
      · exact Rr.inj k j a q1 q2
      · exact absurd z2 (nl (mem_live.mpr ⟨k, q1⟩))
    · rcases hl h2 with ⟨_, q2⟩ | ⟨q2, z2⟩
      · exact absurd z1 (nl (mem_live.mpr ⟨j, q2⟩))
      · omega
  · intro a h
    rcases mem h with q | q
    · exact Rr.off a q
    · rw [q]
      exact fun z => (Rr.bt p z).has hp
  · exact fun b h => by rw [upd_ne (fun z => (Rr.bt b h).has (by rw [z]; exact hp))]; exact Rr.bt b h
  · intro a h
    rcases mem h with q | q
    · rw [upd_ne (nl q)]; exact Rr.mt a q
    · rw [q, upd_same]; exact trivial
  · intro k rs' h
    by_cases z : k < S.length
    · rw [List.getElem?_append_left z] at h
      obtain ⟨a, ws, e1, e2, e3⟩ := Rr.cell k rs' h
      exact ⟨a, ws, by rw [List.getElem?_append_left (by rw [Rr.len]; exact z)]; exact e1, by rw [upd_ne (nl (mem_live.mpr ⟨k, e1⟩))]; exact e2, Vrs.ext ext e3⟩
    · rw [List.getElem?_append_right (by omega)] at h
      by_cases y : k - S.length = 0
      · rw [y] at h
        cases h
        have ek : k = α.length := by rw [Rr.len]; omega
        refine ⟨p, vs, ?_, upd_same, Vrs.ext ext hv⟩
        rw [ek, List.getElem?_append_right (Nat.le_refl _), Nat.sub_self]
        rfl
      · rw [List.getElem?_eq_none (by rw [List.length_singleton]; omega)] at h
        cases h
theorem newL_ok (Rr : Rl T β α S H) {own : Bool} {rs : List R} {vs : List V} {p : Addr} {Q : V → Hp → Prop} (hp : H p = none) (hv : Vrs T β α H rs vs)
    (h : PostG T β W (Vr T β) σ (newL own rs S) α H Q) : Q (.ref p) (upd H p (.lst vs)) := by
  cases own with
  | true =>
    obtain ⟨R1, X1⟩ := Rr.alloc hp hv
    refine h (α ++ [some p]) _ _ X1 R1 ⟨by rw [List.length_append, List.length_singleton, ← Rr.len]; omega, fun a e => ?_⟩
    rw [← Rr.len, List.getElem?_append_right (Nat.le_refl _), Nat.sub_self] at e
    cases e
    rfl
  | false =>
    unfold newL at h
    dsimp only at h
    split at h
    · rename_i ds e
      have e' := datAll_eq e
      subst e'
      have sm : Same H (upd H p (.lst vs)) := same_new hp
      exact h α _ _ (Ext.same sm) (Rr.same sm) (.lst (Rr.hidNew hp) (DqAll.same (Ext.same (α := α) sm).hid (Vrs.dq hv)))
    · exact h.elim
theorem newT_ok (Rr : Rl T β α S H) {rs : List R} {vs : List V} {p : Addr} {Q : V → Hp → Prop} (hp : H p = none) (hv : Vrs T β α H rs vs)
    (h : PostG T β W (Vr T β) σ (newT rs S) α H Q) : Q (.ref p) (upd H p (.tup vs)) := by
  unfold newT at h
  split at h
  · rename_i ds e
    have e' := datAll_eq e
    subst e'
    have sm : Same H (upd H p (.tup vs)) := same_new hp
    exact h α _ _ (Ext.same sm) (Rr.same sm) (.tup (.inl (.inl (Rr.hidNew hp))) (DqAll.same (Ext.same (α := α) sm).hid (Vrs.dq hv)))
  · exact h.elim
/-- an answer without a new thing -/
theorem old_ok (Rr : Rl T β α S H) {r : R} {v : V} {Q : V → Hp → Prop} (h : PostG T β W (Vr T β) σ (.ok r S) α H Q) (hv : Vr T β α H r v) : Q v H := h α H v Ext.refl Rr hv
/-- a cell is written -/
theorem Rl.write {K : Tb} (Rr : Rl K β α S H) {k : Nat} {rs rs' : List R} {a : Addr} {vs' : List V} (hk : S[k]? = some (.lst rs)) (ha : α[k]? = some (some a)) (hv : Vrs K β α H rs' vs') :
    Rl K β α (S.set k (.lst rs')) (upd H a (.lst vs')) ∧ Ext α H α (upd H a (.lst vs')) := by
  have hal : a ∈ live α := mem_live.mpr ⟨k, ha⟩
  have ext : Ext α H α (upd H a (.lst vs')) := {
    len := Nat.le_refl _
    old := fun _ _ _ h => h
    new := fun k a h e => by
      rw [List.getElem?_eq_none h] at e
      cases e
    keep := fun b o n _ q => by rw [upd_ne (fun z => n (by rw [z]; exact hal))]; exact q
    stay := fun b q => by
      by_cases z : b = a
      · rw [z, upd_same]; simp
      · rw [upd_ne z]; exact q }
  have tb : LamX.Tabs K.tabs (upd H a (.lst vs')) := by
    obtain ⟨a', vs, e1, e2, _⟩ := Rr.cell k rs hk
    rw [ha] at e1
    cases e1
    exact tabs_upd Rr.tab e2
  refine ⟨{ len := by rw [List.length_set]; exact Rr.len, inj := Rr.inj, off := Rr.off, bt := fun b h => (by
    by_cases z : b = a
    · rw [z, upd_same]; trivial
    · rw [upd_ne z]; exact Rr.bt b h), mt := fun b h => ?_, cell := ?_, tab := tb }, ext⟩
  · by_cases z : b = a
    · rw [z, upd_same]; exact trivial
    · rw [upd_ne z]; exact Rr.mt b h
  intro j qs h
  by_cases z : k = j
  · subst z
    rw [List.getElem?_set_self (List.getElem?_eq_some_iff.mp hk).1] at h
    cases h
    exact ⟨a, vs', ha, upd_same, Vrs.ext ext hv⟩
  · rw [List.getElem?_set_ne z] at h
    obtain ⟨b, ws, e1, e2, e3⟩ := Rr.cell j qs h
    refine ⟨b, ws, e1, ?_, Vrs.ext ext e3⟩
    rw [upd_ne (fun y => z (Rr.inj k j a ha (by rw [y] at e1; exact e1)))]
    exact e2
end
end Pev
/-! Pev, third part: expressions. -/
namespace Pev
open PySem PySem.Spec PyProof.Rows L2

/-! ### leaves -/
def eVar (i : Nat) : EM := fun ρ S => match ρ[i]? with
  | some (some (.err _ _)) => .stuck
  | some (some r) => .ok r S
  | _ => .stuck
def eC (d : PyData) : EM := fun _ S => .ok (.dat d) S
def eBin (g : R → R → Sto → Out R) (ma mb : EM) : EM := fun ρ S => (ma ρ S).bind fun x S1 => (mb ρ S1).bind fun y S2 => g x y S2
def eUn (g : R → Sto → Out R) (ma : EM) : EM := fun ρ S => (ma ρ S).bind fun x S1 => g x S1

section
variable {X : Cx} {T : Tb} {W : WX} {a b c e : Expr} {ma mb mc m : EM} {pos : Pos}
theorem tr_var (i : Nat) {x : Str} (hN : X.N[i]? = some x := by rfl) (hv : Vis X.env.scope x := by first | exact Or.inl rfl | exact Or.inr (Or.inl rfl) | exact Or.inr (Or.inr rfl)) (hd : (x == ("__debug__" : Str)) = false := by decide)
    (hcd : (x == ("__classdict__" : Str)) = false := by decide) : PE X (.Name x pos) (tE T W (eVar i)) := by
  refine pe_le (pv i hN hv hd hcd) fun σ H Q ⟨β, α, S, ρ, hR, hE, h⟩ => ?_
  unfold eVar at h
  split at h
  · exact h.elim
  · rename_i r n q
    obtain ⟨v, h1, h2⟩ := (hE.2 i r q).val fun c f e => n c f e
    exact ⟨v, h1, old_ok hR h h2⟩
  · exact h.elim
theorem tr_const {v : V} {d : PyData} (h : PE X e (tC v)) (hd : ∀ H, Dq T.K H v d) : PE X e (tE T W (eC d)) :=
  pe_le h fun _ _ _ ⟨_, _, _, _, hR, _, h⟩ => old_ok hR h (hd _)
theorem tr_int {i : Int} {j : Nat} : PE X (.Constant (.int i) j pos) (tE T W (eC (.int i))) := tr_const pe_int fun _ => .int i
theorem tr_bl {i : Bool} {j : Nat} : PE X (.Constant (.bool i) j pos) (tE T W (eC (.bool i))) := tr_const pe_bl fun _ => .bl i
theorem tr_non {j : Nat} : PE X (.Constant .none j pos) (tE T W (eC .none)) := tr_const pe_non fun _ => .non
theorem tr_str {x : Str} {j : Nat} : PE X (.Constant (.str x) j pos) (tE T W (eC (.str x))) := tr_const pe_str fun _ => .str x
/-! ### operators -/
/-- g answers for the rule r -/
def Snd2 (T : Tb) (r : R2) (g : R → R → Sto → Out R) : Prop :=
  ∀ (β : List Addr) (W : WX) (σ : L2.St) (α : List (Option Addr)) (S : Sto) (H : Hp) (x y : R) (v w : V) (Q : VK), Rl T β α S H → Vr T β α H x v → Vr T β α H y w →
    PostG T β W (Vr T β) σ (g x y S) α H Q → r v w H Q
def Snd1 (T : Tb) (r : V → Hp → VK → Prop) (g : R → Sto → Out R) : Prop :=
  ∀ (β : List Addr) (W : WX) (σ : L2.St) (α : List (Option Addr)) (S : Sto) (H : Hp) (x : R) (v : V) (Q : VK), Rl T β α S H → Vr T β α H x v →
    PostG T β W (Vr T β) σ (g x S) α H Q → r v H Q
theorem bin_le {r : R2} {g : R → R → Sto → Out R} (hs : Snd2 T r g) {σ : L2.St} {H : Hp} {Q : VK} (h : tE T W (eBin g ma mb) σ H Q) : tOp r (tE T W ma) (tE T W mb) σ H Q := by
  obtain ⟨β, α, S, ρ, hR, hE, h⟩ := h
  refine ⟨β, α, S, ρ, hR, hE, ?_⟩
  have h1 := PostG.bind (rel := Vr T β) (show PostG T β W (Vr T β) σ ((ma ρ S).bind fun x S1 => (mb ρ S1).bind fun y S2 => g x y S2) α H Q from h)
  cases q : ma ρ S with
  | stuck => rw [q] at h1; exact h1.elim
  | exc k f S1 => rw [q] at h1; exact h1
  | ok x S1 =>
    rw [q] at h1
    intro α1 H1 v e1 R1 V1
    obtain ⟨α1', S1', x', ex, e1', R1', V1', h2⟩ := h1 α1 H1 v e1 R1 V1
    cases ex
    refine ⟨β, α1', S1, ρ, R1', hE.ext e1', ?_⟩
    have h3 := PostG.bind (rel := Vr T β) h2
    cases q2 : mb ρ S1 with
    | stuck => rw [q2] at h3; exact h3.elim
    | exc k f S2 => rw [q2] at h3; exact h3
    | ok y S2 =>
      rw [q2] at h3
      intro α2 H2 w e2 R2 V2
      obtain ⟨α2', S2', y', ey, e2', R2', V2', h4⟩ := h3 α2 H2 w e2 R2 V2
      cases ey
      exact hs β W σ α2' S2 H2 x y v w Q R2' (V1'.ext e2') V2' h4
theorem un_le {r : V → Hp → VK → Prop} {g : R → Sto → Out R} (hs : Snd1 T r g) {σ : L2.St} {H : Hp} {Q : VK} (h : tE T W (eUn g ma) σ H Q) : tUn r (tE T W ma) σ H Q := by
  obtain ⟨β, α, S, ρ, hR, hE, h⟩ := h
  refine ⟨β, α, S, ρ, hR, hE, ?_⟩
  have h1 := PostG.bind (rel := Vr T β) (show PostG T β W (Vr T β) σ ((ma ρ S).bind fun x S1 => g x S1) α H Q from h)
  cases q : ma ρ S with
  | stuck => rw [q] at h1; exact h1.elim
  | exc k f S1 => rw [q] at h1; exact h1
  | ok x S1 =>
    rw [q] at h1
    intro α1 H1 v e1 R1 V1
    obtain ⟨α1', S1', x', ex, e1', R1', V1', h2⟩ := h1 α1 H1 v e1 R1 V1
    cases ex
    exact hs β W σ α1' S1 H1 x v Q R1' V1' h2
theorem tr_op {op : Operator} {r : R2} {g : R → R → Sto → Out R} (ho : OpR X (binaryOp op) r) (hs : Snd2 T r g) (ha : PE X a (tE T W ma)) (hb : PE X b (tE T W mb)) : PE X (.BinOp a op b pos) (tE T W (eBin g ma mb)) :=
  pe_le (pe_op ho ha hb) fun _ _ _ h => bin_le hs h
theorem tr_un {op : UnaryOp} {r : V → Hp → VK → Prop} {g : R → Sto → Out R} (ho : UnR X (unaryOp op) r) (hs : Snd1 T r g) (ha : PE X a (tE T W ma)) : PE X (.UnaryOp op a pos) (tE T W (eUn g ma)) :=
  pe_le (pe_un ho ha) fun _ _ _ h => un_le hs h
theorem tr_cmpR {op : CmpOp} {r : R2} {g : R → R → Sto → Out R} (ho : OpR X (compareOp op) r) (hs : Snd2 T r g) (ha : PE X a (tE T W ma)) (hb : PE X b (tE T W mb)) (hm : behindInMarks op b = false) :
    PE X (.Compare a [op] [b] pos) (tE T W (eBin g ma mb)) := pe_le (pe_cmpR ho ha hb hm) fun _ _ _ h => bin_le hs h
end
end Pev
/-! Pev, fourth part: the operators by values. -/
namespace Pev
open PySem PySem.Spec PyProof.Rows L2

section
variable {X : Cx} {T : Tb}
theorem vr_int {K : Tb} {β : List Addr} {α : List (Option Addr)} {H : Hp} {i : Int} {v : V} (h : Vr K β α H (.dat (.int i)) v) : v = .int i := by cases h; rfl
theorem vr_bl {K : Tb} {β : List Addr} {α : List (Option Addr)} {H : Hp} {i : Bool} {v : V} (h : Vr K β α H (.dat (.bool i)) v) : v = .bl i := by cases h; rfl
theorem vr_str {K : Tb} {β : List Addr} {α : List (Option Addr)} {H : Hp} {i : Str} {v : V} (h : Vr K β α H (.dat (.str i)) v) : v = .str i := by cases h; rfl
theorem vr_non {K : Tb} {β : List Addr} {α : List (Option Addr)} {H : Hp} {v : V} (h : Vr K β α H (.dat .none) v) : v = .non := by cases h; rfl

def ans (d : PyData) (S : Sto) : Out R := .ok (.dat d) S
theorem ans_int {T : Tb} {β : List Addr} {W : WX} {σ : L2.St} {α : List (Option Addr)} {H : Hp} {S : Sto} (Rr : Rl T β α S H) {i : Int} {Q : V → Hp → Prop} (h : PostG T β W (Vr T β) σ (ans (.int i) S) α H Q) : Q (.int i) H := old_ok Rr h (.int i)
theorem ans_bl {T : Tb} {β : List Addr} {W : WX} {σ : L2.St} {α : List (Option Addr)} {H : Hp} {S : Sto} (Rr : Rl T β α S H) {i : Bool} {Q : V → Hp → Prop} (h : PostG T β W (Vr T β) σ (ans (.bool i) S) α H Q) : Q (.bl i) H := old_ok Rr h (.bl i)
theorem ans_str {T : Tb} {β : List Addr} {W : WX} {σ : L2.St} {α : List (Option Addr)} {H : Hp} {S : Sto} (Rr : Rl T β α S H) {i : Str} {Q : V → Hp → Prop} (h : PostG T β W (Vr T β) σ (ans (.str i) S) α H Q) : Q (.str i) H := old_ok Rr h (.str i)

/-! ### + -/
def bAdd (own : Bool) (x y : R) (S : Sto) : Out R :=
  match x, y with
  | .dat (.int i), .dat (.int j) => ans (.int (i + j)) S
  | .dat (.int i), .dat (.bool k) => ans (.int (i + b2i k)) S
  | .dat (.str s), .dat (.str t) => if s.length + t.length ≤ sizeLine then ans (.str (s ++ t)) S else .stuck
  | .dat (.tuple ds), .dat (.tuple es) => if ds.length + es.length ≤ sizeLine then ans (.tuple (ds ++ es)) S else .stuck
  | _, _ => match lvt S x, lvt S y with
    | some rs, some qs => if rs.length + qs.length ≤ sizeLine then newL own (rs ++ qs) S else .stuck
    | _, _ => .stuck
def rAddU (K : PySem.W.Frag) : R2 := fun x y H Q => ((rI0 fun i j => .int (i + j)) x y H Q) ∨ (∃ i k, x = .int i ∧ y = .bl k ∧ Q (.int (i + b2i k)) H) ∨ (∃ i j, x = .str i ∧ y = .str j ∧ i.length + j.length ≤ sizeLine ∧ Q (.str (i ++ j)) H) ∨ rCatA K x y H Q ∨ rCat x y H Q
theorem op_addU : OpR X (binaryOp .Add) (rAddU X.K) := op_add.or (op_add_ib.or (op_add_str.or (op_catA.or op_cat)))
theorem snd_add (own : Bool) : Snd2 T (rAddU T.K) (bAdd own) := by
  intro β W σ α S H x y v w Q Rr hx hy h
  unfold bAdd at h
  split at h
  · cases vr_int hx; cases vr_int hy; exact .inl ⟨_, _, rfl, rfl, ans_int Rr h⟩
  · cases vr_int hx; cases vr_bl hy; exact .inr (.inl ⟨_, _, rfl, rfl, ans_int Rr h⟩)
  · cases vr_str hx; cases vr_str hy
    split at h
    · rename_i hz
      exact .inr (.inr (.inl ⟨_, _, rfl, rfl, hz, ans_str Rr h⟩))
    · exact h.elim
  · rename_i ds es
    split at h
    · rename_i hz
      obtain ⟨a, vs, rfl, h1, h2⟩ := tv_ok (ds := ds) hx rfl
      obtain ⟨b, ws, rfl, h3, h4⟩ := tv_ok (ds := es) hy rfl
      have l1 := DqAll.length h2
      have l2 := DqAll.length h4
      refine .inr (.inr (.inr (.inl ⟨a, b, vs, ws, rfl, rfl, h1, h3, by rw [l1, l2]; exact hz, fun e => ?_, fun e1 e2 => ?_, fun _ _ p hp => ?_⟩)))
      · subst e
        cases h2
        exact old_ok Rr h hy
      · subst e2
        cases h4
        rw [List.append_nil] at h
        exact old_ok Rr h hx
      · refine newT_ok (rs := (ds ++ es).map .dat) Rr hp ?_ (by unfold newT; rw [datAll_map]; exact h)
        exact DqAll.vrs (DqAll.append h2 h4)
    · exact h.elim
  · split at h
    · rename_i rs qs e1 e2
      split at h
      · rename_i hz
        obtain ⟨a, vs, rfl, h1, h2⟩ := lvt_ok Rr hx e1
        obtain ⟨b, ws, rfl, h3, h4⟩ := lvt_ok Rr hy e2
        refine .inr (.inr (.inr (.inr ⟨a, b, vs, ws, rfl, rfl, h1, h3, by rw [← h2.length, ← h4.length]; exact hz, fun p hp => ?_⟩)))
        exact newL_ok Rr hp (Vrs.append h2 h4) h
      · exact h.elim
    · exact h.elim

/-! ### ints -/
def bSub (x y : R) (S : Sto) : Out R := match x, y with
  | .dat (.int i), .dat (.int j) => ans (.int (i - j)) S
  | _, _ => .stuck
theorem snd_sub : Snd2 T (rI0 fun i j => .int (i - j)) bSub := by
  intro β W σ α S H x y v w Q Rr hx hy h
  unfold bSub at h
  split at h
  · cases vr_int hx; cases vr_int hy; exact ⟨_, _, rfl, rfl, ans_int Rr h⟩
  · exact h.elim
def mulOk (i j : Int) : Bool := decide (i.natAbs < 18446744073709551616) || decide (j.natAbs < 18446744073709551616)
theorem mulOk_c {i j : Int} (h : mulOk i j = true) : CMul i j := by
  unfold mulOk at h
  rw [Bool.or_eq_true] at h
  rcases h with h | h
  · have h := of_decide_eq_true h
    exact .inl ⟨by omega, by omega⟩
  · have h := of_decide_eq_true h
    exact .inr ⟨by omega, by omega⟩
/-- ints, and a list so many times -/
def bMul (own : Bool) (x y : R) (S : Sto) : Out R := match x, y with
  | .dat (.int i), .dat (.int j) => if mulOk i j then ans (.int (i * j)) S else .stuck
  | _, .dat (.int k) => match lvt S x with
    | some rs => if -(2 ^ 63) ≤ k ∧ k < 2 ^ 63 ∧ rs.length * k.toNat ≤ sizeLine then newL own (List.replicate k.toNat rs).flatten S else .stuck
    | none => .stuck
  | _, _ => .stuck
def rMulU : R2 := fun x y H Q => (rI CMul fun i j => .int (i * j)) x y H Q ∨ rRep x y H Q
theorem op_mulU : OpR X (binaryOp .Mult) rMulU := op_mul.or op_rep
theorem Vrs.rep {K : Tb} {β : List Addr} {α : List (Option Addr)} {H : Hp} {rs : List R} {vs : List V} (h : Vrs K β α H rs vs) : ∀ k : Nat, Vrs K β α H (List.replicate k rs).flatten (List.replicate k vs).flatten
  | 0 => .nil
  | k + 1 => by
    rw [List.replicate_succ, List.replicate_succ, List.flatten_cons, List.flatten_cons]
    exact Vrs.append h (Vrs.rep h k)
theorem snd_mul (own : Bool) : Snd2 T rMulU (bMul own) := by
  intro β W σ α S H x y v w Q Rr hx hy h
  unfold bMul at h
  split at h
  · cases vr_int hx; cases vr_int hy
    split at h
    · rename_i hc
      exact .inl ⟨_, _, rfl, rfl, mulOk_c hc, ans_int Rr h⟩
    · exact h.elim
  · cases vr_int hy
    split at h
    · rename_i rs e
      split at h
      · rename_i hz
        obtain ⟨a, vs, rfl, h1, h2⟩ := lvt_ok Rr hx e
        exact .inr ⟨a, _, vs, rfl, rfl, h1, hz.1, hz.2.1, by rw [← h2.length]; exact hz.2.2, fun p hp => newL_ok Rr hp (h2.rep _) h⟩
      · exact h.elim
    · exact h.elim
  · exact h.elim
def bDiv (x y : R) (S : Sto) : Out R := match x, y with
  | .dat (.int i), .dat (.int j) => if j ≠ 0 ∧ j.natAbs < 1073741824 then ans (.int (i.fdiv j)) S else .stuck
  | _, _ => .stuck
theorem snd_div : Snd2 T (rI CDivN fun i j => .int (i.fdiv j)) bDiv := by
  intro β W σ α S H x y v w Q Rr hx hy h
  unfold bDiv at h
  split at h
  · cases vr_int hx; cases vr_int hy
    split at h
    · rename_i hc
      exact ⟨_, _, rfl, rfl, hc, ans_int Rr h⟩
    · exact h.elim
  · exact h.elim
def bMod (x y : R) (S : Sto) : Out R := match x, y with
  | .dat (.int i), .dat (.int j) => if j ≠ 0 then ans (.int (i.fmod j)) S else .stuck
  | _, _ => .stuck
theorem snd_mod : Snd2 T (rI (fun _ j => j ≠ 0) fun i j => .int (i.fmod j)) bMod := by
  intro β W σ α S H x y v w Q Rr hx hy h
  unfold bMod at h
  split at h
  · cases vr_int hx; cases vr_int hy
    split at h
    · rename_i hc
      exact ⟨_, _, rfl, rfl, hc, ans_int Rr h⟩
    · exact h.elim
  · exact h.elim
def bPow (x y : R) (S : Sto) : Out R := match x, y with
  | .dat (.int i), .dat (.int j) => if 0 ≤ j ∧ j ≤ 1000000 ∧ i.natAbs < 18446744073709551616 then ans (.int (i ^ j.toNat)) S else .stuck
  | _, _ => .stuck
theorem snd_pow : Snd2 T (rI CPow fun i j => .int (i ^ j.toNat)) bPow := by
  intro β W σ α S H x y v w Q Rr hx hy h
  unfold bPow at h
  split at h
  · cases vr_int hx; cases vr_int hy
    split at h
    · rename_i hc
      exact ⟨_, _, rfl, rfl, hc, ans_int Rr h⟩
    · exact h.elim
  · exact h.elim
def uNeg (x : R) (S : Sto) : Out R := match x with
  | .dat (.int i) => ans (.int (-i)) S
  | _ => .stuck
theorem snd_neg : Snd1 T (rU fun i => .int (-i)) uNeg := by
  intro β W σ α S H x v Q Rr hx h
  unfold uNeg at h
  split at h
  · cases vr_int hx; exact ⟨_, rfl, ans_int Rr h⟩
  · exact h.elim

/-! ### comparisons -/
def bEq (neg : Bool) (x y : R) (S : Sto) : Out R := match snap S 4 x, snap S 4 y with
  | some d, some e => if SeqAt.shaped d && SeqAt.shaped e then ans (.bool (if neg then !PyData.eqv d e else PyData.eqv d e)) S else .stuck
  | _, _ => .stuck
theorem snd_eq : Snd2 T (rEqD T.K) (bEq false) := by
  intro β W σ α S H x y v w Q Rr hx hy h
  unfold bEq at h
  split at h
  · rename_i d e e1 e2
    split at h
    · rename_i hc
      rw [Bool.and_eq_true] at hc
      exact ⟨d, e, snap_dp Rr hx e1, snap_dp Rr hy e2, hc.1, hc.2, ans_bl Rr h⟩
    · exact h.elim
  · exact h.elim
theorem snd_ne : Snd2 T (rNeD T.K) (bEq true) := by
  intro β W σ α S H x y v w Q Rr hx hy h
  unfold bEq at h
  split at h
  · rename_i d e e1 e2
    split at h
    · rename_i hc
      rw [Bool.and_eq_true] at hc
      exact ⟨d, e, snap_dp Rr hx e1, snap_dp Rr hy e2, hc.1, hc.2, ans_bl Rr h⟩
    · exact h.elim
  · exact h.elim
def bLt (x y : R) (S : Sto) : Out R := match x, y with
  | .dat (.int i), .dat (.int j) => ans (.bool (decide (i < j))) S
  | .dat (.str i), .dat (.str j) => ans (.bool (decide (i.cps.toList < j.cps.toList))) S
  | _, _ => .stuck
def bLe (x y : R) (S : Sto) : Out R := match x, y with
  | .dat (.int i), .dat (.int j) => ans (.bool (decide (i ≤ j))) S
  | .dat (.str i), .dat (.str j) => ans (.bool (!decide (j.cps.toList < i.cps.toList))) S
  | _, _ => .stuck
def bGt (x y : R) (S : Sto) : Out R := match x, y with
  | .dat (.int i), .dat (.int j) => ans (.bool (decide (j < i))) S
  | .dat (.str i), .dat (.str j) => ans (.bool (decide (j.cps.toList < i.cps.toList))) S
  | _, _ => .stuck
def bGe (x y : R) (S : Sto) : Out R := match x, y with
  | .dat (.int i), .dat (.int j) => ans (.bool (decide (j ≤ i))) S
  | .dat (.str i), .dat (.str j) => ans (.bool (!decide (i.cps.toList < j.cps.toList))) S
  | _, _ => .stuck
def rOrd (p : Int → Int → Bool) (q : Str → Str → Bool) : R2 := fun x y H Q => (rI0 fun i j => .bl (p i j)) x y H Q ∨ ∃ i j, x = .str i ∧ y = .str j ∧ Q (.bl (q i j)) H
theorem op_ltU : OpR X (compareOp .Lt) (rOrd (fun i j => decide (i < j)) fun i j => decide (i.cps.toList < j.cps.toList)) := op_lt.or op_lt_str
theorem op_leU : OpR X (compareOp .LtE) (rOrd (fun i j => decide (i ≤ j)) fun i j => !decide (j.cps.toList < i.cps.toList)) := op_le.or op_le_str
theorem op_gtU : OpR X (compareOp .Gt) (rOrd (fun i j => decide (j < i)) fun i j => decide (j.cps.toList < i.cps.toList)) := op_gt.or op_gt_str
theorem op_geU : OpR X (compareOp .GtE) (rOrd (fun i j => decide (j ≤ i)) fun i j => !decide (i.cps.toList < j.cps.toList)) := op_ge.or op_ge_str
theorem snd_lt : Snd2 T (rOrd (fun i j => decide (i < j)) fun i j => decide (i.cps.toList < j.cps.toList)) bLt := by
  intro β W σ α S H x y v w Q Rr hx hy h
  unfold bLt at h
  split at h
  · cases vr_int hx; cases vr_int hy; exact .inl ⟨_, _, rfl, rfl, ans_bl Rr h⟩
  · cases vr_str hx; cases vr_str hy; exact .inr ⟨_, _, rfl, rfl, ans_bl Rr h⟩
  · exact h.elim
theorem snd_le : Snd2 T (rOrd (fun i j => decide (i ≤ j)) fun i j => !decide (j.cps.toList < i.cps.toList)) bLe := by
  intro β W σ α S H x y v w Q Rr hx hy h
  unfold bLe at h
  split at h
  · cases vr_int hx; cases vr_int hy; exact .inl ⟨_, _, rfl, rfl, ans_bl Rr h⟩
  · cases vr_str hx; cases vr_str hy; exact .inr ⟨_, _, rfl, rfl, ans_bl Rr h⟩
  · exact h.elim
theorem snd_gt : Snd2 T (rOrd (fun i j => decide (j < i)) fun i j => decide (j.cps.toList < i.cps.toList)) bGt := by
  intro β W σ α S H x y v w Q Rr hx hy h
  unfold bGt at h
  split at h
  · cases vr_int hx; cases vr_int hy; exact .inl ⟨_, _, rfl, rfl, ans_bl Rr h⟩
  · cases vr_str hx; cases vr_str hy; exact .inr ⟨_, _, rfl, rfl, ans_bl Rr h⟩
  · exact h.elim
theorem snd_ge : Snd2 T (rOrd (fun i j => decide (j ≤ i)) fun i j => !decide (i.cps.toList < j.cps.toList)) bGe := by
  intro β W σ α S H x y v w Q Rr hx hy h
  unfold bGe at h
  split at h
  · cases vr_int hx; cases vr_int hy; exact .inl ⟨_, _, rfl, rfl, ans_bl Rr h⟩
  · cases vr_str hx; cases vr_str hy; exact .inr ⟨_, _, rfl, rfl, ans_bl Rr h⟩
  · exact h.elim
/-- is None -/
def isNone? (S : Sto) : R → Option Bool
  | .dat .none => some true
  | .dat _ => some false
  | .obj k => match S[k]? with
    | some (.lst _) => some false
    | _ => none
  | .ro _ => some false
  | .err _ _ => some false
  | .lam _ _ => none
def bIsN (neg : Bool) (x y : R) (S : Sto) : Out R := match y, isNone? S x with
  | .dat .none, some b => ans (.bool (if neg then !b else b)) S
  | _, _ => .stuck
theorem isNone_ok {K : Tb} {β : List Addr} {α : List (Option Addr)} {H : Hp} {S : Sto} (Rr : Rl K β α S H) {x : R} {v : V} {b : Bool} (hx : Vr K β α H x v) (e : isNone? S x = some b) : decide (v = .non) = b := by
  cases x with
  | dat d =>
    cases d <;> first
      | (cases e; cases hx; rfl)
      | (cases e; cases hx <;> exact decide_eq_false (by intro z; cases z))
  | obj k =>
    unfold isNone? at e
    dsimp only at e
    split at e
    · rename_i rs q
      cases e
      obtain ⟨a, vs, e1, _, _⟩ := Rr.cell k _ q
      cases hx.2 a e1
      exact decide_eq_false (by intro z; cases z)
    · cases e
  | ro ds =>
    cases e
    obtain ⟨a, vs, rfl, _⟩ := hx
    exact decide_eq_false (by intro z; cases z)
  | err c f => exact hx.elim
  | lam _ _ => cases e
theorem snd_notN : Snd2 T (fun x y H Q => y = .non ∧ Q (.bl (!decide (x = .non))) H) (bIsN true) := by
  intro β W σ α S H x y v w Q Rr hx hy h
  unfold bIsN at h
  split at h
  · rename_i b e
    cases vr_non hy
    refine ⟨rfl, ?_⟩
    rw [isNone_ok Rr hx e]
    exact ans_bl Rr h
  · exact h.elim
end
end Pev
/-! Pev, fifth part: in, places, slices, displays, tests. -/
namespace Pev
open PySem PySem.Spec PyProof.Rows L2

/-! ### in -/
def rInTp (K : PySem.W.Frag) (neg : Bool) : R2 := fun x y H Q => ∃ d ds, Dp K H x d ∧ Dp K H y (.tuple ds) ∧ SeqAt.shaped d = true ∧ SeqAt.shaped (.tuple ds) = true ∧ Q (.bl (if neg then !ds.any (fun z => PyData.eqv z d) else ds.any fun z => PyData.eqv z d)) H
section
variable {X : Cx} {T : Tb}
theorem op_inTp (hu : X.A.units + 65 < cLine) : OpR X (compareOp .In) (rInTp X.K false) := by
  intro pins s σ H x y v u Q I rx ry h
  obtain ⟨d, ds, hd, he, sd, se, q⟩ := h
  obtain ⟨as, r1⟩ := Dp.reads I d x v hd rx
  obtain ⟨bs, r2⟩ := Dp.reads I (.tuple ds) y u he ry
  exact SeqAt.in_tuple_reads r2 r1 (SeqAt.canLay_of_shaped se) (SeqAt.canLay_of_shaped sd) (room_in_shaped sd hu) ⟨.bl _, H, I, rfl, q⟩
theorem op_notInTp (hu : X.A.units + 65 < cLine) : OpR X (compareOp .NotIn) (rInTp X.K true) := by
  intro pins s σ H x y v u Q I rx ry h
  obtain ⟨d, ds, hd, he, sd, se, q⟩ := h
  obtain ⟨as, r1⟩ := Dp.reads I d x v hd rx
  obtain ⟨bs, r2⟩ := Dp.reads I (.tuple ds) y u he ry
  exact SeqAt.notIn_tuple_reads r2 r1 (SeqAt.canLay_of_shaped se) (SeqAt.canLay_of_shaped sd) (room_in_shaped sd hu) ⟨.bl _, H, I, rfl, q⟩
def inAns (neg : Bool) (b : Bool) (S : Sto) : Out R := ans (.bool (if neg then !b else b)) S
def bIn (neg : Bool) (x y : R) (S : Sto) : Out R := match snap S 4 x, snap S 4 y with
  | some d, some (.list ds) => if SeqAt.shaped d && SeqAt.shaped (.list ds) then inAns neg (ds.any fun z => PyData.eqv z d) S else .stuck
  | some d, some (.tuple ds) => if SeqAt.shaped d && SeqAt.shaped (.tuple ds) then inAns neg (ds.any fun z => PyData.eqv z d) S else .stuck
  | some (.str i), some (.str j) => inAns neg (!(Builtin.Str.occurrences j i 0 j.length 1).isEmpty) S
  | _, _ => .stuck
def rInU (K : PySem.W.Frag) : R2 := fun x y H Q => rInD K x y H Q ∨ rInTp K false x y H Q ∨ ∃ i j, x = .str i ∧ y = .str j ∧ Q (.bl (!(Builtin.Str.occurrences j i 0 j.length 1).isEmpty)) H
def rNotInU (K : PySem.W.Frag) : R2 := fun x y H Q => rNotInD K x y H Q ∨ rInTp K true x y H Q ∨ ∃ i j, x = .str i ∧ y = .str j ∧ Q (.bl (!(!(Builtin.Str.occurrences j i 0 j.length 1).isEmpty))) H
theorem op_inU (hu : X.A.units + 65 < cLine) : OpR X (compareOp .In) (rInU X.K) := (op_inD hu).or ((op_inTp hu).or op_in_str)
theorem op_notInU (hu : X.A.units + 65 < cLine) : OpR X (compareOp .NotIn) (rNotInU X.K) := (op_notInD hu).or ((op_notInTp hu).or op_notIn_str)
theorem snap_str {K : Tb} {β : List Addr} {α : List (Option Addr)} {H : Hp} {S : Sto} (Rr : Rl K β α S H) {n : Nat} {x : R} {v : V} {z : Str} (h : Vr K β α H x v) (e : snap S n x = some (.str z)) : v = .str z := by
  cases snap_dp Rr h e
  rfl
theorem snd_in : Snd2 T (rInU T.K) (bIn false) := by
  intro β W σ α S H x y v w Q Rr hx hy h
  unfold bIn at h
  split at h
  · rename_i d ds e1 e2
    split at h
    · rename_i hc
      rw [Bool.and_eq_true] at hc
      exact .inl ⟨d, ds, snap_dp Rr hx e1, snap_dp Rr hy e2, hc.1, hc.2, ans_bl Rr h⟩
    · exact h.elim
  · rename_i d ds e1 e2
    split at h
    · rename_i hc
      rw [Bool.and_eq_true] at hc
      exact .inr (.inl ⟨d, ds, snap_dp Rr hx e1, snap_dp Rr hy e2, hc.1, hc.2, ans_bl Rr h⟩)
    · exact h.elim
  · rename_i i j e1 e2
    exact .inr (.inr ⟨i, j, snap_str Rr hx e1, snap_str Rr hy e2, ans_bl Rr h⟩)
  · exact h.elim
theorem snd_notIn : Snd2 T (rNotInU T.K) (bIn true) := by
  intro β W σ α S H x y v w Q Rr hx hy h
  unfold bIn at h
  split at h
  · rename_i d ds e1 e2
    split at h
    · rename_i hc
      rw [Bool.and_eq_true] at hc
      exact .inl ⟨d, ds, snap_dp Rr hx e1, snap_dp Rr hy e2, hc.1, hc.2, ans_bl Rr h⟩
    · exact h.elim
  · rename_i d ds e1 e2
    split at h
    · rename_i hc
      rw [Bool.and_eq_true] at hc
      exact .inr (.inl ⟨d, ds, snap_dp Rr hx e1, snap_dp Rr hy e2, hc.1, hc.2, ans_bl Rr h⟩)
    · exact h.elim
  · rename_i i j e1 e2
    exact .inr (.inr ⟨i, j, snap_str Rr hx e1, snap_str Rr hy e2, ans_bl Rr h⟩)
  · exact h.elim

/-! ### x[i] -/
def bIx (x y : R) (S : Sto) : Out R := match y with
  | .dat (.int i) => match x with
    | .dat (.str z) => if z.length ≤ sizeLine then (match atI z.cps.toList i with
      | some c => ans (.str ⟨#[c]⟩) S
      | none => .stuck) else .stuck
    | .dat (.tuple ds) => (match atI ds i with
      | some d => ans d S
      | none => .stuck)
    | _ => match lv S x with
      | some rs => (match atI rs i with
        | some r => .ok r S
        | none => .stuck)
      | none => .stuck
  | _ => .stuck
theorem atI_rel {K : Tb} {β : List Addr} {α : List (Option Addr)} {H : Hp} {rs : List R} {vs : List V} (h : Vrs K β α H rs vs) {i : Int} {r : R} (e : atI rs i = some r) : ∃ v, atI vs i = some v ∧ Vr K β α H r v := by
  unfold atI at e ⊢
  rw [← h.length]
  cases q : ixN rs.length i with
  | none => rw [q] at e; cases e
  | some j =>
    rw [q] at e
    obtain ⟨v, e1, e2⟩ := h.get (i := j) (r := r) e
    exact ⟨v, e1, e2⟩
theorem atI_dat {ds : List PyData} {i : Int} {d : PyData} (e : atI ds i = some d) : atI (ds.map R.dat) i = some (.dat d) := by
  unfold atI at e ⊢
  rw [List.length_map]
  cases q : ixN ds.length i with
  | none => rw [q] at e; cases e
  | some j =>
    rw [q] at e
    show (ds.map R.dat)[j]? = some (.dat d)
    have e' : ds[j]? = some d := e
    rw [List.getElem?_map, e']
    rfl
theorem snd_ix : Snd2 T (rIx T.K) bIx := by
  intro β W σ α S H x y v w Q Rr hx hy h
  unfold bIx at h
  split at h
  · cases vr_int hy
    split at h
    · cases vr_str hx
      split at h
      · rename_i hz
        split at h
        · rename_i c e
          exact .inr (.inr ⟨_, _, c, rfl, rfl, hz, e, ans_str Rr h⟩)
        · exact h.elim
      · exact h.elim
    · rename_i ds
      split at h
      · rename_i d e
        obtain ⟨a, vs, rfl, h1, h2⟩ := tv_ok (ds := ds) hx rfl
        obtain ⟨u, e1, e2⟩ := atI_rel (DqAll.vrs h2) (atI_dat e)
        exact .inr (.inl ⟨a, vs, _, u, rfl, rfl, h1, e1, old_ok Rr h e2⟩)
      · exact h.elim
    · split at h
      · rename_i rs e
        split at h
        · rename_i r e2
          obtain ⟨a, vs, rfl, h1, h2⟩ := lv_ok Rr hx e
          obtain ⟨u, e3, e4⟩ := atI_rel h2 e2
          exact .inl ⟨a, vs, _, u, rfl, rfl, h1, e3, old_ok Rr h e4⟩
        · exact h.elim
      · exact h.elim
  · exact h.elim
theorem tr_ix {W : WX} {a b : Expr} {ma mb : EM} {pos : Pos} (hK : X.K = T.K) (ha : PE X a (tE T W ma)) (hb : PE X b (tE T W mb)) (hs : PlainIx b := by exact fun _ _ => rfl) : PE X (.Subscript a b pos) (tE T W (eBin bIx ma mb)) :=
  pe_le (pe_ix ix_seq ha hb hs) fun _ _ _ h => bin_le (by rw [hK]; exact snd_ix) h

/-! ### x[a:b] -/
def cutR {α : Type} (xs : List α) (lo hi : Option Int) : List α := (xs.drop (HT.sIx xs.length 0 lo)).take (HT.sIx xs.length xs.length hi - HT.sIx xs.length 0 lo)
def toI (y : R) (S : Sto) : Out (Option Int) := match y with
  | .dat (.int i) => .ok (some i) S
  | _ => .stuck
def oPart (l : Option EM) (ρ : Rho) (S : Sto) : Out (Option Int) := match l with
  | none => .ok none S
  | some ml => (ml ρ S).bind toI
def gSl (own : Bool) (x : R) (lo hi : Option Int) (S : Sto) : Out R := match x with
  | .dat (.str z) => if z.length ≤ sizeLine then ans (.str (cutS z lo hi)) S else .stuck
  | .dat (.tuple ds) => ans (.tuple (cutR ds lo hi)) S
  | _ => match lv S x with
    | some rs => newL own (cutR rs lo hi) S
    | none => .stuck
def eSl (own : Bool) (m : EM) (l h : Option EM) : EM := fun ρ S => (m ρ S).bind fun x S1 => (oPart l ρ S1).bind fun lo S2 => (oPart h ρ S2).bind fun hi S3 => gSl own x lo hi S3
def rSlU (K : PySem.W.Frag) : V → Option Int → Option Int → Hp → VK → Prop := fun x lo hi H Q => rSlL K x lo hi H Q ∨ rSlA K x lo hi H Q ∨ rSlS x lo hi H Q
theorem sl_U : SlR X (rSlU X.K) := sl_list.or (sl_tupA.or sl_str)
end
theorem cutR_rel {K : Tb} {β : List Addr} {α : List (Option Addr)} {H : Hp} {rs : List R} {vs : List V} (h : Vrs K β α H rs vs) (lo hi : Option Int) : Vrs K β α H (cutR rs lo hi) (cutV vs lo hi) := by
  unfold cutR cutV
  rw [← h.length]
  exact (h.drop _).take _
theorem cutR_map (ds : List PyData) (lo hi : Option Int) : cutR (ds.map R.dat) lo hi = (cutR ds lo hi).map .dat := by
  unfold cutR
  rw [List.length_map, ← List.map_drop, ← List.map_take]
theorem sIx_whole {n : Nat} {α : Type} {xs : List α} (hn : xs.length = n) {lo hi : Option Int} (h : HT.sIx n 0 lo = 0 ∧ HT.sIx n n hi = n) : cutR xs lo hi = xs := by
  unfold cutR
  rw [hn, h.1, h.2, List.drop_zero, Nat.sub_zero, ← hn, List.take_length]
section
variable {X : Cx} {T : Tb} {W : WX} {e : Expr} {m : EM}
/-- a part of a slice -/
def tO (T : Tb) (W : WX) (l : Option EM) : TO := match l with
  | none => tNoPart
  | some m => tPart (tE T W m)
theorem part_le {β : List Addr} {σ : L2.St} {α : List (Option Addr)} {H : Hp} {S : Sto} {ρ : Rho} {l : Option EM} {f : Option Int → Sto → Out R} {Q : VK} {Q' : Option Int → Hp → Prop} (hR : Rl T β α S H) (hE : Er T β α H σ ρ)
    (h : PostG T β W (Vr T β) σ ((oPart l ρ S).bind f) α H Q) (k : ∀ i α1 S1 H1, Ext α H α1 H1 → Rl T β α1 S1 H1 → PostG T β W (Vr T β) σ (f i S1) α1 H1 Q → Q' i H1) : tO T W l σ H Q' := by
  cases l with
  | none => exact k none α S H Ext.refl hR h
  | some m =>
    refine ⟨β, α, S, ρ, hR, hE, ?_⟩
    have h' : PostG T β W (Vr T β) σ (((m ρ S).bind toI).bind f) α H Q := h
    cases q : m ρ S with
    | stuck => rw [q] at h'; exact h'.elim
    | exc k f S1 => rw [q] at h'; exact h'
    | ok y S1 =>
      rw [q] at h'
      intro α1 H1 w x1 R1 V1
      cases y with
      | dat d =>
        cases d with
        | int i => exact ⟨i, vr_int V1, k (some i) α1 S1 H1 x1 R1 (PostG.on x1 h')⟩
        | _ => exact h'.elim
      | _ => exact h'.elim
theorem gSl_ok {β : List Addr} {σ : L2.St} {α : List (Option Addr)} {H : Hp} {S : Sto} {own : Bool} {x : R} {v : V} {lo hi : Option Int} {Q : VK} (Rr : Rl T β α S H) (hx : Vr T β α H x v)
    (h : PostG T β W (Vr T β) σ (gSl own x lo hi S) α H Q) : rSlU T.K v lo hi H Q := by
  unfold gSl at h
  split at h
  · cases vr_str hx
    split at h
    · rename_i hz
      exact .inr (.inr ⟨_, rfl, hz, ans_str Rr h⟩)
    · exact h.elim
  · rename_i ds
    obtain ⟨a, vs, rfl, q1, q2⟩ := tv_ok (ds := ds) hx rfl
    refine .inr (.inl ⟨a, vs, rfl, q1, fun hw => ?_, fun hw p hp => ?_⟩)
    · rw [sIx_whole (DqAll.length q2).symm hw] at h
      exact old_ok Rr h hx
    · refine newT_ok (rs := (cutR ds lo hi).map .dat) Rr hp ?_ (by unfold newT; rw [datAll_map]; exact h)
      rw [← cutR_map]
      exact cutR_rel (DqAll.vrs q2) lo hi
  · split at h
    · rename_i rs e2
      obtain ⟨a, vs, rfl, q1, q2⟩ := lv_ok Rr hx e2
      exact .inl ⟨a, vs, rfl, q1, fun p hp => newL_ok Rr hp (cutR_rel q2 lo hi) h⟩
    · exact h.elim
theorem slice_le (hK : X.K = T.K) {own : Bool} {l h : Option EM} {σ : L2.St} {H : Hp} {Q : VK} (q : tE T W (eSl own m l h) σ H Q) : tSl (rSlU X.K) (tE T W m) (tO T W l) (tO T W h) σ H Q := by
  rw [hK]
  obtain ⟨β, α, S, ρ, hR, hE, hp⟩ := q
  refine ⟨β, α, S, ρ, hR, hE, ?_⟩
  have h1 := PostG.bind (rel := Vr T β) hp
  cases q : m ρ S with
  | stuck => rw [q] at h1; exact h1.elim
  | exc k f S1 => rw [q] at h1; exact h1
  | ok x S1 =>
    rw [q] at h1
    intro α1 H1 v e1 R1 V1
    obtain ⟨α1', S1', x', ex, e1', R1', V1', h2⟩ := h1 α1 H1 v e1 R1 V1
    cases ex
    refine part_le R1' (hE.ext e1') h2 fun lo α2 S2 H2 x2 R2 h3 => ?_
    exact part_le R2 ((hE.ext e1').ext x2) h3 fun hi α3 S3 H3 x3 R3 h4 => gSl_ok R3 ((V1'.ext x2).ext x3) h4
end
section
variable {X : Cx} {T : Tb} {W : WX} {e lo hi : Expr} {m ml mh : EM} {p2 pos : Pos}
theorem tr_sl10 (own : Bool) (hK : X.K = T.K) (he : PE X e (tE T W m)) (hl : PE X lo (tE T W ml)) : PE X (.Subscript e (.Slice (some lo) none none p2) pos) (tE T W (eSl own m (some ml) none)) :=
  pe_le (pe_slice sl_U he (po_some hl) po_none) fun _ _ _ h => slice_le hK h
theorem tr_sl01 (own : Bool) (hK : X.K = T.K) (he : PE X e (tE T W m)) (hh : PE X hi (tE T W mh)) : PE X (.Subscript e (.Slice none (some hi) none p2) pos) (tE T W (eSl own m none (some mh))) :=
  pe_le (pe_slice sl_U he po_none (po_some hh)) fun _ _ _ h => slice_le hK h
/-- xs[::-1] of a list -/
def uRev (own : Bool) (x : R) (S : Sto) : Out R := match lv S x with
  | some rs => newL own rs.reverse S
  | none => .stuck
end

/-! ### arguments, displays -/
def aNil : EMs := fun _ S => .ok [] S
def aCons (m : EM) (ms : EMs) : EMs := fun ρ S => (m ρ S).bind fun x S1 => (ms ρ S1).bind fun xs S2 => .ok (x :: xs) S2
def eArgs (g : List R → Sto → Out R) (ms : EMs) : EM := fun ρ S => (ms ρ S).bind fun xs S1 => g xs S1
def SndA (T : Tb) (r : List V → Hp → VK → Prop) (g : List R → Sto → Out R) : Prop :=
  ∀ (β : List Addr) (W : WX) (σ : L2.St) (α : List (Option Addr)) (S : Sto) (H : Hp) (xs : List R) (vs : List V) (Q : VK), Rl T β α S H → Vrs T β α H xs vs →
    PostG T β W (Vr T β) σ (g xs S) α H Q → r vs H Q
section
variable {X : Cx} {T : Tb} {W : WX} {e : Expr} {es : List Expr} {m : EM} {ms : EMs} {pos : Pos}
theorem tr_nil : PA X [] (tA T W aNil) := pa_le pa_nil fun _ H Q ⟨_, _, _, _, hR, _, h⟩ => h _ H [] Ext.refl hR .nil
theorem tr_cons (ha : PE X e (tE T W m)) (hr : PA X es (tA T W ms)) (hs : starEach (e :: es) X.env = (false, eval e X.env) :: starEach es X.env := by rfl) : PA X (e :: es) (tA T W (aCons m ms)) := by
  refine pa_le (pa_cons ha hr hs) fun σ H Q ⟨β, α, S, ρ, hR, hE, h⟩ => ?_
  refine ⟨β, α, S, ρ, hR, hE, ?_⟩
  have h1 := PostG.bind (rel := Vr T β) (show PostG T β W (Vrs T β) σ ((m ρ S).bind fun x S1 => (ms ρ S1).bind fun xs S2 => .ok (x :: xs) S2) α H Q from h)
  cases q : m ρ S with
  | stuck => rw [q] at h1; exact h1.elim
  | exc k f S1 => rw [q] at h1; exact h1
  | ok x S1 =>
    rw [q] at h1
    intro α1 H1 v e1 R1 V1
    obtain ⟨α1', S1', x', ex, e1', R1', V1', h2⟩ := h1 α1 H1 v e1 R1 V1
    cases ex
    refine ⟨β, α1', S1, ρ, R1', hE.ext e1', ?_⟩
    have h3 := PostG.bind (rel := Vrs T β) h2
    cases q2 : ms ρ S1 with
    | stuck => rw [q2] at h3; exact h3.elim
    | exc k f S2 => rw [q2] at h3; exact h3
    | ok y S2 =>
      rw [q2] at h3
      intro α2 H2 w e2 R2 V2
      obtain ⟨α2', S2', y', ey, e2', R2', V2', h4⟩ := h3 α2 H2 w e2 R2 V2
      cases ey
      exact h4 α2' H2 (v :: w) Ext.refl R2' (.cons (V1'.ext e2') V2')
theorem args_le {r : List V → Hp → VK → Prop} {g : List R → Sto → Out R} (hs : SndA T r g) {σ : L2.St} {H : Hp} {Q : VK} (h : tE T W (eArgs g ms) σ H Q) : tA T W ms σ H fun vs H1 => r vs H1 Q := by
  obtain ⟨β, α, S, ρ, hR, hE, h⟩ := h
  refine ⟨β, α, S, ρ, hR, hE, ?_⟩
  have h1 := PostG.bind (rel := Vrs T β) (show PostG T β W (Vr T β) σ ((ms ρ S).bind fun x S1 => g x S1) α H Q from h)
  cases q : ms ρ S with
  | stuck => rw [q] at h1; exact h1.elim
  | exc k f S1 => rw [q] at h1; exact h1
  | ok x S1 =>
    rw [q] at h1
    intro α1 H1 v e1 R1 V1
    obtain ⟨α1', S1', x', ex, e1', R1', V1', h2⟩ := h1 α1 H1 v e1 R1 V1
    cases ex
    exact hs β W σ α1' S1 H1 x v Q R1' V1' h2
def gTup (xs : List R) (S : Sto) : Out R := if xs.length ≤ sizeLine then newT xs S else .stuck
def gLst (own : Bool) (xs : List R) (S : Sto) : Out R := if xs.length ≤ sizeLine then newL own xs S else .stuck
theorem tr_tup {x1 : Nat} (h : PA X es (tA T W ms)) : PE X (.Tuple es x1 pos) (tE T W (eArgs gTup ms)) :=
  pe_le (pe_tup h) fun σ H Q h => args_le (r := fun xs H1 Q => xs.length ≤ sizeLine ∧ ∀ p, H1 p = none → Q (.ref p) (upd H1 p (.tup xs))) (g := gTup) (by
    intro β W σ α S H xs vs Q Rr hx h
    unfold gTup at h
    split at h
    · rename_i hz
      exact ⟨by rw [← hx.length]; exact hz, fun p hp => newT_ok Rr hp hx h⟩
    · exact h.elim) h
theorem tr_lst (own : Bool) (h : PA X es (tA T W ms)) : PE X (.List es pos) (tE T W (eArgs (gLst own) ms)) :=
  pe_le (pe_lst h) fun σ H Q h => args_le (r := fun xs H1 Q => xs.length ≤ sizeLine ∧ ∀ p, H1 p = none → Q (.ref p) (upd H1 p (.lst xs))) (g := gLst own) (by
    intro β W σ α S H xs vs Q Rr hx h
    unfold gLst at h
    split at h
    · rename_i hz
      exact ⟨by rw [← hx.length]; exact hz, fun p hp => newL_ok Rr hp hx h⟩
    · exact h.elim) h
/-- a built-in called by its name -/
theorem tr_callB {x : Str} {p : Pos} {id : String} {r : List V → Hp → VK → Prop} {g : List R → Sto → Out R} (hc : CallR X (.builtin id) r) (hs : SndA T r g) (hg : Gl X x) (hm : X.mg x = none) (hv : bootBuiltins x = some (.builtin id)) (ha : PA X (e :: es) (tA T W ms))
    (hn : x ≠ "__name__" := by decide) (hdb : (x == ("__debug__" : Str)) = false := by decide) (he : starEach (e :: es) X.env = (false, eval e X.env) :: starEach es X.env := by rfl) (hpl : (backTo pos (starEach es X.env)).any (·.1) = false := by rfl) :
    PE X (.Call (.Name x p) (e :: es) [] pos) (tE T W (eArgs g ms)) :=
  pe_le (pe_callB hc hg hm hv ha hn hdb he hpl) fun _ _ _ h => args_le hs h
theorem tr_callTy {x : Str} {p : Pos} {id : String} {r : List V → Hp → VK → Prop} {g : List R → Sto → Out R} (hc : CallR X (.type id) r) (hs : SndA T r g) (hg : Gl X x) (hm : X.mg x = none) (hv : bootBuiltins x = some (.type id)) (ha : PA X (e :: es) (tA T W ms))
    (hn : x ≠ "__name__" := by decide) (hdb : (x == ("__debug__" : Str)) = false := by decide) (he : starEach (e :: es) X.env = (false, eval e X.env) :: starEach es X.env := by rfl) (hpl : (backTo pos (starEach es X.env)).any (·.1) = false := by rfl) :
    PE X (.Call (.Name x p) (e :: es) [] pos) (tE T W (eArgs g ms)) :=
  pe_le (pe_callTy hc hg hm hv ha hn hdb he hpl) fun _ _ _ h => args_le hs h
end
end Pev
/-! Pev, sixth part: truth, tests, and the built-in functions by values. -/
namespace Pev
open PySem PySem.Spec PyProof.Rows L2

/-! ### truth -/
def truth (S : Sto) : R → Option Bool
  | .dat .none => some false
  | .dat (.bool b) => some b
  | .dat (.int i) => some (i != 0)
  | .dat (.str y) => if y.length ≤ sizeLine then some ((y.length : Int) != 0) else none
  | .dat (.list ds) => some !ds.isEmpty
  | .dat (.tuple ds) => some !ds.isEmpty
  | .dat (.dict _) => none
  | .obj k => match S[k]? with
    | some (.lst rs) => some !rs.isEmpty
    | _ => none
  | .ro ds => some !ds.isEmpty
  | .err _ _ => none
  | .lam _ _ => none
theorem vrs_empty {K : Tb} {β : List Addr} {α : List (Option Addr)} {H : Hp} {rs : List R} {vs : List V} (h : Vrs K β α H rs vs) : rs.isEmpty = vs.isEmpty := by cases h <;> rfl
theorem dq_empty {K : PySem.W.Frag} {H : Hp} {rs : List PyData} {vs : List V} (h : DqAll K H vs rs) : rs.isEmpty = vs.isEmpty := by cases h <;> rfl
theorem truth_ok {K : Tb} {β : List Addr} {α : List (Option Addr)} {H : Hp} {S : Sto} (Rr : Rl K β α S H) {x : R} {v : V} {b : Bool} (hx : Vr K β α H x v) (e : truth S x = some b) : TruV K v H b := by
  cases x with
  | dat d =>
    cases d with
    | none => cases e; cases hx; rfl
    | bool k => cases e; cases hx; rfl
    | int i => cases e; cases hx; rfl
    | str y =>
      cases hx
      unfold truth at e
      dsimp only at e
      split at e
      · rename_i hz
        cases e
        exact ⟨hz, rfl⟩
      · cases e
    | list ds =>
      cases e
      obtain ⟨a, vs, rfl, h1, h2⟩ := lv_ok Rr hx (rs := ds.map .dat) rfl
      exact .inl ⟨vs, h1, by rw [← vrs_empty h2]; cases ds <;> rfl⟩
    | tuple ds =>
      cases e
      obtain ⟨a, vs, rfl, h1, h2⟩ := tv_ok (ds := ds) hx rfl
      exact .inr (.inl ⟨vs, h1, by rw [dq_empty h2]⟩)
    | dict kvs => cases e
  | obj k =>
    unfold truth at e
    dsimp only at e
    split at e
    · rename_i rs q
      cases e
      obtain ⟨a, vs, e1, e2, e3⟩ := Rr.cell k _ q
      cases hx.2 a e1
      exact .inl ⟨vs, SqL.of e2, by rw [vrs_empty e3]⟩
    · cases e
  | ro ds =>
    cases e
    obtain ⟨a, vs, rfl, h1, h2⟩ := lv_ok Rr hx (rs := ds.map .dat) rfl
    exact .inl ⟨vs, h1, by rw [← vrs_empty h2]; cases ds <;> rfl⟩
  | err _ _ => cases e
  | lam _ _ => cases e

/-! ### tests -/
def ofB (x : R) (S : Sto) : Out Bool := match x with
  | .dat (.bool b) => .ok b S
  | _ => .stuck
def ofT (x : R) (S : Sto) : Out Bool := match truth S x with
  | some b => .ok b S
  | none => .stuck
def mB (m : EM) : TM := fun ρ S => (m ρ S).bind ofB
def mT (m : EM) : TM := fun ρ S => (m ρ S).bind ofT
def mAnd (a b : TM) : TM := fun ρ S => (a ρ S).bind fun x S1 => if x then b ρ S1 else .ok false S1
def mOr (a b : TM) : TM := fun ρ S => (a ρ S).bind fun x S1 => if x then .ok true S1 else b ρ S1
def mNot (a : TM) : TM := fun ρ S => (a ρ S).bind fun x S1 => .ok (!x) S1
section
variable {X : Cx} {T : Tb} {W : WX} {a b e : Expr} {ma mb m : EM} {ta tb : TM} {pos : Pos} {rest : List Expr}
theorem mB_le {σ : L2.St} {H : Hp} {Q : Bool → Hp → Prop} (h : tT T W (mB m) σ H Q) : tE T W m σ H fun x H1 => ∃ k, x = .bl k ∧ Q k H1 := by
  obtain ⟨β, α, S, ρ, hR, hE, h⟩ := h
  refine ⟨β, α, S, ρ, hR, hE, ?_⟩
  have h1 := PostG.bind (rel := Vr T β) (show PostG T β W (fun _ _ x v => x = v) σ ((m ρ S).bind ofB) α H Q from h)
  cases q : m ρ S with
  | stuck => rw [q] at h1; exact h1.elim
  | exc k f S1 => rw [q] at h1; exact h1
  | ok x S1 =>
    rw [q] at h1
    intro α1 H1 v e1 R1 V1
    obtain ⟨α1', S1', x', ex, e1', R1', V1', h2⟩ := h1 α1 H1 v e1 R1 V1
    cases ex
    unfold ofB at h2
    split at h2
    · exact ⟨_, vr_bl V1', h2 α1' H1 _ Ext.refl R1' rfl⟩
    · exact h2.elim
theorem mT_le {σ : L2.St} {H : Hp} {Q : Bool → Hp → Prop} (h : tT T W (mT m) σ H Q) : tE T W m σ H fun x H1 => ∃ k, TruV T.K x H1 k ∧ Q k H1 := by
  obtain ⟨β, α, S, ρ, hR, hE, h⟩ := h
  refine ⟨β, α, S, ρ, hR, hE, ?_⟩
  have h1 := PostG.bind (rel := Vr T β) (show PostG T β W (fun _ _ x v => x = v) σ ((m ρ S).bind ofT) α H Q from h)
  cases q : m ρ S with
  | stuck => rw [q] at h1; exact h1.elim
  | exc k f S1 => rw [q] at h1; exact h1
  | ok x S1 =>
    rw [q] at h1
    intro α1 H1 v e1 R1 V1
    obtain ⟨α1', S1', x', ex, e1', R1', V1', h2⟩ := h1 α1 H1 v e1 R1 V1
    cases ex
    unfold ofT at h2
    split at h2
    · rename_i k hk
      exact ⟨k, truth_ok R1' V1' hk, h2 α1' H1 _ Ext.refl R1' rfl⟩
    · exact h2.elim
theorem tt_tru (hK : X.K = T.K) (h : PE X e (tE T W m)) (he : ∀ whole, isTrue e X.env whole = (do let v ← whole; standAt e.pos; holding [v] (truthy v)) := by intro _; rfl) : PT X e (tT T W (mT m)) :=
  pt_le (pt_truth h he) fun _ _ _ q => by rw [hK]; exact mT_le q
theorem tt_cmpR {op : CmpOp} {r : R2} {g : R → R → Sto → Out R} (ho : OpR X (compareOp op) r) (hs : Snd2 T r g) (ha : PE X a (tE T W ma)) (hb : PE X b (tE T W mb)) (hm : behindInMarks op b = false) :
    PT X (.Compare a [op] [b] pos) (tT T W (mB (eBin g ma mb))) := pt_le (pt_cmpR ho ha hb hm) fun σ H Q q => bin_le hs (mB_le q)
theorem tt_and1 (ha : PT X a (tT T W ta)) : PW X (.BoolOp .And [a] pos) (tT T W ta) := pw_and1 ha
theorem tt_or1 (ha : PT X a (tT T W ta)) : PW X (.BoolOp .Or [a] pos) (tT T W ta) := pw_or1 ha
theorem mAnd_le {σ : L2.St} {H : Hp} {Q : Bool → Hp → Prop} (h : tT T W (mAnd ta tb) σ H Q) : tT T W ta σ H fun c H1 => if c = true then tT T W tb σ H1 Q else Q false H1 := by
  obtain ⟨β, α, S, ρ, hR, hE, h⟩ := h
  refine ⟨β, α, S, ρ, hR, hE, ?_⟩
  have h1 := PostG.bind (rel := fun _ _ (x v : Bool) => x = v) (show PostG T β W (fun _ _ x v => x = v) σ ((ta ρ S).bind fun x S1 => if x then tb ρ S1 else .ok false S1) α H Q from h)
  cases q : ta ρ S with
  | stuck => rw [q] at h1; exact h1.elim
  | exc k f S1 => rw [q] at h1; exact h1
  | ok x S1 =>
    rw [q] at h1
    intro α1 H1 v e1 R1 V1
    obtain ⟨α1', S1', x', ex, e1', R1', V1', h2⟩ := h1 α1 H1 v e1 R1 V1
    cases ex
    subst V1'
    cases x with
    | true =>
      rw [if_pos rfl]
      exact ⟨β, α1', S1, ρ, R1', hE.ext e1', h2⟩
    | false =>
      rw [if_neg Bool.false_ne_true]
      exact h2 α1' H1 _ Ext.refl R1' rfl
theorem mOr_le {σ : L2.St} {H : Hp} {Q : Bool → Hp → Prop} (h : tT T W (mOr ta tb) σ H Q) : tT T W ta σ H fun c H1 => if c = true then Q true H1 else tT T W tb σ H1 Q := by
  obtain ⟨β, α, S, ρ, hR, hE, h⟩ := h
  refine ⟨β, α, S, ρ, hR, hE, ?_⟩
  have h1 := PostG.bind (rel := fun _ _ (x v : Bool) => x = v) (show PostG T β W (fun _ _ x v => x = v) σ ((ta ρ S).bind fun x S1 => if x then .ok true S1 else tb ρ S1) α H Q from h)
  cases q : ta ρ S with
  | stuck => rw [q] at h1; exact h1.elim
  | exc k f S1 => rw [q] at h1; exact h1
  | ok x S1 =>
    rw [q] at h1
    intro α1 H1 v e1 R1 V1
    obtain ⟨α1', S1', x', ex, e1', R1', V1', h2⟩ := h1 α1 H1 v e1 R1 V1
    cases ex
    subst V1'
    cases x with
    | true =>
      rw [if_pos rfl]
      exact h2 α1' H1 _ Ext.refl R1' rfl
    | false =>
      rw [if_neg Bool.false_ne_true]
      exact ⟨β, α1', S1, ρ, R1', hE.ext e1', h2⟩
theorem mNot_le {σ : L2.St} {H : Hp} {Q : Bool → Hp → Prop} (h : tT T W (mNot ta) σ H Q) : tT T W ta σ H fun c H1 => Q (!c) H1 := by
  obtain ⟨β, α, S, ρ, hR, hE, h⟩ := h
  refine ⟨β, α, S, ρ, hR, hE, ?_⟩
  have h1 := PostG.bind (rel := fun _ _ (x v : Bool) => x = v) (show PostG T β W (fun _ _ x v => x = v) σ ((ta ρ S).bind fun x S1 => .ok (!x) S1) α H Q from h)
  cases q : ta ρ S with
  | stuck => rw [q] at h1; exact h1.elim
  | exc k f S1 => rw [q] at h1; exact h1
  | ok x S1 =>
    rw [q] at h1
    intro α1 H1 v e1 R1 V1
    obtain ⟨α1', S1', x', ex, e1', R1', V1', h2⟩ := h1 α1 H1 v e1 R1 V1
    cases ex
    subst V1'
    exact h2 α1' H1 _ Ext.refl R1' rfl
theorem tt_and (ha : PT X a (tT T W ta)) (hb : PW X (.BoolOp .And (b :: rest) pos) (tT T W tb)) : PW X (.BoolOp .And (a :: b :: rest) pos) (tT T W (mAnd ta tb)) :=
  pw_le (pw_and ha hb) fun _ _ _ q => mAnd_le q
theorem tt_or (ha : PT X a (tT T W ta)) (hb : PW X (.BoolOp .Or (b :: rest) pos) (tT T W tb)) : PW X (.BoolOp .Or (a :: b :: rest) pos) (tT T W (mOr ta tb)) :=
  pw_le (pw_or ha hb) fun _ _ _ q => mOr_le q
theorem tt_not (ha : PT X a (tT T W ta)) : PT X (.UnaryOp .Not a pos) (tT T W (mNot ta)) := pt_le (pt_not ha) fun _ _ _ q => mNot_le q

/-! ### or, and, not, if as values -/
def eOr (ma mb : EM) : EM := fun ρ S => (ma ρ S).bind fun x S1 => match truth S1 x with
  | some true => .ok x S1
  | some false => mb ρ S1
  | none => .stuck
def eAnd (ma mb : EM) : EM := fun ρ S => (ma ρ S).bind fun x S1 => match truth S1 x with
  | some true => mb ρ S1
  | some false => .ok x S1
  | none => .stuck
def eNot (ma : EM) : EM := fun ρ S => (ma ρ S).bind fun x S1 => match truth S1 x with
  | some b => ans (.bool (!b)) S1
  | none => .stuck
def eIf (t : TM) (ma mb : EM) : EM := fun ρ S => (t ρ S).bind fun x S1 => if x then ma ρ S1 else mb ρ S1
theorem tr_one {op : PySem.BoolOp} (h : PE X a (tE T W ma)) : PE X (.BoolOp op [a] pos) (tE T W ma) := pe_one h
theorem tr_and (hK : X.K = T.K) (ha : PE X a (tE T W ma)) (hb : PE X (.BoolOp .And (b :: rest) pos) (tE T W mb)) : PE X (.BoolOp .And (a :: b :: rest) pos) (tE T W (eAnd ma mb)) := by
  refine pe_le (pe_andT ha hb) fun σ H Q ⟨β, α, S, ρ, hR, hE, h⟩ => ?_
  unfold tAndT
  rw [hK]
  refine ⟨β, α, S, ρ, hR, hE, ?_⟩
  have h1 := PostG.bind (rel := Vr T β) h
  cases q : ma ρ S with
  | stuck => rw [q] at h1; exact h1.elim
  | exc k f S1 => rw [q] at h1; exact h1
  | ok x S1 =>
    rw [q] at h1
    intro α1 H1 v e1 R1 V1
    obtain ⟨α1', S1', x', ex, e1', R1', V1', h2⟩ := h1 α1 H1 v e1 R1 V1
    cases ex
    split at h2
    · rename_i t
      exact ⟨true, truth_ok R1' V1' t, by rw [if_pos rfl]; exact ⟨β, α1', S1, ρ, R1', hE.ext e1', h2⟩⟩
    · rename_i t
      exact ⟨false, truth_ok R1' V1' t, by rw [if_neg Bool.false_ne_true]; exact old_ok R1' h2 V1'⟩
    · exact h2.elim
theorem tr_not (hK : X.K = T.K) (ha : PE X a (tE T W ma)) : PE X (.UnaryOp .Not a pos) (tE T W (eNot ma)) := by
  refine pe_le (pe_notT ha) fun σ H Q ⟨β, α, S, ρ, hR, hE, h⟩ => ?_
  unfold tNotT
  rw [hK]
  refine ⟨β, α, S, ρ, hR, hE, ?_⟩
  have h1 := PostG.bind (rel := Vr T β) h
  cases q : ma ρ S with
  | stuck => rw [q] at h1; exact h1.elim
  | exc k f S1 => rw [q] at h1; exact h1
  | ok x S1 =>
    rw [q] at h1
    intro α1 H1 v e1 R1 V1
    obtain ⟨α1', S1', x', ex, e1', R1', V1', h2⟩ := h1 α1 H1 v e1 R1 V1
    cases ex
    split at h2
    · rename_i k t
      exact ⟨k, truth_ok R1' V1' t, ans_bl R1' h2⟩
    · exact h2.elim
theorem tr_if (hc : PT X e (tT T W ta)) (ha : PE X a (tE T W ma)) (hb : PE X b (tE T W mb)) : PE X (.IfExp e a b pos) (tE T W (eIf ta ma mb)) := by
  refine pe_le (pe_ifExp hc ha hb) fun σ H Q ⟨β, α, S, ρ, hR, hE, h⟩ => ?_
  refine ⟨β, α, S, ρ, hR, hE, ?_⟩
  have h1 := PostG.bind (rel := fun _ _ (x v : Bool) => x = v) h
  cases q : ta ρ S with
  | stuck => rw [q] at h1; exact h1.elim
  | exc k f S1 => rw [q] at h1; exact h1
  | ok x S1 =>
    rw [q] at h1
    intro α1 H1 v e1 R1 V1
    obtain ⟨α1', S1', x', ex, e1', R1', V1', h2⟩ := h1 α1 H1 v e1 R1 V1
    cases ex
    subst V1'
    cases x with
    | true =>
      rw [if_pos rfl]
      exact ⟨β, α1', S1, ρ, R1', hE.ext e1', h2⟩
    | false =>
      rw [if_neg Bool.false_ne_true]
      exact ⟨β, α1', S1, ρ, R1', hE.ext e1', h2⟩

/-! ### a < b < c -/
def eChain (g g' : R → R → Sto → Out R) (ma mb mc : EM) : EM := fun ρ S => (ma ρ S).bind fun x S1 => (mb ρ S1).bind fun y S2 => (g x y S2).bind fun z S3 => match z with
  | .dat (.bool true) => (mc ρ S3).bind fun u S4 => g' y u S4
  | .dat (.bool false) => ans (.bool false) S3
  | _ => .stuck
end
end Pev
/-! Pev, seventh part: built-in functions. -/
namespace Pev
open PySem PySem.Spec PyProof.Rows L2
theorem vrs1 {K : Tb} {β : List Addr} {α : List (Option Addr)} {H : Hp} {x : R} {vs : List V} (h : Vrs K β α H [x] vs) : ∃ v, vs = [v] ∧ Vr K β α H x v := by
  cases h with
  | cons h t => cases t; exact ⟨_, rfl, h⟩
theorem vrs2 {K : Tb} {β : List Addr} {α : List (Option Addr)} {H : Hp} {x y : R} {vs : List V} (h : Vrs K β α H [x, y] vs) : ∃ v w, vs = [v, w] ∧ Vr K β α H x v ∧ Vr K β α H y w := by
  cases h with
  | cons h t =>
    obtain ⟨w, rfl, k⟩ := vrs1 t
    exact ⟨_, w, rfl, h, k⟩
section
variable {X : Cx} {T : Tb}
/-! ### len, abs, int, bool, str -/
def gLen (xs : List R) (S : Sto) : Out R := match xs with
  | [.dat (.str y)] => if y.length ≤ sizeLine then ans (.int y.length) S else .stuck
  | [.dat (.tuple ds)] => ans (.int ds.length) S
  | [x] => match lv S x with
    | some rs => ans (.int rs.length) S
    | none => .stuck
  | _ => .stuck
theorem snd_len : SndA T (fun xs H Q => ∃ x n, xs = [x] ∧ LenV T.K x H n ∧ Q (.int n) H) gLen := by
  intro β W σ α S H xs vs Q Rr hx h
  unfold gLen at h
  split at h
  · obtain ⟨v, rfl, hv⟩ := vrs1 hx
    cases vr_str hv
    split at h
    · rename_i hz
      exact ⟨_, _, rfl, ⟨hz, rfl⟩, ans_int Rr h⟩
    · exact h.elim
  · rename_i ds
    obtain ⟨v, rfl, hv⟩ := vrs1 hx
    obtain ⟨a, ws, rfl, h1, h2⟩ := tv_ok (ds := ds) hv rfl
    exact ⟨_, ds.length, rfl, .inr ⟨ws, h1, (DqAll.length h2).symm⟩, ans_int Rr h⟩
  · obtain ⟨v, rfl, hv⟩ := vrs1 hx
    split at h
    · rename_i rs e
      obtain ⟨a, ws, rfl, h1, h2⟩ := lv_ok Rr hv e
      exact ⟨_, rs.length, rfl, .inl ⟨ws, h1, h2.length⟩, ans_int Rr h⟩
    · exact h.elim
  · exact h.elim
def gAbs (xs : List R) (S : Sto) : Out R := match xs with
  | [.dat (.int i)] => ans (.int (if i < 0 then -i else i)) S
  | _ => .stuck
theorem snd_abs : SndA T (fun xs H Q => ∃ i, xs = [.int i] ∧ Q (.int (if i < 0 then -i else i)) H) gAbs := by
  intro β W σ α S H xs vs Q Rr hx h
  unfold gAbs at h
  split at h
  · obtain ⟨v, rfl, hv⟩ := vrs1 hx
    cases vr_int hv
    exact ⟨_, rfl, ans_int Rr h⟩
  · exact h.elim
def gInt (xs : List R) (S : Sto) : Out R := match xs with
  | [.dat (.int i)] => ans (.int i) S
  | [.dat (.bool b)] => ans (.int (if b then 1 else 0)) S
  | _ => .stuck
theorem snd_int : SndA T (fun xs H Q => (∃ i, xs = [.int i] ∧ Q (.int i) H) ∨ ∃ k, xs = [.bl k] ∧ Q (.int (if k then 1 else 0)) H) gInt := by
  intro β W σ α S H xs vs Q Rr hx h
  unfold gInt at h
  split at h
  · obtain ⟨v, rfl, hv⟩ := vrs1 hx
    cases vr_int hv
    exact .inl ⟨_, rfl, ans_int Rr h⟩
  · obtain ⟨v, rfl, hv⟩ := vrs1 hx
    cases vr_bl hv
    exact .inr ⟨_, rfl, ans_int Rr h⟩
  · exact h.elim
def gBool (xs : List R) (S : Sto) : Out R := match xs with
  | [.dat (.int i)] => ans (.bool (i != 0)) S
  | [.dat (.bool b)] => ans (.bool b) S
  | _ => .stuck
/-! ### list, tuple -/
def gList (own : Bool) (xs : List R) (S : Sto) : Out R := match xs with
  | [.dat (.tuple ds)] => newL own (ds.map .dat) S
  | [x] => match lv S x with
    | some rs => newL own rs S
    | none => .stuck
  | _ => .stuck
theorem snd_list (own : Bool) : SndA T (fun xs H Q => ∃ p ys, xs = [.ref p] ∧ (SqL T.K H p ys ∨ SqT T.K H p ys) ∧ ∀ l, H l = none → Q (.ref l) (upd H l (.lst ys))) (gList own) := by
  intro β W σ α S H xs vs Q Rr hx h
  unfold gList at h
  split at h
  · rename_i ds
    obtain ⟨v, rfl, hv⟩ := vrs1 hx
    obtain ⟨a, ws, rfl, h1, h2⟩ := tv_ok (ds := ds) hv rfl
    exact ⟨_, ws, rfl, .inr h1, fun l hl => newL_ok Rr hl (DqAll.vrs h2) h⟩
  · obtain ⟨v, rfl, hv⟩ := vrs1 hx
    split at h
    · rename_i rs e
      obtain ⟨a, ws, rfl, h1, h2⟩ := lv_ok Rr hv e
      exact ⟨_, ws, rfl, .inl h1, fun l hl => newL_ok Rr hl h2 h⟩
    · exact h.elim
  · exact h.elim
def gTuple (xs : List R) (S : Sto) : Out R := match xs with
  | [.dat (.tuple ds)] => ans (.tuple ds) S
  | [x] => match lv S x with
    | some rs => newT rs S
    | none => .stuck
  | _ => .stuck
theorem snd_tuple : SndA T (fun xs H Q => ∃ p ys, xs = [.ref p] ∧ ((SqL T.K H p ys ∧ ∀ l, H l = none → Q (.ref l) (upd H l (.tup ys))) ∨ (SqT T.K H p ys ∧ Q (.ref p) H))) gTuple := by
  intro β W σ α S H xs vs Q Rr hx h
  unfold gTuple at h
  split at h
  · rename_i ds
    obtain ⟨v, rfl, hv⟩ := vrs1 hx
    obtain ⟨a, ws, rfl, h1, h2⟩ := tv_ok (ds := ds) hv rfl
    exact ⟨_, ws, rfl, .inr ⟨h1, old_ok Rr h hv⟩⟩
  · obtain ⟨v, rfl, hv⟩ := vrs1 hx
    split at h
    · rename_i rs e
      obtain ⟨a, ws, rfl, h1, h2⟩ := lv_ok Rr hv e
      exact ⟨_, ws, rfl, .inl ⟨h1, fun l hl => newT_ok Rr hl h2 h⟩⟩
    · exact h.elim
  · exact h.elim

/-! ### lists of ints, of truths -/
def ints? : List R → Option (List Int)
  | [] => some []
  | .dat (.int i) :: rs => (ints? rs).map (i :: ·)
  | _ :: _ => none
theorem ints_ok {K : Tb} {β : List Addr} {α : List (Option Addr)} {H : Hp} : ∀ {rs : List R} {vs : List V} {ns : List Int}, Vrs K β α H rs vs → ints? rs = some ns → vs = ns.map V.int
  | [], _, ns, h, e => by cases h; cases e; rfl
  | r :: rs, _, ns, h, e => by
    cases h with
    | cons h t =>
      cases r with
      | dat d =>
        cases d with
        | int i =>
          cases q : ints? rs with
          | none => simp [ints?, q] at e
          | some ms =>
            simp [ints?, q] at e
            subst e
            rw [vr_int h, ints_ok t q]
            rfl
        | _ => cases e
      | _ => cases e
theorem vrs_ints {K : Tb} {β : List Addr} {α : List (Option Addr)} {H : Hp} : ∀ ns : List Int, Vrs K β α H (ns.map fun i => R.dat (.int i)) (ns.map V.int)
  | [] => .nil
  | i :: ns => .cons (.int i) (vrs_ints ns)
def bls? : List R → Option (List Bool)
  | [] => some []
  | .dat (.bool i) :: rs => (bls? rs).map (i :: ·)
  | _ :: _ => none
theorem bls_ok {K : Tb} {β : List Addr} {α : List (Option Addr)} {H : Hp} : ∀ {rs : List R} {vs : List V} {ns : List Bool}, Vrs K β α H rs vs → bls? rs = some ns → vs = ns.map V.bl
  | [], _, ns, h, e => by cases h; cases e; rfl
  | r :: rs, _, ns, h, e => by
    cases h with
    | cons h t =>
      cases r with
      | dat d =>
        cases d with
        | bool i =>
          cases q : bls? rs with
          | none => simp [bls?, q] at e
          | some ms =>
            simp [bls?, q] at e
            subst e
            rw [vr_bl h, bls_ok t q]
            rfl
        | _ => cases e
      | _ => cases e
def gAll (xs : List R) (S : Sto) : Out R := match xs with
  | [x] => match (lv S x).bind bls? with
    | some bs => ans (.bool (bs.all id)) S
    | none => .stuck
  | _ => .stuck
def gAny (xs : List R) (S : Sto) : Out R := match xs with
  | [x] => match (lv S x).bind bls? with
    | some bs => ans (.bool (bs.any id)) S
    | none => .stuck
  | _ => .stuck
theorem snd_all : SndA T (rAll T.K) gAll := by
  intro β W σ α S H xs vs Q Rr hx h
  unfold gAll at h
  split at h
  · obtain ⟨v, rfl, hv⟩ := vrs1 hx
    split at h
    · rename_i bs e
      cases e1 : lv S _ with
      | none => rw [e1] at e; cases e
      | some rs =>
        rw [e1] at e
        obtain ⟨a, ws, rfl, h1, h2⟩ := lv_ok Rr hv e1
        have e3 := bls_ok h2 e
        subst e3
        exact ⟨a, bs, rfl, h1, ans_bl Rr h⟩
    · exact h.elim
  · exact h.elim
theorem snd_any : SndA T (rAny T.K) gAny := by
  intro β W σ α S H xs vs Q Rr hx h
  unfold gAny at h
  split at h
  · obtain ⟨v, rfl, hv⟩ := vrs1 hx
    split at h
    · rename_i bs e
      cases e1 : lv S _ with
      | none => rw [e1] at e; cases e
      | some rs =>
        rw [e1] at e
        obtain ⟨a, ws, rfl, h1, h2⟩ := lv_ok Rr hv e1
        have e3 := bls_ok h2 e
        subst e3
        exact ⟨a, bs, rfl, h1, ans_bl Rr h⟩
    · exact h.elim
  · exact h.elim
def gSum (xs : List R) (S : Sto) : Out R := match xs with
  | [x] => match (lv S x).bind ints? with
    | some ns => ans (.int ns.sum) S
    | none => .stuck
  | _ => .stuck
/-! ### sorted of ints -/
def insI (x : Int) : List Int → List Int
  | [] => [x]
  | y :: ys => if x ≤ y then x :: y :: ys else y :: insI x ys
def sortI : List Int → List Int
  | [] => []
  | x :: xs => insI x (sortI xs)
theorem insI_perm (x : Int) : ∀ ys : List Int, (insI x ys).Perm (x :: ys)
  | [] => List.Perm.refl _
  | y :: ys => by
    unfold insI
    split
    · exact List.Perm.refl _
    · exact ((insI_perm x ys).cons y).trans (List.Perm.swap x y ys)
theorem sortI_perm : ∀ xs : List Int, (sortI xs).Perm xs
  | [] => List.Perm.refl _
  | x :: xs => (insI_perm x _).trans ((sortI_perm xs).cons x)
theorem insI_sorted (x : Int) : ∀ ys : List Int, ys.Pairwise (· ≤ ·) → (insI x ys).Pairwise (· ≤ ·)
  | [], _ => List.pairwise_singleton _ _
  | y :: ys, h => by
    unfold insI
    obtain ⟨h1, h2⟩ := List.pairwise_cons.mp h
    split
    · rename_i hxy
      exact List.pairwise_cons.mpr ⟨fun z hz => by
        rcases List.mem_cons.mp hz with e | e
        · omega
        · have := h1 z e
          omega, h⟩
    · rename_i hxy
      refine List.pairwise_cons.mpr ⟨fun z hz => ?_, insI_sorted x ys h2⟩
      rcases List.mem_cons.mp ((insI_perm x ys).mem_iff.mp hz) with e | e
      · omega
      · exact h1 z e
theorem sortI_sorted : ∀ xs : List Int, (sortI xs).Pairwise (· ≤ ·)
  | [] => List.Pairwise.nil
  | x :: xs => insI_sorted x _ (sortI_sorted xs)
theorem sorted_one {xs ys : List Int} (p : xs.Perm ys) (hx : xs.Pairwise (· ≤ ·)) (hy : ys.Pairwise (· ≤ ·)) : xs = ys :=
  List.Perm.eq_of_pairwise (fun a b _ _ h1 h2 => by omega) hx hy p
def gSortedI (own : Bool) (xs : List R) (S : Sto) : Out R := match xs with
  | [x] => match (lv S x).bind ints? with
    | some ns => newL own ((sortI ns).map fun i => .dat (.int i)) S
    | none => .stuck
  | _ => .stuck
theorem snd_sortedI (own : Bool) : SndA T (rSortedI T.K) (gSortedI own) := by
  intro β W σ α S H xs vs Q Rr hx h
  unfold gSortedI at h
  split at h
  · obtain ⟨v, rfl, hv⟩ := vrs1 hx
    split at h
    · rename_i bs e
      cases e1 : lv S _ with
      | none => rw [e1] at e; cases e
      | some rs =>
        rw [e1] at e
        obtain ⟨a, ws, rfl, h1, h2⟩ := lv_ok Rr hv e1
        have e3 := ints_ok h2 e
        subst e3
        refine ⟨a, bs, rfl, h1, fun ns' p hp hs hn => ?_⟩
        have e4 : ns' = sortI bs := sorted_one (hp.trans (sortI_perm bs).symm) hs (sortI_sorted bs)
        subst e4
        exact newL_ok Rr hn (vrs_ints _) h
    · exact h.elim
  · exact h.elim
/-! ### max, min of two ints -/
def gMin2 (xs : List R) (S : Sto) : Out R := match xs with
  | [.dat (.int i), .dat (.int j)] => ans (.int (if j < i then j else i)) S
  | _ => .stuck
theorem snd_min2 : SndA T (fun xs H Q => ∃ i j, xs = [.int i, .int j] ∧ Q (.int (if j < i then j else i)) H) gMin2 := by
  intro β W σ α S H xs vs Q Rr hx h
  unfold gMin2 at h
  split at h
  · obtain ⟨v, w, rfl, hv, hw⟩ := vrs2 hx
    cases vr_int hv; cases vr_int hw
    exact ⟨_, _, rfl, ans_int Rr h⟩
  · exact h.elim
end

/-! ### isinstance -/
inductive Ty where
  | non | bl | int | str | lst | tup
  deriving DecidableEq
def Ty.nm : Ty → String
  | .non => "NoneType" | .bl => "bool" | .int => "int" | .str => "str" | .lst => "list" | .tup => "tuple"
def tyOf (S : Sto) : R → Option Ty
  | .dat .none => some .non
  | .dat (.bool _) => some .bl
  | .dat (.int _) => some .int
  | .dat (.str _) => some .str
  | .dat (.list _) => some .lst
  | .dat (.tuple _) => some .tup
  | .dat (.dict _) => none
  | .obj k => match S[k]? with
    | some (.lst _) => some .lst
    | _ => none
  | .ro _ => some .lst
  | .err _ _ => none
  | .lam _ _ => none
def Ty.isa : Ty → Ty → Bool
  | .bl, .int => true
  | a, b => decide (a = b)
theorem kit_all : ∀ a b : Ty, kitB a.nm b.nm = some (a.isa b) := by
  intro a b
  cases a <;> cases b <;> decide +kernel
theorem tyx_lst {K : PySem.W.Frag} {H : Hp} {a : Addr} {xs : List V} (h : SqL K H a xs) : TyX K H (.ref a) (.type "list") := by
  rcases h with (h | ⟨o, h⟩) | ⟨o, its, n, h, c, _⟩
  · exact .base (.lst h)
  · exact .base (.frz h)
  · exact .kList h c
theorem tyx_tup {K : PySem.W.Frag} {H : Hp} {a : Addr} {xs : List V} (h : SqT K H a xs) : TyX K H (.ref a) (.type "tuple") := by
  rcases h with (h | ⟨o, h⟩) | ⟨o, its, n, h, c, _⟩
  · exact .base (.tup h)
  · exact .fTuple h
  · exact .kTuple h c
theorem tyOf_ok {K : Tb} {β : List Addr} {α : List (Option Addr)} {H : Hp} {S : Sto} (Rr : Rl K β α S H) {x : R} {v : V} {t : Ty} (hx : Vr K β α H x v) (e : tyOf S x = some t) : TyX K H v (.type t.nm) := by
  cases x with
  | dat d =>
    cases d with
    | none => cases e; cases hx; exact .base .non
    | bool k => cases e; cases hx; exact .base (.bl k)
    | int i => cases e; cases hx; exact .base (.int i)
    | str y => cases e; cases hx; exact .base (.str y)
    | list ds =>
      cases e
      obtain ⟨a, vs, rfl, h1, h2⟩ := lv_ok Rr hx (rs := ds.map .dat) rfl
      exact tyx_lst h1
    | tuple ds =>
      cases e
      obtain ⟨a, vs, rfl, h1, h2⟩ := tv_ok (ds := ds) hx rfl
      exact tyx_tup h1
    | dict kvs => cases e
  | obj k =>
    unfold tyOf at e
    dsimp only at e
    split at e
    · rename_i rs q
      cases e
      obtain ⟨a, vs, e1, e2, e3⟩ := Rr.cell k _ q
      cases hx.2 a e1
      exact tyx_lst (SqL.of e2)
    · cases e
  | ro ds =>
    cases e
    obtain ⟨a, vs, rfl, h1, h2⟩ := lv_ok Rr hx (rs := ds.map .dat) rfl
    exact tyx_lst h1
  | err _ _ => cases e
  | lam _ _ => cases e
def uIs (ts : List Ty) (x : R) (S : Sto) : Out R := match tyOf S x with
  | some t => ans (.bool (ts.any t.isa)) S
  | none => .stuck
section
variable {X : Cx} {T : Tb} {W : WX} {e : Expr} {m : EM} {p q2 pos : Pos}
/-- isinstance(e, t) -/
theorem tr_is1 (t : Ty) {x : Str} (hK : X.K = T.K) (hg : Gl X "isinstance") (hm : X.mg "isinstance" = none) (he : PE X e (tE T W m)) (ht : PE X (.Name x q2) (tC (.ty t.nm)))
    (h1 : starEach [e, .Name x q2] X.env = (false, eval e X.env) :: starEach [.Name x q2] X.env := by rfl) (h2 : starEach [.Name x q2] X.env = (false, eval (.Name x q2) X.env) :: starEach [] X.env := by rfl)
    (hpl : (backTo pos (starEach [.Name x q2] X.env)).any (·.1) = false := by rfl) :
    PE X (.Call (.Name "isinstance" p) [e, .Name x q2] [] pos) (tE T W (eUn (uIs [t]) m)) := by
  refine pe_le (pe_callB call_isi hg hm (by decide +kernel) (pa_cons he (pa_cons ht pa_nil h2) h1) (by decide) (by decide) h1 hpl) fun σ H Q h => ?_
  refine un_le (r := fun v H Q => rIsi X.K [v, .ty t.nm] H Q) (fun β W σ α S H x v Q Rr hx h => ?_) h
  unfold uIs at h
  split at h
  · rename_i t' et
    refine ⟨v, .ty t.nm, .type t'.nm, .type t.nm, t'.isa t, rfl, .ty _, by rw [hK]; exact tyOf_ok Rr hx et, kit_ty (kit_all t' t), ?_⟩
    have z : [t].any t'.isa = t'.isa t := by simp
    rw [z] at h
    exact ans_bl Rr h
  · exact h.elim
theorem kit_any {K : PySem.W.Frag} (t : Ty) : ∀ ts : List Ty, PySem.W.kitAny K (.type t.nm) (ts.map fun u => .type u.nm) = some (ts.any t.isa)
  | [] => rfl
  | u :: ts => by
    refine kitAny_cons (kit_ty (kit_all t u)) (fun hb => ?_) fun hb => ?_
    · rw [List.any_cons, hb, Bool.false_or]
      exact kit_any t ts
    · rw [List.any_cons, hb, Bool.true_or]
theorem cls_all : ∀ ts : List Ty, Paired ClsV (ts.map fun u => V.ty u.nm) (ts.map fun u => Value.type u.nm)
  | [] => .nil
  | t :: ts => .cons (.ty t.nm) (cls_all ts)
/-- isinstance(e, (t, ..)) -/
theorem tr_isT (ts : List Ty) {es : List Expr} {k : Nat} (hK : X.K = T.K) (hg : Gl X "isinstance") (hm : X.mg "isinstance" = none) (he : PE X e (tE T W m)) (ht : PA X es (fun _ H Q => Q (ts.map fun u => V.ty u.nm) H)) (hz : ts.length ≤ sizeLine := by decide)
    (h1 : starEach [e, .Tuple es k q2] X.env = (false, eval e X.env) :: starEach [.Tuple es k q2] X.env := by rfl) (h2 : starEach [.Tuple es k q2] X.env = (false, eval (.Tuple es k q2) X.env) :: starEach [] X.env := by rfl)
    (hpl : (backTo pos (starEach [.Tuple es k q2] X.env)).any (·.1) = false := by rfl) :
    PE X (.Call (.Name "isinstance" p) [e, .Tuple es k q2] [] pos) (tE T W (eUn (uIs ts) m)) := by
  refine pe_le (pe_callB call_isiT hg hm (by decide +kernel) (pa_cons he (pa_cons (pe_tup ht) pa_nil h2) h1) (by decide) (by decide) h1 hpl) fun σ H Q h => ?_
  refine un_le (r := fun v H Q => (ts.map fun u => V.ty u.nm).length ≤ sizeLine ∧ ∀ pp, H pp = none → rIsiT X.K [v, .ref pp] (upd H pp (.tup (ts.map fun u => V.ty u.nm))) Q) (fun β W σ α S H x v Q Rr hx h => ?_) h
  refine ⟨by rw [List.length_map]; exact hz, fun pp hp => ?_⟩
  unfold uIs at h
  split at h
  · rename_i t' et
    have sm : Same H (upd H pp (.tup (ts.map fun u => V.ty u.nm))) := same_new hp
    have Rr' := Rr.same sm
    have hx' := hx.ext (Ext.same (α := α) sm)
    exact ⟨v, pp, _, .type t'.nm, _, ts.any t'.isa, rfl, upd_same, cls_all ts, by rw [hK]; exact tyOf_ok Rr' hx' et, kit_any t' ts, ans_bl Rr' (PostG.on (Ext.same sm) h)⟩
  · exact h.elim
theorem ty_args1 {x : Str} {t : Ty} (ht : PE X (.Name x p) (tC (.ty t.nm))) (hs : starEach [.Name x p] X.env = (false, eval (.Name x p) X.env) :: starEach [] X.env := by rfl) : PA X [.Name x p] (fun _ H Q => Q ([t].map fun u => V.ty u.nm) H) :=
  pa_le (pa_cons ht pa_nil hs) fun _ _ _ h => h
theorem ty_args {x : Str} {t : Ty} {ts : List Ty} {es : List Expr} (ht : PE X (.Name x p) (tC (.ty t.nm))) (hr : PA X es (fun _ H Q => Q (ts.map fun u => V.ty u.nm) H)) (hs : starEach (.Name x p :: es) X.env = (false, eval (.Name x p) X.env) :: starEach es X.env := by rfl) : PA X (.Name x p :: es) (fun _ H Q => Q ((t :: ts).map fun u => V.ty u.nm) H) :=
  pa_le (pa_cons ht hr hs) fun _ _ _ h => h
end
end Pev
/-! Pev, eighth part: targets, what is walked, comprehensions. -/
namespace Pev
open PySem PySem.Spec PyProof.Rows L2

/-! ### data seen alike -/
mutual
def same : PyData → PyData → Bool
  | .none, .none => true
  | .bool a, .bool b => decide (a = b)
  | .int a, .int b => decide (a = b)
  | .str a, .str b => decide (a = b)
  | .list a, .list b => sameAll a b
  | .tuple a, .tuple b => sameAll a b
  | _, _ => false
def sameAll : List PyData → List PyData → Bool
  | [], [] => true
  | x :: xs, y :: ys => same x y && sameAll xs ys
  | _, _ => false
end
mutual
theorem same_eq : ∀ {a b : PyData}, same a b = true → a = b
  | .none, b, h => by cases b <;> first | rfl | (unfold same at h; cases h)
  | .bool _, b, h => by cases b <;> first | (unfold same at h; cases of_decide_eq_true h; rfl) | (unfold same at h; cases h)
  | .int _, b, h => by cases b <;> first | (unfold same at h; cases of_decide_eq_true h; rfl) | (unfold same at h; cases h)
  | .str _, b, h => by cases b <;> first | (unfold same at h; cases of_decide_eq_true h; rfl) | (unfold same at h; cases h)
  | .list _, b, h => by cases b <;> first | (unfold same at h; rw [sameAll_eq h]) | (unfold same at h; cases h)
  | .tuple _, b, h => by cases b <;> first | (unfold same at h; rw [sameAll_eq h]) | (unfold same at h; cases h)
  | .dict _, b, h => by cases b <;> (unfold same at h; cases h)
theorem sameAll_eq : ∀ {a b : List PyData}, sameAll a b = true → a = b
  | [], b, h => by cases b <;> first | rfl | (unfold sameAll at h; cases h)
  | x :: xs, b, h => by
    cases b with
    | nil => unfold sameAll at h; cases h
    | cons y ys =>
      unfold sameAll at h
      rw [Bool.and_eq_true] at h
      rw [same_eq h.1, sameAll_eq h.2]
end
def sameR : R → R → Bool
  | .dat a, .dat b => same a b
  | .obj a, .obj b => decide (a = b)
  | .lam i none, .lam j none => decide (i = j)
  | .lam i (some d), .lam j (some e) => decide (i = j) && same d e
  | _, _ => false
def sameRs : List R → List R → Bool
  | [], [] => true
  | x :: xs, y :: ys => sameR x y && sameRs xs ys
  | _, _ => false
theorem sameR_eq : ∀ {a b : R}, sameR a b = true → a = b
  | .dat _, b, h => by cases b <;> first | (unfold sameR at h; rw [same_eq h]) | (unfold sameR at h; cases h)
  | .obj _, b, h => by cases b <;> first | (unfold sameR at h; rw [of_decide_eq_true h]) | (unfold sameR at h; cases h)
  | .ro _, b, h => by cases b <;> (unfold sameR at h; cases h)
  | .err _ _, b, h => by cases b <;> (unfold sameR at h; cases h)
  | .lam i none, b, h => by
    cases b with
    | lam j g => cases g with
      | none => unfold sameR at h; rw [of_decide_eq_true h]
      | some e => unfold sameR at h; cases h
    | _ => unfold sameR at h; cases h
  | .lam i (some d), b, h => by
    cases b with
    | lam j g => cases g with
      | none => unfold sameR at h; cases h
      | some e =>
        unfold sameR at h
        rw [Bool.and_eq_true] at h
        rw [of_decide_eq_true h.1, same_eq h.2]
    | _ => unfold sameR at h; cases h
theorem sameRs_eq : ∀ {a b : List R}, sameRs a b = true → a = b
  | [], b, h => by cases b <;> first | rfl | (unfold sameRs at h; cases h)
  | x :: xs, b, h => by
    cases b with
    | nil => unfold sameRs at h; cases h
    | cons y ys =>
      unfold sameRs at h
      rw [Bool.and_eq_true] at h
      rw [sameR_eq h.1, sameRs_eq h.2]

/-! ### later states, other forbidden places -/
structure Lt (β : List Addr) (α : List (Option Addr)) (H : Hp) (β' : List Addr) (α' : List (Option Addr)) (H' : Hp) : Prop where
  len : α.length ≤ α'.length
  old : ∀ (k : Nat) (a : Addr), k < α.length → α'[k]? = some (some a) → α[k]? = some (some a)
  hid : Same (hid (blk β α) H) (hid (blk β' α') H')
section
variable {K : Tb} {β β' β'' : List Addr} {α α' α'' : List (Option Addr)} {H H' H'' : Hp} {S : Sto}
theorem Lt.refl : Lt β α H β α H := ⟨Nat.le_refl _, fun _ _ _ h => h, Same.refl _⟩
theorem Lt.of (e : Ext α H α' H') : Lt β α H β α' H' := ⟨e.len, e.old, e.hid⟩
theorem Lt.trans (e : Lt β α H β' α' H') (f : Lt β' α' H' β'' α'' H'') : Lt β α H β'' α'' H'' :=
  ⟨Nat.le_trans e.len f.len, fun k a h q => e.old k a h (f.old k a (Nat.lt_of_lt_of_le h e.len) q), e.hid.trans f.hid⟩
theorem Vr.lt (e : Lt β α H β' α' H') {r : R} {v : V} (h : Vr K β α H r v) : Vr K β' α' H' r v := by
  cases r with
  | dat d => exact Dq.same e.hid h
  | obj k => exact ⟨Nat.lt_of_lt_of_le h.1 e.len, fun a q => h.2 a (e.old k a h.1 q)⟩
  | ro ds =>
    obtain ⟨a, vs, e1, e2, e3⟩ := h
    exact ⟨a, vs, e1, e.hid.seq e2, DqAll.same e.hid e3⟩
  | err c f => exact h.elim
  | lam i f => exact ⟨LamR.same e.hid h.1, K.ctxS _ _ _ _ _ _ e.len e.old e.hid h.2⟩
theorem Er.lt (e : Lt β α H β' α' H') {σ : L2.St} {ρ : Rho} (h : Er K β α H σ ρ) : Er K β' α' H' σ ρ := ⟨h.1, fun i r q => (h.2 i r q).to rfl (fun _ _ _ _ z => z.to e.hid) fun _ _ z => z.lt e⟩
theorem Vrs.lt (e : Lt β α H β' α' H') {rs : List R} {vs : List V} (h : Vrs K β α H rs vs) : Vrs K β' α' H' rs vs := Paired.mapP h fun _ _ q => q.lt e
end

/-! ### targets -/
abbrev GM := R → Rho → Option Rho
abbrev GsM := List PyData → Rho → Option Rho
def gN (i : Nat) : GM := fun r ρ => some (ρ.set i (some r))
def gsNil : GsM := fun ds ρ => match ds with
  | [] => some ρ
  | _ => none
def gsCons (g : GM) (gs : GsM) : GsM := fun ds ρ => match ds with
  | d :: ds => (g (.dat d) ρ).bind (gs ds)
  | [] => none
def gTp (n : Nat) (gs : GsM) : GM := fun r ρ => match tv r with
  | some ds => if ds.length = n then gs ds ρ else none
  | none => none
def tG (T : Tb) (vs : List Nat) (g : GM) : TG := fun v σ H Q => ∃ β α S ρ r ρ', Rl T β α S H ∧ Er T β α H σ ρ ∧ Vr T β α H r v ∧ g r ρ = some ρ' ∧ ∀ σ', Er T β α H σ' ρ' → wipe σ' vs = wipe σ vs → Q σ' H
def tGs (T : Tb) (vs : List Nat) (g : GsM) : TGs := fun us σ H Q => ∃ β α S ρ ds ρ', Rl T β α S H ∧ Er T β α H σ ρ ∧ DqAll T.K (hid (blk β α) H) us ds ∧ g ds ρ = some ρ' ∧ ∀ σ', Er T β α H σ' ρ' → wipe σ' vs = wipe σ vs → Q σ' H
theorem wipe_set_in {σ : L2.St} {i : Nat} {o : Option V} : ∀ {vs : List Nat}, i ∈ vs → wipe (σ.set i o) vs = wipe σ vs
  | v :: vs, h => by
    unfold wipe
    by_cases e : i ∈ vs
    · rw [wipe_set_in e]
    · have e2 : i = v := by
        rcases List.mem_cons.mp h with z | z
        · exact z
        · exact absurd z e
      subst e2
      have q : ∀ {us : List Nat}, i ∉ us → wipe (σ.set i o) us = (wipe σ us).set i o := by
        intro us
        induction us with
        | nil => intro _; rfl
        | cons u us ih =>
          intro hn
          have h1 : i ≠ u := fun z => hn (by rw [z]; exact List.mem_cons_self)
          have h2 : i ∉ us := fun z => hn (List.mem_cons_of_mem _ z)
          unfold wipe
          rw [ih h2, List.set_comm _ _ h1]
      rw [q e, List.set_set]
section
variable {X : Cx} {T : Tb} {vs : List Nat} {pos : Pos} {e : Expr} {es : List Expr} {g : GM} {gs : GsM}
theorem pg_le {t t' : TG} (h : PG X e t) (i : ∀ v σ H Q, t' v σ H Q → t v σ H Q) : PG X e t' := ⟨fun pins s σ H v u Q I r q => h.run pins s σ H v u Q I r (i v σ H Q q)⟩
theorem pgs_le {t t' : TGs} (h : PGs X es t) (i : ∀ v σ H Q, t' v σ H Q → t v σ H Q) : PGs X es t' := ⟨fun pins s σ H v u Q I r q => h.run pins s σ H v u Q I r (i v σ H Q q)⟩
theorem tg_name {x : Str} (i : Nat) (hN : X.N.Nodup) (hi : X.N[i]? = some x) (hx : Loc X.env.scope x) (hv : i ∈ vs := by decide) (hf : X.fn x = true ∨ X.env.scope.names.lookup x = some .local := by first | exact .inl rfl | exact .inr rfl | assumption) : PG X (.Name x pos) (tG T vs (gN i)) := by
  refine pg_le (pg_name hN hi hx hf) fun v σ H Q ⟨β, α, S, ρ, r, ρ', hR, hE, hr, hg, k⟩ => ?_
  cases hg
  exact k _ (hE.set hr) (wipe_set_in hv)
theorem tgs_nil : PGs X [] (tGs T vs gsNil) := by
  refine pgs_le pgs_nil fun us σ H Q ⟨β, α, S, ρ, ds, ρ', hR, hE, hd, hg, k⟩ => ?_
  cases hd with
  | nil => cases hg; exact ⟨rfl, k _ hE rfl⟩
  | cons _ _ => cases hg
theorem tgs_cons (h1 : PG X e (tG T vs g)) (h2 : PGs X es (tGs T vs gs)) (hs : (assignEach (e :: es) X.env).map (·.2) = assign e X.env :: (assignEach es X.env).map (·.2) := by rfl) : PGs X (e :: es) (tGs T vs (gsCons g gs)) := by
  refine pgs_le (pgs_cons h1 h2 hs) fun us σ H Q ⟨β, α, S, ρ, ds, ρ', hR, hE, hd, hg, k⟩ => ?_
  cases hd with
  | nil => cases hg
  | @cons v us d ds hd hds =>
    have hg' : (g (.dat d) ρ).bind (gs ds) = some ρ' := hg
    cases q : g (.dat d) ρ with
    | none => rw [q] at hg'; cases hg'
    | some ρ1 =>
      rw [q] at hg'
      refine ⟨v, us, rfl, β, α, S, ρ, .dat d, ρ1, hR, hE, hd, q, fun σ1 E1 w1 => ?_⟩
      exact ⟨β, α, S, ρ1, ds, ρ', hR, E1, hds, hg', fun σ2 E2 w2 => k σ2 E2 (w2.trans w1)⟩
theorem tg_tup {k : Nat} (n : Nat) (hK : X.K = T.K) (hc : X.calm = true) (h : PGs X es (tGs T vs gs)) (hn : (assignEach es X.env).length = n := by rfl) (hst : (assignEach es X.env).findIdx? (·.1) = none := by rfl) : PG X (.Tuple es k pos) (tG T vs (gTp n gs)) := by
  refine pg_le (pg_tup (n := n) hc h hn hst) fun v σ H Q ⟨β, α, S, ρ, r, ρ', hR, hE, hr, hg, k⟩ => ?_
  unfold gTp at hg
  split at hg
  · rename_i ds q
    split at hg
    · rename_i hl
      obtain ⟨a, us, rfl, h1, h2⟩ := tv_ok hr q
      exact ⟨a, us, rfl, by rw [hK]; exact h1, by rw [DqAll.length h2]; exact hl, β, α, S, ρ, ds, ρ', hR, hE, h2, hg, k⟩
    · cases hg
  · cases hg
end

/-! ### what is walked -/
structure Items where
  rs : List R
  keep : List (Nat × List R)
abbrev IM := Rho → Sto → Out Items
def Stands (S : Sto) (l : List (Nat × List R)) : Prop := ∀ p ∈ l, S[p.1]? = some (.lst p.2)
def stands (S : Sto) : List (Nat × List R) → Bool
  | [] => true
  | (k, rs) :: l => (match S[k]? with
    | some (.lst qs) => sameRs qs rs
    | _ => false) && stands S l
theorem stands_ok {S : Sto} : ∀ {l : List (Nat × List R)}, stands S l = true → Stands S l
  | [], _ => fun p hp => by cases hp
  | (k, rs) :: l, h => by
    unfold stands at h
    rw [Bool.and_eq_true] at h
    intro p hp
    rcases List.mem_cons.mp hp with e | e
    · subst e
      have h1 := h.1
      split at h1
      · rename_i qs q
        rw [sameRs_eq h1] at q
        exact q
      · cases h1
    · exact stands_ok h.2 p e
/-- J walks these, in whatever later state in which what it reads stands -/
def WalkR (K : Tb) (β : List Addr) (α : List (Option Addr)) (H : Hp) (it : Items) (J : It) : Prop :=
  ∃ (G : Hp → Prop) (Y : Nat → Hp → V → Hp → Prop), Walk J it.rs.length G Y ∧ ∀ β' α' S' H', Lt β α H β' α' H' → Rl K β' α' S' H' → Stands S' it.keep →
    G H' ∧ ∀ i x H'', Y i H' x H'' → Same H' H'' ∧ ∀ r, it.rs[i]? = some r → Vr K β' α' H'' r x
def tI (T : Tb) (W : WX) (im : IM) : TI := fun σ H Rk => ∃ β α S ρ, Rl T β α S H ∧ Er T β α H σ ρ ∧ PostG T β W (WalkR T β) σ (im ρ S) α H Rk
/-- what may be walked of a value -/
def itOf (x : R) (S : Sto) : Out Items := match x with
  | .dat (.list ds) => .ok ⟨ds.map .dat, []⟩ S
  | .dat (.tuple ds) => .ok ⟨ds.map .dat, []⟩ S
  | .ro ds => .ok ⟨ds.map .dat, []⟩ S
  | .dat (.str z) => .ok ⟨z.cps.toList.map fun c => .dat (.str ⟨#[c]⟩), []⟩ S
  | .obj k => match S[k]? with
    | some (.lst rs) => .ok ⟨rs, [(k, rs)]⟩ S
    | _ => .stuck
  | _ => .stuck
def iOf (m : EM) : IM := fun ρ S => (m ρ S).bind itOf
section
variable {K : Tb} {β : List Addr} {α : List (Option Addr)} {H : Hp} {S : Sto}
theorem walk_lst {n : Nat} {a : Addr} : Walk (Itl K a) n (fun H => ∃ vs, SqL K H a vs ∧ vs.length = n) (fun i H x H' => H' = H ∧ ∀ vs, SqL K H a vs → vs[i]? = some x) :=
  ⟨fun i H hi ⟨vs, h, e⟩ => ⟨vs, vs[i]'(by omega), h, by simp [show i < vs.length by omega]⟩, fun H ⟨vs, h, e⟩ => ⟨vs, h, Nat.le_of_eq e⟩, fun _ _ _ _ _ _ y => y⟩
theorem walkR_dat {a : Addr} {vs : List V} {ds : List PyData} (h : SqL K (hid (blk β α) H) a vs) (hs : DqAll K (hid (blk β α) H) vs ds) : WalkR K β α H ⟨ds.map .dat, []⟩ (Itl K a) := by
  refine ⟨_, _, walk_list (xs := vs) |> (by rw [List.length_map, ← DqAll.length hs]; exact ·), fun β' α' S' H' l _ _ => ⟨hid_le.seq (l.hid.seq h), fun i x H'' y => ?_⟩⟩
  obtain ⟨e, y⟩ := y
  subst e
  refine ⟨Same.refl _, fun r hr => ?_⟩
  obtain ⟨v, e1, e2⟩ := Vrs.get (DqAll.vrs hs) hr
  rw [y] at e1
  cases e1
  exact e2.lt l
theorem walkR_tup {a : Addr} {vs : List V} {ds : List PyData} (h : SqT K (hid (blk β α) H) a vs) (hs : DqAll K (hid (blk β α) H) vs ds) : WalkR K β α H ⟨ds.map .dat, []⟩ (Itt K a) := by
  refine ⟨_, _, walk_tup (xs := vs) |> (by rw [List.length_map, ← DqAll.length hs]; exact ·), fun β' α' S' H' l _ _ => ⟨sqT_same hid_le (sqT_same l.hid h), fun i x H'' y => ?_⟩⟩
  obtain ⟨e, y⟩ := y
  subst e
  refine ⟨Same.refl _, fun r hr => ?_⟩
  obtain ⟨v, e1, e2⟩ := Vrs.get (DqAll.vrs hs) hr
  rw [y] at e1
  cases e1
  exact e2.lt l
theorem walkR_obj (Rr : Rl K β α S H) {k : Nat} {rs : List R} {a : Addr} (q : S[k]? = some (.lst rs)) (ha : α[k]? = some (some a)) : WalkR K β α H ⟨rs, [(k, rs)]⟩ (Itl K a) := by
  refine ⟨_, _, walk_lst, fun β' α' S' H' l R' st => ?_⟩
  have st' := st (k, rs) (by simp)
  obtain ⟨b, vs, e1, e2, e3⟩ := R'.cell k rs st'
  have hk : k < α.length := (List.getElem?_eq_some_iff.mp ha).1
  have e4 := l.old k b hk e1
  rw [ha] at e4
  cases e4
  refine ⟨⟨vs, SqL.of e2, e3.length.symm⟩, fun i x H'' y => ?_⟩
  obtain ⟨e, y⟩ := y
  subst e
  refine ⟨Same.refl _, fun r hr => ?_⟩
  obtain ⟨v, z1, z2⟩ := e3.get hr
  rw [y vs (SqL.of e2)] at z1
  cases z1
  exact z2
theorem walkR_str {z : Str} : WalkR K β α H ⟨z.cps.toList.map fun c => .dat (.str ⟨#[c]⟩), []⟩ (Its z) := by
  refine ⟨_, _, walk_str (z := z) |> (by rw [List.length_map, Array.length_toList]; exact ·), fun β' α' S' H' l _ _ => ⟨trivial, fun i x H'' y => ?_⟩⟩
  obtain ⟨e, c, hc, hx⟩ := y
  subst e hx
  refine ⟨Same.refl _, fun r hr => ?_⟩
  rw [List.getElem?_map, Array.getElem?_toList, hc] at hr
  cases hr
  exact .str _
end
section
variable {X : Cx} {T : Tb} {W : WX} {tg e : Expr} {m : EM} {im : IM}
theorem pi_le {t t' : TI} (h : PI X tg e t) (i : ∀ σ H Q, t' σ H Q → t σ H Q) : PI X tg e t' := ⟨fun pins s σ H Q I q => h.run pins s σ H Q I (i σ H Q q)⟩
theorem pi_or {t t' : TI} (h : PI X tg e t) (h' : PI X tg e t') : PI X tg e (fun σ H Q => t σ H Q ∨ t' σ H Q) := ⟨fun pins s σ H Q I q => q.elim (h.run pins s σ H Q I) (h'.run pins s σ H Q I)⟩
/-- a list, a tuple, a text -/
theorem ti_of (hK : X.K = T.K) (h : PE X e (tE T W m)) : PI X tg e (tI T W (iOf m)) := by
  refine pi_le (pi_or (pi_list h) (pi_or (pi_tup h) (pi_str h))) fun σ H Rk ⟨β, α, S, ρ, hR, hE, hp⟩ => ?_
  have h1 := PostG.bind (rel := Vr T β) (show PostG T β W (WalkR T β) σ ((m ρ S).bind itOf) α H Rk from hp)
  rw [hK]
  cases q : m ρ S with
  | stuck => rw [q] at h1; exact h1.elim
  | exc k f S1 => rw [q] at h1; exact .inl ⟨β, α, S, ρ, hR, hE, by rw [q]; exact h1⟩
  | ok x S1 =>
    rw [q] at h1
    have go : ∀ {P : V → Hp → Prop}, (∀ α1 H1 v, Rl T β α1 S1 H1 → Vr T β α1 H1 x v → PostG T β W (WalkR T β) σ (itOf x S1) α1 H1 Rk → P v H1) → tE T W m σ H P := by
      intro P k
      refine ⟨β, α, S, ρ, hR, hE, ?_⟩
      rw [q]
      intro α1 H1 v e1 R1 V1
      obtain ⟨α1', S1', x', ex, e1', R1', V1', h2⟩ := h1 α1 H1 v e1 R1 V1
      cases ex
      exact k α1' H1 v R1' V1' h2
    have bad : ∀ {B : Prop}, itOf x S1 = .stuck → (PostG T β W (WalkR T β) σ (itOf x S1) α H Rk) → B := fun e z => by rw [e] at z; exact z.elim
    have hp' : PostG T β W (WalkR T β) σ (itOf x S1) α H Rk := by
      have z : PostG T β W (WalkR T β) σ ((m ρ S).bind itOf) α H Rk := hp
      rw [q] at z
      exact z
    cases x with
    | err _ _ => exact hp'.elim
    | lam _ _ => exact hp'.elim
    | ro ds =>
      refine .inl (go fun α1 H1 v R1 V1 h2 => ?_)
      obtain ⟨a, vs, rfl, z1, z2⟩ := V1
      exact ⟨a, rfl, ⟨vs, hid_le.seq z1⟩, h2 α1 H1 _ Ext.refl R1 (walkR_dat z1 z2)⟩
    | obj k =>
      refine .inl (go fun α1 H1 v R1 V1 h2 => ?_)
      unfold itOf at h2
      dsimp only at h2
      split at h2
      · rename_i rs qk
        obtain ⟨a, vs, z1, z2, z3⟩ := R1.cell k rs qk
        cases V1.2 a z1
        exact ⟨a, rfl, ⟨vs, SqL.of z2⟩, h2 α1 H1 _ Ext.refl R1 (walkR_obj R1 qk z1)⟩
      · exact h2.elim
    | dat d =>
      cases d with
      | list ds =>
        refine .inl (go fun α1 H1 v R1 V1 h2 => ?_)
        cases V1 with
        | @lst a vs _ z1 z2 => exact ⟨a, rfl, ⟨vs, SqL.of (hid_some.mp z1).2.1⟩, h2 α1 H1 _ Ext.refl R1 (walkR_dat (SqL.of z1) z2)⟩
      | tuple ds =>
        refine .inr (.inl (go fun α1 H1 v R1 V1 h2 => ?_))
        cases V1 with
        | @tup a vs _ z1 z2 => exact ⟨a, rfl, ⟨vs, sqT_same hid_le z1⟩, h2 α1 H1 _ Ext.refl R1 (walkR_tup z1 z2)⟩
      | str z =>
        refine .inr (.inr (go fun α1 H1 v R1 V1 h2 => ?_))
        cases vr_str V1
        exact ⟨z, rfl, h2 α1 H1 _ Ext.refl R1 walkR_str⟩
      | none => exact hp'.elim
      | bool b => exact hp'.elim
      | int b => exact hp'.elim
      | dict b => exact hp'.elim
/-! ### ranges -/
def rangeR (lo : Int) (n : Nat) : List R := (List.range n).map fun i => .dat (.int (lo + (i : Nat)))
def inR (i : Int) : Bool := decide (i.natAbs < 4611686018427387904)
theorem inR_ok {i : Int} (h : inR i = true) : -(2 ^ 62) ≤ i ∧ i < 2 ^ 62 := by
  unfold inR at h
  have h1 := of_decide_eq_true h
  exact ⟨by omega, by omega⟩
def gRange1 (xs : List R) (S : Sto) : Out Items := match xs with
  | [.dat (.int j)] => if inR j then .ok ⟨rangeR 0 j.toNat, []⟩ S else .stuck
  | _ => .stuck
def gRange2 (xs : List R) (S : Sto) : Out Items := match xs with
  | [.dat (.int i), .dat (.int j)] => if inR i && inR j then .ok ⟨rangeR i (j - i).toNat, []⟩ S else .stuck
  | _ => .stuck
def iArgs (g : List R → Sto → Out Items) (ms : EMs) : IM := fun ρ S => (ms ρ S).bind g
theorem walkR_range {K : Tb} {β : List Addr} {α : List (Option Addr)} {H : Hp} {lo : Int} {n : Nat} : WalkR K β α H ⟨rangeR lo n, []⟩ (Itr lo n) := by
  refine ⟨_, _, walk_range (lo := lo) (n := n) |> (by unfold rangeR; rw [List.length_map, List.length_range]; exact ·), fun β' α' S' H' l _ _ => ⟨trivial, fun i x H'' y => ?_⟩⟩
  obtain ⟨e, y⟩ := y
  subst e
  refine ⟨Same.refl _, fun r hr => ?_⟩
  unfold rangeR at hr
  rw [List.getElem?_map] at hr
  have hi : i < n := by
    cases z : (List.range n)[i]? with
    | none => rw [z] at hr; cases hr
    | some j => rw [← List.length_range (n := n)]; exact (List.getElem?_eq_some_iff.mp z).1
  rw [List.getElem?_range hi] at hr
  cases hr
  have y' : x = .int (lo + i) := y
  rw [y']
  exact .int _
theorem iargs_le {ms : EMs} {g : List R → Sto → Out Items} {t : List V → Hp → (It → Hp → Prop) → Prop} (hs : ∀ (β : List Addr) (σ : L2.St) (α : List (Option Addr)) (S : Sto) (H : Hp) (xs : List R) (vs : List V) (Rk : It → Hp → Prop), Rl T β α S H → Vrs T β α H xs vs →
    PostG T β W (WalkR T β) σ (g xs S) α H Rk → t vs H Rk) {σ : L2.St} {H : Hp} {Rk : It → Hp → Prop} (h : tI T W (iArgs g ms) σ H Rk) : tA T W ms σ H fun vs H1 => t vs H1 Rk := by
  obtain ⟨β, α, S, ρ, hR, hE, h⟩ := h
  refine ⟨β, α, S, ρ, hR, hE, ?_⟩
  have h1 := PostG.bind (rel := Vrs T β) h
  cases q : ms ρ S with
  | stuck => rw [q] at h1; exact h1.elim
  | exc k f S1 => rw [q] at h1; exact h1
  | ok x S1 =>
    rw [q] at h1
    intro α1 H1 v e1 R1 V1
    obtain ⟨α1', S1', x', ex, e1', R1', V1', h2⟩ := h1 α1 H1 v e1 R1 V1
    cases ex
    exact hs β σ α1' S1 H1 x v Rk R1' V1' h2
theorem ti_range1 {a : Expr} {ms : EMs} {p pos : Pos} (hg : Gl X "range") (hm : X.mg "range" = none) (ha : PA X [a] (tA T W ms)) (hs : starEach [a] X.env = [(false, eval a X.env)] := by rfl) : PI X tg (.Call (.Name "range" p) [a] [] pos) (tI T W (iArgs gRange1 ms)) := by
  refine pi_le (pi_range1 hg hm ha hs) fun σ H Rk h => iargs_le (t := fun vs H1 R => ∃ j : Int, vs = [.int j] ∧ -(2 ^ 62) ≤ j ∧ j < 2 ^ 62 ∧ R (Itr 0 j.toNat) H1) ?_ h
  intro β σ α S H xs vs Rk Rr hx h
  unfold gRange1 at h
  split at h
  · obtain ⟨v, rfl, hv⟩ := vrs1 hx
    cases vr_int hv
    split at h
    · rename_i q
      obtain ⟨q1, q2⟩ := inR_ok q
      exact ⟨_, rfl, q1, q2, h α H _ Ext.refl Rr walkR_range⟩
    · exact h.elim
  · exact h.elim
theorem ti_range2 {a b : Expr} {ms : EMs} {p pos : Pos} (hg : Gl X "range") (hm : X.mg "range" = none) (ha : PA X [a, b] (tA T W ms)) (hs : starEach [a, b] X.env = [(false, eval a X.env), (false, eval b X.env)] := by rfl) (hs2 : starEach [b] X.env = [(false, eval b X.env)] := by rfl) :
    PI X tg (.Call (.Name "range" p) [a, b] [] pos) (tI T W (iArgs gRange2 ms)) := by
  refine pi_le (pi_range2 hg hm ha hs hs2) fun σ H Rk h => iargs_le (t := fun vs H1 R => ∃ i j : Int, vs = [.int i, .int j] ∧ (-(2 ^ 62) ≤ i ∧ i < 2 ^ 62 ∧ -(2 ^ 62) ≤ j ∧ j < 2 ^ 62) ∧ R (Itr i (j - i).toNat) H1) ?_ h
  intro β σ α S H xs vs Rk Rr hx h
  unfold gRange2 at h
  split at h
  · obtain ⟨v, w, rfl, hv, hw⟩ := vrs2 hx
    cases vr_int hv; cases vr_int hw
    split at h
    · rename_i q
      rw [Bool.and_eq_true] at q
      obtain ⟨q1, q2⟩ := inR_ok q.1
      obtain ⟨q3, q4⟩ := inR_ok q.2
      exact ⟨_, _, rfl, ⟨q1, q2, q3, q4⟩, h α H _ Ext.refl Rr walkR_range⟩
    · exact h.elim
  · exact h.elim
end

/-! ### comprehensions -/
def wipeR (ρ : Rho) : List Nat → Rho
  | [] => ρ
  | v :: vs => (wipeR ρ vs).set v none
theorem er_wipe {K : Tb} {β : List Addr} {α : List (Option Addr)} {H : Hp} {σ : L2.St} {ρ : Rho} (h : Er K β α H σ ρ) : ∀ vs, Er K β α H (wipe σ vs) (wipeR ρ vs)
  | [] => h
  | v :: vs => Er.unset (er_wipe h vs) v
/-- an exception is not let -/
def noX {a : Type} (o : Out a) : Out a := match o with
  | .exc _ _ _ => .stuck
  | o => o
def lcLoop (keep : List (Nat × List R)) (g : GM) (t : TM) (elt : EM) (ρ : Rho) : List R → Sto → Out (List R)
  | [], S => if stands S keep then .ok [] S else .stuck
  | r :: rs, S => if stands S keep then (match g r ρ with
    | none => .stuck
    | some ρ1 => (noX (t ρ1 S)).bind fun b S2 => match b with
      | true => (noX (elt ρ1 S2)).bind fun y S3 => (lcLoop keep g t elt ρ rs S3).bind fun zs S4 => .ok (y :: zs) S4
      | false => lcLoop keep g t elt ρ rs S2) else .stuck
def eLc (own : Bool) (im : IM) (g : GM) (t : TM) (elt : EM) (vs : List Nat) : EM := fun ρ S => (im ρ S).bind fun it S1 =>
  if it.rs.length ≤ sizeLine then (lcLoop it.keep g t elt (wipeR ρ vs) it.rs S1).bind fun rs S2 => newL own rs S2 else .stuck
def tYes' : TM := fun _ S => .ok true S
section
variable {X : Cx} {T : Tb} {W : WX}
theorem pts_le {es : List Expr} {t t' : TT} (h : PTs X es t) (i : ∀ σ H Q, t' σ H Q → t σ H Q) : PTs X es t' := ⟨fun pins s σ H Q I q => h.run pins s σ H Q I (i σ H Q q)⟩
theorem tts_nil : PTs X [] (tT T W tYes') := pts_le pts_nil fun _ H Q ⟨_, _, _, _, hR, _, h⟩ => h _ H _ Ext.refl hR rfl
theorem tts_one {c : Expr} {t : TM} (h : PT X c (tT T W t)) : PTs X [c] (tT T W t) := pts_one h
/-- the list that is being made, forbidden meanwhile -/
theorem Rl.forbid {K : Tb} {β : List Addr} {α : List (Option Addr)} {H : Hp} {S : Sto} (Rr : Rl K β α S H) {D : Addr} (hD : H D = none) (o : HO) (ho : Bd (some o) := by trivial) :
    Rl K (D :: β) α S (upd H D o) ∧ Lt β α H (D :: β) α (upd H D o) := by
  have nD : D ∉ live α := fun z => Rr.at' D z hD
  have lt : Lt β α H (D :: β) α (upd H D o) := ⟨Nat.le_refl _, fun _ _ _ h => h, fun a u h => by
    obtain ⟨n, q, nt⟩ := hid_some.mp h
    have ne : a ≠ D := fun z => by rw [z, hD] at q; cases q
    refine hid_some.mpr ⟨fun z => ?_, by rw [upd_ne ne]; exact q, nt⟩
    rcases List.mem_append.mp z with z | z
    · rcases List.mem_cons.mp z with z | z
      · exact ne z
      · exact n (List.mem_append_left _ z)
    · exact n (List.mem_append_right _ z)⟩
  refine ⟨{ len := Rr.len, inj := Rr.inj, off := fun a h z => ?_, bt := fun b h => ?_, mt := fun b h => ?_, cell := fun k rs q => ?_, tab := Rr.tab.ext (same_new hD) }, lt⟩
  · rcases List.mem_cons.mp z with z | z
    · rw [z] at h; exact nD h
    · exact Rr.off a h z
  · rcases List.mem_cons.mp h with z | z
    · rw [z, upd_same]; exact ho
    · by_cases y : b = D
      · rw [y, upd_same]; exact ho
      · rw [upd_ne y]; exact Rr.bt b z
  · rw [upd_ne (fun y => nD (by rw [← y]; exact h))]; exact Rr.mt b h
  · obtain ⟨a, vs, e1, e2, e3⟩ := Rr.cell k rs q
    exact ⟨a, vs, e1, by rw [upd_ne (fun z => by rw [z, hD] at e2; cases e2)]; exact e2, Vrs.lt lt e3⟩
/-- the forbidden list grows -/
theorem Rl.grow {K : Tb} {β : List Addr} {α : List (Option Addr)} {H : Hp} {S : Sto} {D : Addr} (Rr : Rl K (D :: β) α S H) {vs0 : List V} (hd0 : H D = some (.lst vs0)) (o : HO) (ho : Bd (some o) := by trivial) : Rl K (D :: β) α S (upd H D o) ∧ Lt (D :: β) α H (D :: β) α (upd H D o) := by
  have nD : D ∉ live α := fun z => Rr.off D z List.mem_cons_self
  have lt : Lt (D :: β) α H (D :: β) α (upd H D o) := ⟨Nat.le_refl _, fun _ _ _ h => h, fun a u h => by
    obtain ⟨n, q, nt⟩ := hid_some.mp h
    have ne : a ≠ D := fun z => n (by rw [z]; exact List.mem_append_left _ List.mem_cons_self)
    exact hid_some.mpr ⟨n, by rw [upd_ne ne]; exact q, nt⟩⟩
  refine ⟨{ len := Rr.len, inj := Rr.inj, off := Rr.off, bt := fun b h => ?_, mt := fun b h => ?_, cell := fun k rs q => ?_, tab := tabs_upd Rr.tab hd0 }, lt⟩
  · by_cases y : b = D
    · rw [y, upd_same]; exact ho
    · rw [upd_ne y]; exact Rr.bt b h
  · rw [upd_ne (fun y => nD (by rw [← y]; exact h))]; exact Rr.mt b h
  · obtain ⟨a, vs, e1, e2, e3⟩ := Rr.cell k rs q
    exact ⟨a, vs, e1, by rw [upd_ne (fun z => nD (by rw [← z]; exact mem_live.mpr ⟨k, e1⟩))]; exact e2, Vrs.lt lt e3⟩
/-- .. and is let again -/
theorem Rl.allow {K : Tb} {β : List Addr} {α : List (Option Addr)} {H : Hp} {S : Sto} {D : Addr} (Rr : Rl K (D :: β) α S H) : Rl K β α S H ∧ Lt (D :: β) α H β α H := by
  have lt : Lt (D :: β) α H β α H := ⟨Nat.le_refl _, fun _ _ _ h => h, fun a u h => by
    obtain ⟨n, q, nt⟩ := hid_some.mp h
    refine hid_some.mpr ⟨fun z => n ?_, q, nt⟩
    rcases List.mem_append.mp z with z | z
    · exact List.mem_append_left _ (List.mem_cons_of_mem _ z)
    · exact List.mem_append_right _ z⟩
  refine ⟨{ len := Rr.len, inj := Rr.inj, off := fun a h z => Rr.off a h (List.mem_cons_of_mem _ z), bt := fun b h => Rr.bt b (List.mem_cons_of_mem _ h), mt := Rr.mt, cell := fun k rs q => ?_, tab := Rr.tab }, lt⟩
  obtain ⟨a, vs, e1, e2, e3⟩ := Rr.cell k rs q
  exact ⟨a, vs, e1, e2, Vrs.lt lt e3⟩

/-- the list is made: it is a cell now -/
theorem Rl.adopt {K : Tb} {β : List Addr} {α : List (Option Addr)} {H : Hp} {S : Sto} {D : Addr} {rs : List R} {vs : List V} (Rr : Rl K (D :: β) α S H) (nb : D ∉ β) (hD : H D = some (.lst vs)) (hv : Vrs K (D :: β) α H rs vs) :
    Rl K β (α ++ [some D]) (S ++ [.lst rs]) H := by
  have nD : D ∉ live α := fun z => Rr.off D z List.mem_cons_self
  have hl : ∀ {k : Nat} {a : Addr}, (α ++ [some D])[k]? = some (some a) → (k < α.length ∧ α[k]? = some (some a)) ∨ (k = α.length ∧ a = D) := by
    intro k a e
    by_cases z : k < α.length
    · rw [List.getElem?_append_left z] at e
      exact .inl ⟨z, e⟩
    · rw [List.getElem?_append_right (by omega)] at e
      by_cases y : k - α.length = 0
      · rw [y] at e
        cases e
        exact .inr ⟨by omega, rfl⟩
      · rw [List.getElem?_eq_none (by rw [List.length_singleton]; omega)] at e
        cases e
  have mem : ∀ {a : Addr}, a ∈ live (α ++ [some D]) → a ∈ live α ∨ a = D := fun h => by
    obtain ⟨k, hk⟩ := mem_live.mp h
    rcases hl hk with ⟨_, q⟩ | ⟨_, q⟩
    · exact .inl (mem_live.mpr ⟨k, q⟩)
    · exact .inr q
  have lt : Lt (D :: β) α H β (α ++ [some D]) H := ⟨by rw [List.length_append]; omega, fun k a h e => by
    rcases hl e with ⟨_, q⟩ | ⟨q, _⟩
    · exact q
    · omega, fun a u h => by
    obtain ⟨n, q, nt⟩ := hid_some.mp h
    refine hid_some.mpr ⟨fun z => n ?_, q, nt⟩
    rcases List.mem_append.mp z with z | z
    · exact List.mem_append_left _ (List.mem_cons_of_mem _ z)
    · rcases mem z with z | z
      · exact List.mem_append_right _ z
      · rw [z]; exact List.mem_append_left _ List.mem_cons_self⟩
  refine { len := by rw [List.length_append, List.length_append, Rr.len]; rfl, inj := ?_, off := ?_, bt := fun b h => Rr.bt b (List.mem_cons_of_mem _ h), mt := ?_, cell := ?_, tab := Rr.tab }
  · intro k j a h1 h2
    rcases hl h1 with ⟨_, q1⟩ | ⟨q1, z1⟩
    · rcases hl h2 with ⟨_, q2⟩ | ⟨q2, z2⟩
      · exact Rr.inj k j a q1 q2
      · exact absurd (mem_live.mpr ⟨k, q1⟩) (by rw [z2]; exact nD)
    · rcases hl h2 with ⟨_, q2⟩ | ⟨q2, z2⟩
      · exact absurd (mem_live.mpr ⟨j, q2⟩) (by rw [z1]; exact nD)
      · omega
  · intro a h
    rcases mem h with q | q
    · exact fun z => Rr.off a q (List.mem_cons_of_mem _ z)
    · rw [q]; exact nb
  · intro a h
    rcases mem h with q | q
    · exact Rr.mt a q
    · rw [q, hD]; exact trivial
  · intro k rs' h
    by_cases z : k < S.length
    · rw [List.getElem?_append_left z] at h
      obtain ⟨a, ws, e1, e2, e3⟩ := Rr.cell k rs' h
      exact ⟨a, ws, by rw [List.getElem?_append_left (by rw [Rr.len]; exact z)]; exact e1, e2, Vrs.lt lt e3⟩
    · rw [List.getElem?_append_right (by omega)] at h
      by_cases y : k - S.length = 0
      · rw [y] at h
        cases h
        have ek : k = α.length := by rw [Rr.len]; omega
        refine ⟨D, vs, ?_, hD, Vrs.lt lt hv⟩
        rw [ek, List.getElem?_append_right (Nat.le_refl _), Nat.sub_self]
        rfl
      · rw [List.getElem?_eq_none (by rw [List.length_singleton]; omega)] at h
        cases h
/-- the end of a comprehension -/
theorem made_ok {β : List Addr} {σ : L2.St} {α1 α : List (Option Addr)} {H1 H : Hp} {S : Sto} {D : Addr} {rs : List R} {vs : List V} {own : Bool} {Q : VK} (ext : Ext α1 H1 α H) (h1 : H1 D = none) (nb : D ∉ β) (Rr : Rl T (D :: β) α S H) (hD : H D = some (.lst vs)) (hv : Vrs T (D :: β) α H rs vs)
    (h : PostG T β W (Vr T β) σ (newL own rs S) α1 H1 Q) : Q (.ref D) H := by
  have nD : D ∉ live α := fun z => Rr.off D z List.mem_cons_self
  cases own with
  | true =>
    have R2 := Rr.adopt nb hD hv
    have x2 : Ext α1 H1 (α ++ [some D]) H := {
      len := by rw [List.length_append]; exact Nat.le_trans ext.len (Nat.le_add_right _ _)
      old := fun k a hk e => by
        rw [List.getElem?_append_left (Nat.lt_of_lt_of_le hk ext.len)] at e
        exact ext.old k a hk e
      new := fun k a hk e => by
        by_cases z : k < α.length
        · rw [List.getElem?_append_left z] at e
          exact ext.new k a hk e
        · rw [List.getElem?_append_right (by omega)] at e
          by_cases y : k - α.length = 0
          · rw [y] at e
            cases e
            exact h1
          · rw [List.getElem?_eq_none (by rw [List.length_singleton]; omega)] at e
            cases e
      keep := ext.keep
      stay := ext.stay }
    refine h (α ++ [some D]) H _ x2 R2 ⟨by rw [List.length_append, List.length_singleton, ← Rr.len]; omega, fun a e => ?_⟩
    rw [← Rr.len, List.getElem?_append_right (Nat.le_refl _), Nat.sub_self] at e
    cases e
    rfl
  | false =>
    unfold newL at h
    dsimp only at h
    split at h
    · rename_i ds e
      have e' := datAll_eq e
      subst e'
      obtain ⟨R2, lt⟩ := Rr.allow
      refine h α H _ ext R2 (.lst (hid_some.mpr ⟨fun z => ?_, hD, trivial⟩) (Vrs.dq (Vrs.lt lt hv)))
      rcases List.mem_append.mp z with z | z
      · exact nb z
      · exact nD z
    · exact h.elim
theorem wipe_idem (σ : L2.St) : ∀ vs : List Nat, wipe (wipe σ vs) vs = wipe σ vs := by
  have key : ∀ (us vs : List Nat) (τ : L2.St), (∀ i ∈ us, i ∈ vs) → wipe (wipe τ us) vs = wipe τ vs := by
    intro us
    induction us with
    | nil => intro vs τ _; rfl
    | cons u us ih =>
      intro vs τ h
      show wipe ((wipe τ us).set u none) vs = wipe τ vs
      rw [wipe_set_in (h u List.mem_cons_self)]
      exact ih vs τ fun i hi => h i (List.mem_cons_of_mem _ hi)
  exact fun vs => key vs vs σ fun _ h => h
structure LcInv (T : Tb) (W : WX) (β : List Addr) (σ : L2.St) (D : Addr) (α1 : List (Option Addr)) (H1 : Hp) (it : Items) (own : Bool) (g : GM) (t : TM) (elt : EM) (ρ : Rho) (vs : List Nat) (Q : VK) (i : Nat) (H : Hp) : Prop where
  ex : ∃ α2 S2 ars avs, Ext α1 H1 α2 H ∧ Lt β α1 H1 (D :: β) α2 H ∧ Rl T (D :: β) α2 S2 H ∧ H D = some (.lst avs) ∧ Vrs T (D :: β) α2 H ars avs ∧ Er T (D :: β) α2 H (wipe σ vs) (wipeR ρ vs) ∧ ars.length ≤ i ∧
    PostG T β W (Vr T β) σ ((lcLoop it.keep g t elt (wipeR ρ vs) (it.rs.drop i) S2).bind fun rs S3 => newL own (ars ++ rs) S3) α1 H1 Q
abbrev W0 : WX := fun _ _ _ _ => False
theorem loop_stands {keep : List (Nat × List R)} {g : GM} {t : TM} {elt : EM} {ρ : Rho} {rs : List R} {S : Sto} (h : lcLoop keep g t elt ρ rs S ≠ .stuck) : Stands S keep := by
  cases rs with
  | nil =>
    unfold lcLoop at h
    split at h
    · rename_i z; exact stands_ok z
    · exact absurd rfl h
  | cons r rs =>
    unfold lcLoop at h
    split at h
    · rename_i z; exact stands_ok z
    · exact absurd rfl h
theorem post_ne {a b c : Type} {rel : List (Option Addr) → Hp → a → b → Prop} {β : List Addr} {σ : L2.St} {α : List (Option Addr)} {H : Hp} {o : Out c} {f : c → Sto → Out a} {Q : b → Hp → Prop} (h : PostG T β W rel σ (o.bind f) α H Q) : o ≠ .stuck := fun e => by rw [e] at h; exact h.elim
theorem lc_le {im : IM} {g : GM} {t : TM} {elt : EM} {vs : List Nat} {own : Bool} {σ : L2.St} {H : Hp} {Q : VK} (h : tE T W (eLc own im g t elt vs) σ H Q) : tLc (tI T W im) (tG T vs g) (tT T W0 t) (tE T W0 elt) vs σ H Q := by
  obtain ⟨β, α, S, ρ, hR, hE, h⟩ := h
  refine ⟨β, α, S, ρ, hR, hE, ?_⟩
  have h1 := PostG.bind (rel := WalkR T β) h
  cases q : im ρ S with
  | stuck => rw [q] at h1; exact h1.elim
  | exc k f S1 => rw [q] at h1; exact h1
  | ok it S1 =>
    rw [q] at h1
    intro α1 H1 J e1 R1 V1
    obtain ⟨α1', S1', it', ex, e1', R1', V1', h2⟩ := h1 α1 H1 J e1 R1 V1
    cases ex
    clear h1
    split at h2
    · rename_i hz
      intro D hD
      obtain ⟨G, Y, wk, V2⟩ := V1'
      have nb : D ∉ β := fun z => (R1'.bt D z).has hD
      obtain ⟨Rf, Lf⟩ := R1'.forbid hD (.lst [])
      have sm : Same H1 (upd H1 D (.lst [])) := same_new hD
      refine lc_it wk (LcInv T W β σ D α1' H1 it own g t elt ρ vs Q) ⟨α1', S1, [], [], Ext.same sm, Lf, Rf, upd_same, .nil, ?_, Nat.zero_le _, by rw [List.drop_zero]; exact h2⟩ (fun i H2 hi p => ?_) (fun i x H2 H2' hi p hy => ?_) fun H2 p => ?_
      · have E1 := er_wipe (hE.ext e1') vs
        exact E1.lt Lf
      · obtain ⟨α2, S2, ars, avs, x2, l2, R2, d2, v2, E2, n2, p2⟩ := p.ex
        exact (V2 _ α2 S2 H2 l2 R2 (loop_stands (post_ne p2))).1
      · obtain ⟨α2, S2, ars, avs, x2, l2, R2, d2, v2, E2, n2, p2⟩ := p.ex
        have st := loop_stands (post_ne p2)
        obtain ⟨sm2, hr⟩ := (V2 _ α2 S2 H2 l2 R2 st).2 i x H2' hy
        have hlt : i < it.rs.length := hi
        have hd : it.rs.drop i = it.rs[i] :: it.rs.drop (i + 1) := List.drop_eq_getElem_cons hlt
        have Vx := hr it.rs[i] (List.getElem?_eq_getElem hlt)
        rw [hd] at p2
        unfold lcLoop at p2
        split at p2
        · split at p2
          · exact p2.elim
          · rename_i ρ1 hg
            have R3 := R2.same sm2
            have x3 : Ext α2 H2 α2 H2' := Ext.same sm2
            have E3 := E2.ext x3
            refine ⟨D :: β, α2, S2, _, it.rs[i], ρ1, R3, E3, Vx, hg, fun σ1 F1 w1 => ⟨w1.trans (wipe_idem σ vs), ?_⟩⟩
            refine ⟨D :: β, α2, S2, ρ1, R3, F1, ?_⟩
            cases qt : t ρ1 S2 with
            | stuck => rw [qt] at p2; exact p2.elim
            | exc k f S3 => rw [qt] at p2; exact p2.elim
            | ok b S3 =>
              rw [qt] at p2
              intro α3 H3 b' x4 R4 eb
              subst eb
              have Dk : ∀ {α' : List (Option Addr)} {H' : Hp}, Ext α2 H2' α' H' → H' D = some (.lst avs) := fun z => z.keep D _ (fun y => R3.off D y List.mem_cons_self) trivial (sm2 D _ d2)
              cases b with
              | false =>
                rw [if_neg Bool.false_ne_true]
                exact ⟨α3, S3, ars, avs, (x2.trans x3).trans x4, (l2.trans (Lt.of x3)).trans (Lt.of x4), R4, Dk x4, (v2.ext x3).ext x4, E3.ext x4, Nat.le_succ_of_le n2, p2⟩
              | true =>
                rw [if_pos rfl]
                refine ⟨D :: β, α3, S3, ρ1, R4, F1.ext x4, ?_⟩
                cases qe : elt ρ1 S3 with
                | stuck => simp only [Out.bind, noX, qe] at p2; exact p2.elim
                | exc k f S4 => simp only [Out.bind, noX, qe] at p2; exact p2.elim
                | ok y S4 =>
                  intro α4 H4 v x5 R5 Vy
                  have d5 := Dk (x4.trans x5)
                  obtain ⟨R6, l6⟩ := R5.grow d5 (.lst (avs ++ [v]))
                  refine ⟨avs, d5, ?_, ⟨α4, S4, ars ++ [y], avs ++ [v], ?_, ?_, R6, upd_same, ?_, ?_, ?_, ?_⟩⟩
                  · rw [← v2.length]
                    omega
                  · have X := ((x2.trans x3).trans x4).trans x5
                    refine { len := X.len, old := X.old, new := X.new, keep := fun b o nb' nt qb => ?_, stay := fun b qb => ?_ }
                    · rw [upd_ne (fun z => by rw [z, hD] at qb; cases qb)]
                      exact X.keep b o nb' nt qb
                    · by_cases z : b = D
                      · rw [z, upd_same]; simp
                      · rw [upd_ne z]; exact X.stay b qb
                  · exact (((l2.trans (Lt.of x3)).trans (Lt.of x4)).trans (Lt.of x5)).trans l6
                  · exact Vrs.append (Vrs.lt l6 (((v2.ext x3).ext x4).ext x5)) (.cons (Vy.lt l6) .nil)
                  · have E5 := (E3.ext x4).ext x5
                    exact E5.lt l6
                  · rw [List.length_append, List.length_singleton]; omega
                  · simp only [Out.bind, noX, qe] at p2
                    cases ql : lcLoop it.keep g t elt (wipeR ρ vs) (it.rs.drop (i + 1)) S4 with
                    | stuck => rw [ql] at p2; exact p2.elim
                    | exc k f S5 => rw [ql] at p2; exact p2
                    | ok zs S5 =>
                      rw [ql] at p2
                      show PostG T β W (Vr T β) σ (newL own ((ars ++ [y]) ++ zs) S5) α1' H1 Q
                      rw [List.append_assoc]
                      exact p2
        · exact p2.elim
      · obtain ⟨α2, S2, ars, avs, x2, l2, R2, d2, v2, E2, n2, p2⟩ := p.ex
        rw [List.drop_length] at p2
        unfold lcLoop at p2
        split at p2
        · have p3 : PostG T β W (Vr T β) σ (newL own (ars ++ []) S2) α1' H1 Q := p2
          rw [List.append_nil] at p3
          exact made_ok x2 hD nb R2 d2 v2 p3
        · exact p2.elim
    · exact h2.elim
/-- [elt for tg in iter if ..] -/
theorem tr_lc (own : Bool) {elt tg iter : Expr} {ifs : List Expr} {scope : Scope} {pos : Pos} {im : IM} {g : GM} {t : TM} {m : EM} (vs : List (Str × Nat)) (hc : X.calm = true) (hN : X.N.Nodup) (hi : PI X tg iter (tI T W im)) (ok : BlkOk X.N X.env.scope scope vs)
    (hg : ∀ (s : Shared) (H : Hp) (C : Addr) (cl : List (Str × Addr)) (fp : List Addr), PG (X.blk s H scope (compEnvC scope cl C X.env) fp) tg (tG T (vs.map (·.2)) g)) (ht : ∀ (s : Shared) (H : Hp) (C : Addr) (cl : List (Str × Addr)) (fp : List Addr), PTs (X.blk s H scope (compEnvC scope cl C X.env) fp) ifs (tT T W0 t))
    (he : ∀ (s : Shared) (H : Hp) (C : Addr) (cl : List (Str × Addr)) (fp : List Addr), PE (X.blk s H scope (compEnvC scope cl C X.env) fp) elt (tE T W0 m)) (hs : ∀ x, foldedSetIterable iter X.env x = pure x := by intro _; rfl) :
    PE X (.ListComp elt [⟨tg, iter, ifs, 0⟩] scope pos) (tE T W (eLc own im g t m (vs.map (·.2)))) :=
  pe_le (pe_lc hc hN hi ok hg ht he hs) fun _ _ _ h => lc_le h
end
end Pev
/-! Pev, ninth part: statements. -/
namespace Pev
open PySem PySem.Spec PyProof.Rows L2

def sSkip : SM := fun ρ S => .nx ρ S
def sCons (a b : SM) : SM := fun ρ S => match a ρ S with
  | .nx ρ1 S1 => b ρ1 S1
  | o => o
def sSet (i : Nat) (m : EM) : SM := fun ρ S => (m ρ S).toS ρ fun r S1 => .nx (ρ.set i (some r)) S1
def sExpr (m : EM) : SM := fun ρ S => (m ρ S).toS ρ fun _ S1 => .nx ρ S1
def sRet (m : EM) : SM := fun ρ S => (m ρ S).toS ρ fun r S1 => .rt r S1
def sRetN : SM := fun _ S => .rt (.dat .none) S
def sIf (t : TM) (a b : SM) : SM := fun ρ S => (t ρ S).toS ρ fun x S1 => if x then a ρ S1 else b ρ S1
def sTgt (g : GM) (m : EM) : SM := fun ρ S => (m ρ S).toS ρ fun r S1 => match g r ρ with
  | some ρ1 => .nx ρ1 S1
  | none => .stuck
section
variable {X : Cx} {T : Tb} {W : WX} {e : Expr} {m : EM} {pos : Pos} {a b : SM} {t : TM} {st : Stmt} {rest : List Stmt}
theorem ts_nil : PSs X [] (tS T W sSkip) := pss_le pss_nil fun D σ H ⟨_, _, _, _, hR, hE, h⟩ => h _ H σ Ext.refl hR hE
theorem cons_le {D : Ends} {σ : L2.St} {H : Hp} (h : tS T W (sCons a b) D σ H) : tSeq (tS T W a) (tS T W b) D σ H := by
  obtain ⟨β, α, S, ρ, hR, hE, h⟩ := h
  refine ⟨β, α, S, ρ, hR, hE, ?_⟩
  have h' : PostS T β W (match a ρ S with
    | .nx ρ1 S1 => b ρ1 S1
    | o => o) α H D := h
  cases q : a ρ S with
  | nx ρ1 S1 =>
    rw [q] at h'
    exact fun α' H' σ' x R E => ⟨β, α', S1, ρ1, R, E, PostS.on x h'⟩
  | rt r S1 => rw [q] at h'; exact h'
  | bk ρ1 S1 => rw [q] at h'; exact h'
  | ct ρ1 S1 => rw [q] at h'; exact h'
  | exc c f ρ1 S1 => rw [q] at h'; exact h'
  | stuck => rw [q] at h'; exact h'
theorem ts_cons (h1 : PS X st (tS T W a)) (h2 : PSs X rest (tS T W b)) : PSs X (st :: rest) (tS T W (sCons a b)) := pss_le (pss_cons h1 h2) fun _ _ _ h => cons_le h
theorem ts_one (h1 : PS X st (tS T W a)) : PSs X [st] (tS T W a) := pss_one h1
/-- an expression, then what is done with its value -/
theorem then_le {k : R → Sto → OutS} {D : Ends} {σ : L2.St} {H : Hp} {Q : VK} (h : tS T W (fun ρ S => (m ρ S).toS ρ k) D σ H) (kQ : ∀ β α S ρ r v H1, Rl T β α S H1 → Er T β α H1 σ ρ → Vr T β α H1 r v → PostS T β W (k r S) α H1 D → Q v H1) : tE T W m σ H Q := by
  obtain ⟨β, α, S, ρ, hR, hE, h⟩ := h
  refine ⟨β, α, S, ρ, hR, hE, ?_⟩
  have h1 := PostS.bind (rel := Vr T β) hE h
  cases q : m ρ S with
  | stuck => rw [q] at h1; exact h1.elim
  | exc c f S1 => rw [q] at h1; exact h1
  | ok x S1 =>
    rw [q] at h1
    intro α1 H1 v e1 R1 V1
    obtain ⟨α1', S1', x', ex, e1', R1', V1', h2⟩ := h1 α1 H1 v e1 R1 V1
    cases ex
    exact kQ β α1' S1 ρ x v H1 R1' (hE.ext e1') V1' h2
/-- as then_le, the slots known -/
theorem then_le' {k : Rho → R → Sto → OutS} {D : Ends} {σ : L2.St} {H : Hp} {Q : VK} (h : tS T W (fun ρ S => (m ρ S).toS ρ (k ρ)) D σ H) (kQ : ∀ β α S ρ r v H1, Rl T β α S H1 → Er T β α H1 σ ρ → Vr T β α H1 r v → PostS T β W (k ρ r S) α H1 D → Q v H1) : tE T W m σ H Q := by
  obtain ⟨β, α, S, ρ, hR, hE, h⟩ := h
  refine ⟨β, α, S, ρ, hR, hE, ?_⟩
  have h1 := PostS.bind (rel := Vr T β) hE h
  cases q : m ρ S with
  | stuck => rw [q] at h1; exact h1.elim
  | exc c f S1 => rw [q] at h1; exact h1
  | ok x S1 =>
    rw [q] at h1
    intro α1 H1 v e1 R1 V1
    obtain ⟨α1', S1', x', ex, e1', R1', V1', h2⟩ := h1 α1 H1 v e1 R1 V1
    cases ex
    exact kQ β α1' S1 ρ x v H1 R1' (hE.ext e1') V1' h2
theorem ts_set (i : Nat) {x : Str} {pos' : Pos} (hN : X.N.Nodup) (hi : X.N[i]? = some x) (hx : Loc X.env.scope x) (he : PE X e (tE T W m)) (hs : swapsWith e (some (.Name x pos')) pos.line X.env = pure false := by rfl) (hf : X.fn x = true ∨ X.env.scope.names.lookup x = some .local := by first | exact .inl rfl | exact .inr rfl | assumption) :
    PS X (.Assign [.Name x pos'] e pos) (tS T W (sSet i m)) := ps_le (ps_set hN hi hx he hs hf) fun D σ H h =>
  then_le' (k := fun ρ r S1 => .nx (ρ.set i (some r)) S1) h fun β α S ρ r v H1 R1 E1 V1 p => p α H1 _ Ext.refl R1 (E1.set V1)
/-- an assignment to any target of names -/
theorem ts_tgt {tg : Expr} {g : GM} {vs : List Nat} (he : PE X e (tE T W m)) (hg : PG X tg (tG T vs g)) (hs : swapsWithSole [tg] e pos.line X.env = pure false := by rfl) (hw : swappedStores [tg] e X.env = pure none := by rfl) (h1 : (assignEach [tg] X.env).map (·.2) = [assign tg X.env] := by rfl) : PS X (.Assign [tg] e pos) (tS T W (sTgt g m)) :=
  ps_le (ps_asg he hg hs hw h1) fun D σ H h => then_le' (k := fun ρ r S1 => match g r ρ with
    | some ρ1 => .nx ρ1 S1
    | none => .stuck) h fun β α S ρ r v H1 R1 E1 V1 p => by
    split at p
    · rename_i ρ1 q
      exact ⟨β, α, S, ρ, r, ρ1, R1, E1, V1, q, fun σ' E' _ => p α H1 σ' Ext.refl R1 E'⟩
    · exact p.elim
theorem ts_expr (he : PE X e (tE T W m)) (hs : swapsWith e none pos.line X.env = pure false := by rfl) : PS X (.Expr e pos) (tS T W (sExpr m)) := ps_le (ps_expr he hs) fun D σ H h =>
  then_le' (k := fun ρ _ S1 => .nx ρ S1) h fun β α S ρ r v H1 R1 E1 V1 p => p α H1 σ Ext.refl R1 E1
theorem ts_ret (he : PE X e (tE T W m)) : PS X (.Return (some e) pos) (tS T W (sRet m)) := ps_le (ps_ret he) fun D σ H h =>
  then_le (k := fun r S1 => .rt r S1) h fun β α S ρ r v H1 R1 E1 V1 p => p α H1 v Ext.refl R1 V1
theorem ts_if {c : Expr} {as bs : List Stmt} (hc : PT X c (tT T W t)) (ha : PSs X as (tS T W a)) (hb : PSs X bs (tS T W b)) : PS X (.If c as bs pos) (tS T W (sIf t a b)) := by
  refine ps_le (ps_if hc ha hb) fun D σ H ⟨β, α, S, ρ, hR, hE, h⟩ => ?_
  refine ⟨β, α, S, ρ, hR, hE, ?_⟩
  have h1 := PostS.bind (rel := fun _ _ (x v : Bool) => x = v) hE (show PostS T β W ((t ρ S).toS ρ fun x S1 => if x then a ρ S1 else b ρ S1) α H D from h)
  cases q : t ρ S with
  | stuck => rw [q] at h1; exact h1.elim
  | exc c f S1 => rw [q] at h1; exact h1
  | ok x S1 =>
    rw [q] at h1
    intro α1 H1 v e1 R1 V1
    obtain ⟨α1', S1', x', ex, e1', R1', V1', h2⟩ := h1 α1 H1 v e1 R1 V1
    cases ex
    subst V1'
    cases x with
    | true =>
      rw [if_pos rfl]
      exact ⟨β, α1', S1, ρ, R1', hE.ext e1', h2⟩
    | false =>
      rw [if_neg Bool.false_ne_true]
      exact ⟨β, α1', S1, ρ, R1', hE.ext e1', h2⟩
end

/-! ### for -/
def forLoop (keep : List (Nat × List R)) (g : GM) (b : SM) : List R → Rho → Sto → OutS
  | [], ρ, S => if stands S keep then .nx ρ S else .stuck
  | r :: rs, ρ, S => if stands S keep then (match g r ρ with
    | none => .stuck
    | some ρ1 => match b ρ1 S with
      | .nx ρ2 S2 => forLoop keep g b rs ρ2 S2
      | .ct ρ2 S2 => forLoop keep g b rs ρ2 S2
      | .bk ρ2 S2 => .nx ρ2 S2
      | o => o) else .stuck
def sFor (im : IM) (g : GM) (b : SM) : SM := fun ρ S => (im ρ S).toS ρ fun it S1 => forLoop it.keep g b it.rs ρ S1
section
variable {X : Cx} {T : Tb} {W : WX} {pos : Pos} {b : SM} {im : IM} {g : GM} {vs : List Nat}
theorem for_stands {keep : List (Nat × List R)} {rs : List R} {ρ : Rho} {S : Sto} (h : forLoop keep g b rs ρ S ≠ .stuck) : Stands S keep := by
  cases rs with
  | nil =>
    unfold forLoop at h
    split at h
    · rename_i z; exact stands_ok z
    · exact absurd rfl h
  | cons r rs =>
    unfold forLoop at h
    split at h
    · rename_i z; exact stands_ok z
    · exact absurd rfl h
structure ForInv (T : Tb) (W : WX) (β : List Addr) (α1 : List (Option Addr)) (H1 : Hp) (it : Items) (g : GM) (b : SM) (D : Ends) (i : Nat) (σ : L2.St) (H : Hp) : Prop where
  ex : ∃ α2 S2 ρ2, Ext α1 H1 α2 H ∧ Rl T β α2 S2 H ∧ Er T β α2 H σ ρ2 ∧ PostS T β W (forLoop it.keep g b (it.rs.drop i) ρ2 S2) α2 H D
theorem for_le {D : Ends} {σ : L2.St} {H : Hp} (h : tS T W (sFor im g b) D σ H) : tFor (tI T W im) (tG T vs g) (tS T W b) D σ H := by
  obtain ⟨β, α, S, ρ, hR, hE, h⟩ := h
  refine ⟨β, α, S, ρ, hR, hE, ?_⟩
  have h1 := PostS.bind (rel := WalkR T β) hE (show PostS T β W ((im ρ S).toS ρ fun it S1 => forLoop it.keep g b it.rs ρ S1) α H D from h)
  cases q : im ρ S with
  | stuck => rw [q] at h1; exact h1.elim
  | exc k f S1 => rw [q] at h1; exact h1
  | ok it S1 =>
    rw [q] at h1
    intro α1 H1 J e1 R1 V1
    obtain ⟨α1', S1', it', ex, e1', R1', V1', h2⟩ := h1 α1 H1 J e1 R1 V1
    cases ex
    clear h1
    obtain ⟨G, Y, wk, V2⟩ := V1'
    refine for_it wk (ForInv T W β α1' H1 it g b D) ⟨α1', S1, ρ, Ext.refl, R1', hE.ext e1', by rw [List.drop_zero]; exact h2⟩ (fun i σ2 H2 hi p => ?_) (fun i x σ2 H2 H2' hi p hy => ?_) fun σ2 H2 p => ?_
    · obtain ⟨α2, S2, ρ2, x2, R2, E2, p2⟩ := p.ex
      refine (V2 _ α2 S2 H2 (Lt.of x2) R2 (for_stands (g := g) (b := b) (rs := it.rs.drop i) (ρ := ρ2) fun z => ?_)).1
      rw [z] at p2
      exact p2
    · obtain ⟨α2, S2, ρ2, x2, R2, E2, p2⟩ := p.ex
      have st : Stands S2 it.keep := for_stands (g := g) (b := b) (rs := it.rs.drop i) (ρ := ρ2) fun z => by rw [z] at p2; exact p2
      obtain ⟨sm2, hr⟩ := (V2 _ α2 S2 H2 (Lt.of x2) R2 st).2 i x H2' hy
      have hlt : i < it.rs.length := hi
      have hd : it.rs.drop i = it.rs[i] :: it.rs.drop (i + 1) := List.drop_eq_getElem_cons hlt
      have Vx := hr it.rs[i] (List.getElem?_eq_getElem hlt)
      rw [hd] at p2
      unfold forLoop at p2
      split at p2
      · split at p2
        · exact p2.elim
        · rename_i ρ3 hg
          have R3 := R2.same sm2
          have x3 : Ext α2 H2 α2 H2' := Ext.same sm2
          refine ⟨β, α2, S2, ρ2, it.rs[i], ρ3, R3, E2.ext x3, Vx, hg, fun σ3 F3 _ => ?_⟩
          refine ⟨β, α2, S2, ρ3, R3, F3, ?_⟩
          have p3 := PostS.on x3 p2
          cases qb : b ρ3 S2 with
          | stuck => rw [qb] at p3; exact p3.elim
          | exc k f ρ4 S4 => rw [qb] at p3; exact p3
          | rt r S4 => rw [qb] at p3; exact p3
          | bk ρ4 S4 => rw [qb] at p3; exact p3
          | nx ρ4 S4 =>
            rw [qb] at p3
            exact fun α4 H4 σ4 x4 R4 E4 => ⟨α4, S4, ρ4, (x2.trans x3).trans x4, R4, E4, PostS.on x4 p3⟩
          | ct ρ4 S4 =>
            rw [qb] at p3
            exact fun α4 H4 σ4 x4 R4 E4 => ⟨α4, S4, ρ4, (x2.trans x3).trans x4, R4, E4, PostS.on x4 p3⟩
      · exact p2.elim
    · obtain ⟨α2, S2, ρ2, x2, R2, E2, p2⟩ := p.ex
      rw [List.drop_length] at p2
      unfold forLoop at p2
      split at p2
      · exact p2 α2 H2 σ2 Ext.refl R2 E2
      · exact p2.elim
theorem ts_for {tg iter : Expr} {body : List Stmt} (hp : PassesOwn (model X.prog X.w) X.A X.env X.xe) (hc : X.calm = true) (hi : PI X tg iter (tI T W im)) (hg : PG X tg (tG T vs g)) (hb : PSs X body (tS T W b)) (hs : ∀ x, foldedSetIterable iter X.env x = pure x := by intro _; rfl) :
    PS X (.For tg iter body [] pos) (tS T W (sFor im g b)) := ps_le (ps_for hp hc hi hg hb hs) fun _ _ _ h => for_le h
end

/-! ### while -/
section
variable {X : Cx} {T : Tb} {W : WX} {pos : Pos} {b : SM} {t : TM}
end
end Pev
/-! Pev, tenth part: what changes a list; names set at once. -/
namespace Pev
open PySem PySem.Spec PyProof.Rows L2

/-! ### o[i] = e -/
def putAt (o i r : R) (S : Sto) : Out Unit := match o, i with
  | .obj k, .dat (.int n) => match S[k]? with
    | some (.lst rs) => match ixN rs.length n with
      | some j => .ok () (S.set k (.lst (rs.set j r)))
      | none => .stuck
    | _ => .stuck
  | _, _ => .stuck
def sPut (mo mi me : EM) : SM := fun ρ S => (me ρ S).toS ρ fun r S1 => (mo ρ S1).toS ρ fun o S2 => (mi ρ S2).toS ρ fun i S3 => (putAt o i r S3).toS ρ fun _ S4 => .nx ρ S4
section
variable {X : Cx} {T : Tb} {W : WX} {e o i : Expr} {me mo mi : EM} {pos p2 : Pos}
theorem puts_le {β : List Addr} {σ : L2.St} {α : List (Option Addr)} {H : Hp} {S : Sto} {ρ : Rho} {k : R → Sto → OutS} {D : Ends} {Q : VK} {m : EM} (hR : Rl T β α S H) (hE : Er T β α H σ ρ) (h : PostS T β W ((m ρ S).toS ρ k) α H D)
    (kQ : ∀ α1 S1 r v H1, Ext α H α1 H1 → Rl T β α1 S1 H1 → Vr T β α1 H1 r v → PostS T β W (k r S1) α1 H1 D → Q v H1) : tE T W m σ H Q := by
  refine ⟨β, α, S, ρ, hR, hE, ?_⟩
  have h1 := PostS.bind (rel := Vr T β) hE h
  cases q : m ρ S with
  | stuck => rw [q] at h1; exact h1.elim
  | exc c f S1 => rw [q] at h1; exact h1
  | ok x S1 =>
    rw [q] at h1
    intro α1 H1 v e1 R1 V1
    obtain ⟨α1', S1', x', ex, e1', R1', V1', h2⟩ := h1 α1 H1 v e1 R1 V1
    cases ex
    exact kQ α1' S1 x v H1 e1' R1' V1' h2
theorem ts_put (he : PE X e (tE T W me)) (ho : PE X o (tE T W mo)) (hi : PE X i (tE T W mi)) (hs : swapsWithSole [.Subscript o i p2] e pos.line X.env = pure false := by rfl) (hw : swappedStores [.Subscript o i p2] e X.env = pure none := by rfl) (h1 : (assignEach [.Subscript o i p2] X.env).map (·.2) = [assign (.Subscript o i p2) X.env] := by rfl)
    (ha : ∀ v, assign (.Subscript o i p2) X.env v = (do
      let ov ← holding [v] (eval o X.env)
      let iv ← holding [v, ov] (eval i X.env)
      standAt p2
      holding [v, ov, iv] (setItem ov iv v)
      release [v, ov, iv] []) := by intro _; rfl) : PS X (.Assign [.Subscript o i p2] e pos) (tS T W (sPut mo mi me)) := by
  refine ps_le (ps_asg he (pg_sub ho hi set_list ha) hs hw h1) fun D σ H ⟨β, α, S, ρ, hR, hE, h⟩ => ?_
  refine puts_le hR hE h fun α1 S1 r v H1 x1 R1 V1 p1 => ?_
  refine puts_le R1 (hE.ext x1) p1 fun α2 S2 ro vo H2 x2 R2 V2 p2 => ?_
  refine puts_le R2 ((hE.ext x1).ext x2) p2 fun α3 S3 ri vi H3 x3 R3 V3 p3 => ?_
  unfold putAt at p3
  split at p3
  · rename_i k n
    split at p3
    · rename_i rs q
      split at p3
      · rename_i j qj
        obtain ⟨a, vs, e1, e2, e3⟩ := R3.cell k rs q
        cases (V2.ext x3).2 a e1
        cases vr_int V3
        obtain ⟨R4, x4⟩ := R3.write q e1 (Vrs.set ((V1.ext x2).ext x3) j e3)
        exact ⟨a, vs, n, j, rfl, rfl, e2, by rw [← e3.length]; exact qj, p3 α3 _ σ x4 R4 ((((hE.ext x1).ext x2).ext x3).ext x4)⟩
      · exact p3.elim
    · exact p3.elim
  · exact p3.elim
end

/-! ### methods of lists and texts -/
def eBMl (g : R → List R → Sto → Out R) (mo : EM) (ms : EMs) : EM := fun ρ S => (mo ρ S).bind fun x S1 => match lv S1 x with
  | some _ => (ms ρ S1).bind fun xs S2 => g x xs S2
  | none => .stuck
def SndM (T : Tb) (r : V → List V → Hp → VK → Prop) (g : R → List R → Sto → Out R) : Prop :=
  ∀ (β : List Addr) (W : WX) (σ : L2.St) (α : List (Option Addr)) (S : Sto) (H : Hp) (x : R) (xs : List R) (v : V) (vs : List V) (Q : VK), Rl T β α S H → Vr T β α H x v → Vrs T β α H xs vs →
    PostG T β W (Vr T β) σ (g x xs S) α H Q → r v vs H Q
section
variable {X : Cx} {T : Tb} {W : WX} {e o : Expr} {es : List Expr} {mo : EM} {ms : EMs} {name : Str} {apos cpos : Pos} {id : String} {r : V → List V → Hp → VK → Prop} {g : R → List R → Sto → Out R}
theorem bml_le (hs : SndM T r g) {σ : L2.St} {H : Hp} {Q : VK} (h : tE T W (eBMl g mo ms) σ H Q) : tE T W mo σ H fun x H1 => tyV T.K "list" x H1 ∧ tA T W ms σ H1 fun xs H2 => r x xs H2 Q := by
  obtain ⟨β, α, S, ρ, hR, hE, h⟩ := h
  refine ⟨β, α, S, ρ, hR, hE, ?_⟩
  have h1 := PostG.bind (rel := Vr T β) h
  cases q : mo ρ S with
  | stuck => rw [q] at h1; exact h1.elim
  | exc k f S1 => rw [q] at h1; exact h1
  | ok x S1 =>
    rw [q] at h1
    intro α1 H1 v e1 R1 V1
    obtain ⟨α1', S1', x', ex, e1', R1', V1', h2⟩ := h1 α1 H1 v e1 R1 V1
    cases ex
    split at h2
    · rename_i rs ql
      obtain ⟨a, vs, rfl, z1, z2⟩ := lv_ok R1' V1' ql
      refine ⟨.inl ⟨rfl, vs, z1⟩, β, α1', S1, ρ, R1', hE.ext e1', ?_⟩
      have h3 := PostG.bind (rel := Vrs T β) h2
      cases q2 : ms ρ S1 with
      | stuck => rw [q2] at h3; exact h3.elim
      | exc k f S2 => rw [q2] at h3; exact h3
      | ok xs S2 =>
        rw [q2] at h3
        intro α2 H2 w e2 R2 V2
        obtain ⟨α2', S2', y', ey, e2', R2', V2', h4⟩ := h3 α2 H2 w e2 R2 V2
        cases ey
        exact hs β W σ α2' S2 H2 x xs _ w Q R2' (V1'.ext e2') V2' h4
    · exact h2.elim
theorem tr_bml (hK : X.K = T.K) (slot : Slot "list" name id) (hty : typeOf (.builtin id) = pure (.type "method_descriptor")) (hm : MtR X id r) (hs : SndM T r g) (ho : PE X o (tE T W mo)) (ha : PA X (e :: es) (tA T W ms))
    (hbase : attributeBase o name X.env (eval o X.env) = eval o X.env := by rfl)
    (hfew : ((backTo cpos (starEach (e :: es) X.env)).all (fun x => !x.1) && (backToKw cpos (keywordEach [] X.env)).all (fun x => x.1.isSome)
      && decide ((e :: es).length + ([] : List Keyword).length + (if ([] : List Keyword).isEmpty then 0 else 1) < 30)) = true := by rfl)
    (hline : (apos.endLine == cpos.line) = true := by rfl) (hst : starEach (e :: es) X.env = (false, eval e X.env) :: starEach es X.env := by rfl) (hplain : (backTo cpos (starEach es X.env)).any (·.1) = false := by rfl) :
    PE X (.Call (.Attribute o name apos) (e :: es) [] cpos) (tE T W (eBMl g mo ms)) := pe_le (pe_bm PySem.F.plainAttrs_list slot hty hm ho ha hbase hfew hline hst hplain) fun _ _ _ h => by
  unfold tBM
  rw [hK]
  exact bml_le hs h
end
section
variable {T : Tb}
/-- the list at a place of the store -/
def cellOf (S : Sto) : R → Option (Nat × List R)
  | .obj k => match S[k]? with
    | some (.lst rs) => some (k, rs)
    | _ => none
  | _ => none
theorem cellOf_ok {K : Tb} {β : List Addr} {α : List (Option Addr)} {H : Hp} {S : Sto} (Rr : Rl K β α S H) {x : R} {v : V} {k : Nat} {rs : List R} (hx : Vr K β α H x v) (e : cellOf S x = some (k, rs)) :
    S[k]? = some (.lst rs) ∧ ∃ a vs, v = .ref a ∧ α[k]? = some (some a) ∧ H a = some (.lst vs) ∧ Vrs K β α H rs vs := by
  cases x with
  | obj j =>
    unfold cellOf at e
    dsimp only at e
    split at e
    · rename_i qs q
      cases e
      obtain ⟨a, vs, e1, e2, e3⟩ := Rr.cell _ _ q
      exact ⟨q, a, vs, hx.2 a e1, e1, e2, e3⟩
    · cases e
  | _ => cases e
def gAppend (x : R) (xs : List R) (S : Sto) : Out R := match cellOf S x, xs with
  | some (k, rs), [y] => if rs.length < sizeLine then .ok (.dat .none) (S.set k (.lst (rs ++ [y]))) else .stuck
  | _, _ => .stuck
theorem snd_append : SndM T rAppend gAppend := by
  intro β W σ α S H x xs v vs Q Rr hx hxs h
  unfold gAppend at h
  split at h
  · rename_i k rs y e
    split at h
    · rename_i hz
      obtain ⟨q, a, us, rfl, e1, e2, e3⟩ := cellOf_ok Rr hx e
      obtain ⟨w, rfl, hw⟩ := vrs1 hxs
      obtain ⟨R4, x4⟩ := Rr.write q e1 (Vrs.append e3 (.cons hw .nil))
      exact ⟨a, us, w, rfl, rfl, e2, by rw [← e3.length]; exact hz, h α _ .non x4 R4 .non⟩
    · exact h.elim
  · exact h.elim
def gPop (x : R) (xs : List R) (S : Sto) : Out R := match cellOf S x, xs with
  | some (k, rs), [] => match rs[rs.length - 1]? with
    | some y => .ok y (S.set k (.lst rs.dropLast))
    | none => .stuck
  | _, _ => .stuck
def gExtend (x : R) (xs : List R) (S : Sto) : Out R := match cellOf S x, xs with
  | some (k, rs), [y] => match lvt S y with
    | some qs => if rs.length + qs.length ≤ sizeLine then .ok (.dat .none) (S.set k (.lst (rs ++ qs))) else .stuck
    | none => .stuck
  | _, _ => .stuck
end

/-! ### a, b = x, y -/
def sPar2 (i j : Nat) (ms : EMs) : SM := fun ρ S => (ms ρ S).toS ρ fun xs S1 => match xs with
  | [x, y] => .nx ((ρ.set i (some x)).set j (some y)) S1
  | _ => .stuck
def sPar3 (i j l : Nat) (ms : EMs) : SM := fun ρ S => (ms ρ S).toS ρ fun xs S1 => match xs with
  | [x, y, z] => .nx (((ρ.set i (some x)).set j (some y)).set l (some z)) S1
  | _ => .stuck
section
variable {X : Cx} {T : Tb} {W : WX} {a b c : Expr} {ms : EMs} {pos px py pz pt pt2 : Pos} {kt k2 : Nat} {x y z : Str}
theorem args_then {k : Rho → List R → Sto → OutS} {D : Ends} {σ : L2.St} {H : Hp} {Q : List V → Hp → Prop} (h : tS T W (fun ρ S => (ms ρ S).toS ρ (k ρ)) D σ H) (kQ : ∀ β α S ρ r v H1, Rl T β α S H1 → Er T β α H1 σ ρ → Vrs T β α H1 r v → PostS T β W (k ρ r S) α H1 D → Q v H1) : tA T W ms σ H Q := by
  obtain ⟨β, α, S, ρ, hR, hE, h⟩ := h
  refine ⟨β, α, S, ρ, hR, hE, ?_⟩
  have h1 := PostS.bind (rel := Vrs T β) hE h
  cases q : ms ρ S with
  | stuck => rw [q] at h1; exact h1.elim
  | exc c f S1 => rw [q] at h1; exact h1
  | ok x S1 =>
    rw [q] at h1
    intro α1 H1 v e1 R1 V1
    obtain ⟨α1', S1', x', ex, e1', R1', V1', h2⟩ := h1 α1 H1 v e1 R1 V1
    cases ex
    exact kQ β α1' S1 ρ x v H1 R1' (hE.ext e1') V1' h2
theorem ts_par2 (i j : Nat) (hc : X.calm = true) (hN : X.N.Nodup) (hi : X.N[i]? = some x) (hj : X.N[j]? = some y) (hij : i ≠ j) (hx : X.env.scope.names.lookup x = some .local) (hy : X.env.scope.names.lookup y = some .local) (ha : PA X [a, b] (tA T W ms))
    (hw : swappedStores [.Tuple [.Name x px, .Name y py] kt pt] (.Tuple [a, b] k2 pt2) X.env = pure (some [x, y])) (hs : swapsWithSole [.Tuple [.Name x px, .Name y py] kt pt] (.Tuple [a, b] k2 pt2) pos.line X.env = pure false := by rfl) :
    PS X (.Assign [.Tuple [.Name x px, .Name y py] kt pt] (.Tuple [a, b] k2 pt2) pos) (tS T W (sPar2 i j ms)) := ps_le (ps_par hc hN hi hj hij hx hy ha hw hs) fun D σ H h =>
  args_then (k := fun ρ xs S1 => match xs with
    | [x, y] => .nx ((ρ.set i (some x)).set j (some y)) S1
    | _ => .stuck) h fun β α S ρ r v H1 R1 E1 V1 p => by
    split at p
    · obtain ⟨v1, v2, rfl, h1, h2⟩ := vrs2 V1
      exact ⟨v1, v2, rfl, p α H1 _ Ext.refl R1 ((E1.set h1).set h2)⟩
    · exact p.elim
end

/-! ### y = [.. for ..] -/
section
variable {X : Cx} {T : Tb} {W : WX}
theorem ts_setLc (own : Bool) (i : Nat) {y : Str} {py : Pos} {elt tg iter : Expr} {ifs : List Expr} {scope : Scope} {pos spos : Pos} {im : IM} {g : GM} {t : TM} {m : EM} (vs : List (Str × Nat)) (hc : X.calm = true) (hN : X.N.Nodup) (hy : X.N[i]? = some y) (hyl : X.env.scope.names.lookup y = some .local)
    (hsw : swapsWith (.ListComp elt [⟨tg, iter, ifs, 0⟩] scope pos) (some (.Name y py)) spos.line X.env = pure true) (hi : PI X tg iter (tI T W im)) (ok : BlkOk X.N X.env.scope scope vs)
    (hg : ∀ (s : Shared) (H : Hp) (C : Addr) (cl : List (Str × Addr)) (fp : List Addr), PG (X.blk s H scope (compEnvC scope cl C X.env) fp) tg (tG T (vs.map (·.2)) g)) (ht : ∀ (s : Shared) (H : Hp) (C : Addr) (cl : List (Str × Addr)) (fp : List Addr), PTs (X.blk s H scope (compEnvC scope cl C X.env) fp) ifs (tT T W0 t))
    (he : ∀ (s : Shared) (H : Hp) (C : Addr) (cl : List (Str × Addr)) (fp : List Addr), PE (X.blk s H scope (compEnvC scope cl C X.env) fp) elt (tE T W0 m)) (hs : ∀ x, foldedSetIterable iter X.env x = pure x := by intro _; rfl) :
    PS X (.Assign [.Name y py] (.ListComp elt [⟨tg, iter, ifs, 0⟩] scope pos) spos) (tS T W (sSet i (eLc own im g t m (vs.map (·.2))))) :=
  ps_le (ps_setLc hc hN hy hyl hsw hi ok hg ht he hs) fun D σ H h =>
    lc_le (then_le' (k := fun ρ r S1 => .nx (ρ.set i (some r)) S1) h fun β α S ρ r v H1 R1 E1 V1 p => p α H1 _ Ext.refl R1 (E1.set V1))
end
end Pev
/-! Pev, eleventh part: defs and calls. -/
namespace Pev
open PySem PySem.Spec PyProof.Rows L2

/-- what a def promises whose mirror is m -/
def spF (T : Tb) (n : Nat) (m : FM) : Sp := fun vs H Q E => vs.length = n ∧ ∃ β α S rs, Rl T β α S H ∧ Vrs T β α H rs vs ∧ PostG T β (fun cls d _ H' => E cls d H') (Vr T β) [] (m rs S) α H Q
def OutS.toF : OutS → Out R
  | .nx _ S => .ok (.dat .none) S
  | .rt r S => .ok r S
  | .exc c f _ S => .exc c f S
  | _ => .stuck
/-- a def with N names -/
def fnB (N : Nat) (b : SM) : FM := fun rs S => (b (rs.map some ++ List.replicate (N - rs.length) none) S).toF

theorem er_start {T : Tb} {β : List Addr} {α : List (Option Addr)} {H : Hp} {N : List Str} {rs : List R} {vs : List V} (h : Vrs T β α H rs vs) :
    Er T β α H (L2.start N vs) (rs.map some ++ List.replicate (N.length - rs.length) none) := by
  unfold L2.start
  refine ⟨by simp [h.length], fun i r q => ?_⟩
  by_cases z : i < rs.length
  · rw [List.getElem?_append_left (by simpa using z), List.getElem?_map] at q
    cases e : rs[i]? with
    | none => rw [e] at q; cases q
    | some x =>
      rw [e] at q
      cases q
      obtain ⟨v, e1, e2⟩ := h.get e
      refine .of ⟨v, ?_, e2⟩
      rw [List.getElem?_append_left (by simpa [← h.length] using z), List.getElem?_map, e1]
      rfl
  · rw [List.getElem?_append_right (by simpa using Nat.le_of_not_lt z), List.getElem?_replicate] at q
    split at q <;> cases q

/-! ### rooms in which no repr is under way -/
structure RoomG (k : Nat) (A : Around) : Prop extends Room k A where
  gd : A.guards = some []
theorem RoomG.mono {j k : Nat} {A : Around} (r : RoomG k A) (h : j ≤ k) : RoomG j A := ⟨r.toRoom.mono h, r.gd⟩
theorem RoomG.deeper {k : Nat} {A : Around} (r : RoomG (k + 1) A) (env : Env) : RoomG k (A.deeper env) := ⟨r.toRoom.deeper env, r.gd⟩
/-- a def's promise, called where no repr is under way -/
structure FnG (P : Program) (w : World) (K : PySem.W.Frag) (mg : Str → Option Value) (base : Heap) (k : Nat) (f : Addr) (fd : FuncData) (ps : List Str) (sp : Sp) : Prop where
  len : ∀ vs H Q E, sp vs H Q E → vs.length = ps.length
  go : ∀ (A : Around) (fs : List Env) (s : Shared) (H : Hp) (args : Args) (us : List Value) (vs : List V) (Q : VK) (E : XK), RoomG k A → Env0 P w K mg base A fs s H → BindsTo s fd args (ps.zip us) → Vals vs us → sp vs H Q E →
    codeAny (model P w) A (.call (.ref f) args) (CR (L2.CX P w) fs P w H s Q E) s
theorem FnG.imp {P : Program} {w : World} {K : PySem.W.Frag} {mg : Str → Option Value} {base : Heap} {k : Nat} {f : Addr} {fd : FuncData} {ps : List Str} {sp sp2 : Sp} (F : FnG P w K mg base k f fd ps sp) (h : ∀ vs H Q E, sp2 vs H Q E → sp vs H Q E) : FnG P w K mg base k f fd ps sp2 :=
  ⟨fun vs H Q E q => F.len vs H Q E (h _ _ _ _ q), fun A fs s H args us vs Q E hr he hb hv hs => F.go A fs s H args us vs Q E hr he hb hv (h _ _ _ _ hs)⟩
/-- how a def's flow ends its call -/
theorem flow_end {P : Program} {w : World} {K : PySem.W.Frag} {mg : Str → Option Value} {base : Heap} {N : List Str} {qual : Str} {sc : Scope} {f : Addr} {cdv : Value} {A : Around} {fs : List Env} {s : Shared} {H : Hp} {Q : VK} {E : XK} {fl : Flow} {s2 : Shared}
    (h : SP (cxOf (L2.CX P w) P w K mg base N qual sc f cdv A fs s H E) [] { nx := fun _ H' => Q .non H', rt := Q } fl s2) : (match fl with | .ret u => CE fs P w H s Q u s2 | .next => CE fs P w H s Q .none s2 | _ => False) := by
  cases fl with
  | ret u =>
    obtain ⟨v, _, H2, J, rv, q⟩ := h
    exact ⟨v, H2, J.os, J.bare, J.base, J.hok, rv, q⟩
  | next =>
    obtain ⟨_, H2, J, q⟩ := h
    exact ⟨.non, H2, J.os, J.bare, J.base, J.hok, rfl, q⟩
  | brk =>
    obtain ⟨_, _, _, q⟩ := h
    exact q.elim
  | cont =>
    obtain ⟨_, _, _, q⟩ := h
    exact q.elim
theorem fnG_ofC {P : Program} {w : World} {K : PySem.W.Frag} {mg : Str → Option Value} {base : Heap} {x qual : Str} {st : Stmt} {f : Addr} {fd : FuncData} {N ps : List Str} {k : Nat} {sp : Sp} (F : L2.Fun K x qual st f fd) (S : FnScope N ps (defScope st)) (len : ∀ vs H Q E, sp vs H Q E → vs.length = ps.length)
    (hbody : ∀ (cdv : Value) (_ : fd.code = cdv) (A : Around) (fs : List Env) (s : Shared) (H : Hp) (vs : List V) (Q : VK) (E : XK), RoomG k (A.deeper (envOfC qual (defScope st) s.heap.objs.size f cdv)) → sp vs H Q E →
      ∃ t, PSs (cxOf (L2.CX P w) P w K mg base N qual (defScope st) f cdv A fs s H E) (defBody st) t ∧ t { nx := fun _ H' => Q .non H', rt := Q } (L2.start N vs) H) : FnG P w K mg base (k + 1) f fd ps sp := by
  obtain ⟨c1, c2, kV, doc, pm, an, cdv, ct, sl, rfl, lk, hcode⟩ := F.ex
  refine ⟨len, fun A fs s H args us vs Q E hr e0 hb rv hsp => ?_⟩
  have up : ∀ b o, base.get? b = some o → s.heap.get? b = some o := fun b o e => (e0.bs b o e).1
  have KX : K.In s.heap := e0.mod.kin.keeps up
  have par : ∀ y ∈ ps.zip us, (defScope st).names.lookup y.1 = some .local ∨ ((defScope st).names.lookup y.1 = some .cell ∧ ((cellsFrom (s.heap.objs.size + 1) (defScope st).names []).lookup y.1).isSome = true) := fun y hy =>
    (S.par y.1 (List.of_mem_zip hy).1).imp id fun q => ⟨q, PySem.W.cellsFrom_some _ _ _ (.inl q)⟩
  refine codeAny_call_function hr.toRoom.depth (KX _ _ lk) rfl S.co S.gen rfl (PySem.W.codeRec_of KX hcode) (hb _ _ _ _ (wpAny_newFunctionEnv_cells S.kind par fun env he s1 z => ?_))
  subst he
  obtain ⟨t, ht, hq⟩ := hbody cdv rfl A fs s H vs Q E (hr.deeper _) hsp
  refine ⟨(e0.mod.nolimit.keeps up).keeps z.toInCall.keep, codeAny_func (wpAny_mono (ht.run [] s1 (L2.start N vs) H _ (inv_start S hr.hd e0 (len _ _ _ _ hsp) rv z) hq) (fun fl s2 hs => ?_) fun _ _ hs => hs)⟩
  have q := flow_end hs
  cases fl with
  | ret u => exact q
  | next => exact q
  | brk => exact q.elim
  | cont => exact q.elim
theorem fnG_of {P : Program} {w : World} {K : PySem.W.Frag} {mg : Str → Option Value} {base : Heap} {x qual : Str} {st : Stmt} {f : Addr} {fd : FuncData} {N ps : List Str} {k : Nat} {sp : Sp} (F : L2.Fun K x qual st f fd) (S : FnScope N ps (defScope st)) (len : ∀ vs H Q E, sp vs H Q E → vs.length = ps.length)
    (hbody : ∀ (cdv : Value) (A : Around) (fs : List Env) (s : Shared) (H : Hp) (vs : List V) (Q : VK) (E : XK), RoomG k (A.deeper (envOfC qual (defScope st) s.heap.objs.size f cdv)) → sp vs H Q E →
      ∃ t, PSs (cxOf (L2.CX P w) P w K mg base N qual (defScope st) f cdv A fs s H E) (defBody st) t ∧ t { nx := fun _ H' => Q .non H', rt := Q } (L2.start N vs) H) : FnG P w K mg base (k + 1) f fd ps sp :=
  fnG_ofC F S len fun cdv _ => hbody cdv
/-- a call of it -/
theorem run_G {X : Cx} {W : WX} {k : Nat} {f : Addr} {fd : FuncData} {ps : List Str} {sp : Sp} {pins : List (Addr × Obj)} {σ : L2.St} {H : Hp} {s : Shared} {Q : VK} {args : Args} {us : List Value} {vs : List V} (F : FnG X.prog X.w X.K X.mg X.base k f fd ps sp) (hr : RoomG k X.A) (tk : Takes X W)
    (I : Inv X pins σ H s) (b : BindsTo s fd args (ps.zip us)) (rv : Vals vs us) (h : sp vs H Q (WE W σ)) : wpAny (model X.prog X.w) X.A (call (.ref f) args.pos args.kw) (EP X pins σ Q) X.xe s := by
  refine wpAny_call (codeAny_mono (F.go X.A X.stack s H args us vs Q (WE W σ) hr I.env0 b rv h) fun r s2 hq => ?_)
  cases r with
  | error e => exact passAt tk σ pins H s e s2 I hq
  | ok fl =>
    cases fl with
    | ret u => exact I.after hq
    | next => exact hq.elim
    | brk => exact hq.elim
    | cont => exact hq.elim
section
variable {P : Program} {w : World} {T : Tb} {mg : Str → Option Value} {base : Heap}
/-- THE RULE for a def -/
theorem fn_ok {x qual : Str} {st : Stmt} {f : Addr} {fd : FuncData} {N ps : List Str} {k nN np : Nat} {b : SM} (F : L2.Fun T.K x qual st f fd) (S : FnScope N ps (defScope st)) (eN : N.length = nN) (ep : ps.length = np)
    (hb : ∀ (cdv : Value) (A : Around) (outer : List Env) (s : Shared) (H : Hp) (E : XK), RoomG k (A.deeper (envOfC qual (defScope st) s.heap.objs.size f cdv)) →
      PSs (cxOf (L2.CX P w) P w T.K mg base N qual (defScope st) f cdv A outer s H E) (defBody st) (tS T (fun cls d _ H' => E cls d H') b)) :
    FnG P w T.K mg base (k + 1) f fd ps (spF T np (fnB nN b)) := by
  subst eN ep
  refine fnG_of F S (fun vs H Q E h => h.1) fun cdv A outer s H vs Q E hr h => ⟨_, hb cdv A outer s H E hr, ?_⟩
  obtain ⟨_, β, α, S0, rs, hR, hV, h⟩ := h
  refine ⟨β, α, S0, _, hR, er_start hV, ?_⟩
  unfold fnB at h
  generalize hq : b (rs.map some ++ List.replicate (N.length - rs.length) none) S0 = o at h ⊢
  cases o with
  | nx ρ S => exact fun α' H' σ' e r _ => h α' H' .non e r .non
  | rt r S => exact h
  | bk ρ S => exact h.elim
  | ct ρ S => exact h.elim
  | exc c f ρ S => exact fun α' H' σ' cls d e r _ q => h α' H' cls d e r q
  | stuck => exact h.elim
/-- .. that makes lambdas -/
theorem fn_okC {x qual : Str} {st : Stmt} {f : Addr} {fd : FuncData} {N ps : List Str} {k nN np : Nat} {b : SM} (F : L2.Fun T.K x qual st f fd) (S : FnScope N ps (defScope st)) (eN : N.length = nN) (ep : ps.length = np)
    (hb : ∀ (cdv : Value) (_ : fd.code = cdv) (A : Around) (outer : List Env) (s : Shared) (H : Hp) (E : XK), RoomG k (A.deeper (envOfC qual (defScope st) s.heap.objs.size f cdv)) →
      PSs (cxOf (L2.CX P w) P w T.K mg base N qual (defScope st) f cdv A outer s H E) (defBody st) (tS T (fun cls d _ H' => E cls d H') b)) :
    FnG P w T.K mg base (k + 1) f fd ps (spF T np (fnB nN b)) := by
  subst eN ep
  refine fnG_ofC F S (fun vs H Q E h => h.1) fun cdv hc A outer s H vs Q E hr h => ⟨_, hb cdv hc A outer s H E hr, ?_⟩
  obtain ⟨_, β, α, S0, rs, hR, hV, h⟩ := h
  refine ⟨β, α, S0, _, hR, er_start hV, ?_⟩
  unfold fnB at h
  generalize hq : b (rs.map some ++ List.replicate (N.length - rs.length) none) S0 = o at h ⊢
  cases o with
  | nx ρ S => exact fun α' H' σ' e r _ => h α' H' .non e r .non
  | rt r S => exact h
  | bk ρ S => exact h.elim
  | ct ρ S => exact h.elim
  | exc c f ρ S => exact fun α' H' σ' cls d e r _ q => h α' H' cls d e r q
  | stuck => exact h.elim
end

theorem post_turn {T : Tb} {W : WX} {β : List Addr} {σ : L2.St} {α : List (Option Addr)} {H : Hp} {Q : VK} {o : Out R} (h : PostG T β W (Vr T β) σ o α H Q) : PostG T β (fun cls d _ H' => WE W σ cls d H') (Vr T β) [] o α H Q := by
  cases o <;> exact h

/-! ### a call that looks at its arguments as data -/
mutual
/-- no list inside -/
def free : PyData → Bool
  | .list _ => false
  | .tuple ds => freeAll ds
  | _ => true
def freeAll : List PyData → Bool
  | [] => true
  | d :: ds => free d && freeAll ds
end
section
variable {T : Tb} {β : List Addr} {α : List (Option Addr)} {H : Hp} {S : Sto}
theorem not_live (Rr : Rl T β α S H) {a : Addr} (h : ¬ Mut (H a)) : a ∉ live α := fun z => h (Rr.mt a z).mut
theorem hid_of (Rr : Rl T β α S H) {a : Addr} {o : HO} (h : hid β H a = some o) (n : ¬ Mut (some o)) : hid (blk β α) H a = some o := by
  obtain ⟨h1, h2⟩ := hid_some.mp h
  refine hid_some.mpr ⟨fun z => ?_, h2⟩
  rcases List.mem_append.mp z with z | z
  · exact h1 z
  · exact not_live Rr (by rw [h2.1]; exact n) z
theorem sqT_hid (Rr : Rl T β α S H) {a : Addr} {xs : List V} (h : SqT T.K (hid β H) a xs) : SqT T.K (hid (blk β α) H) a xs := by
  rcases h with (h | ⟨o, h⟩) | h
  · exact .inl (.inl (hid_of Rr h (fun z => z)))
  · exact .inl (.inr ⟨o, hid_of Rr h (fun z => z)⟩)
  · exact .inr h
mutual
theorem Dq.free (Rr : Rl T β α S H) : ∀ {v : V} {d : PyData}, Dq T.K (hid β H) v d → Pev.free d = true → Dq T.K (hid (blk β α) H) v d
  | _, _, .non, _ => .non
  | _, _, .bl b, _ => .bl b
  | _, _, .int i, _ => .int i
  | _, _, .str x, _ => .str x
  | _, _, .lst _ _, e => by unfold Pev.free at e; cases e
  | _, _, .tup h hs, e => .tup (sqT_hid Rr h) (DqAll.free Rr hs (by unfold Pev.free at e; exact e))
theorem DqAll.free (Rr : Rl T β α S H) : ∀ {vs : List V} {ds : List PyData}, DqAll T.K (hid β H) vs ds → Pev.freeAll ds = true → DqAll T.K (hid (blk β α) H) vs ds
  | _, _, .nil, _ => .nil
  | _, _, .cons h t, e => by
    unfold Pev.freeAll at e
    rw [Bool.and_eq_true] at e
    exact .cons (Dq.free Rr h e.1) (DqAll.free Rr t e.2)
end
end
def freeO : Option PyData → Bool
  | none => true
  | some d => free d
def allD : List R → Bool
  | [] => true
  | .dat _ :: rs => allD rs
  | _ => false
def depS : Nat := 8
/-- a call whose arguments are seen as data -/
def pureF (m : FM) (rs : List R) (S : Sto) : Out R := match rs.mapM (snap S depS) with
  | none => .stuck
  | some ds => match m (ds.map .dat) [] with
    | .ok r S' => match snap S' depS r with
      | some d => if (allD rs || free d) = true then .ok (.dat d) S else .stuck
      | none => .stuck
    | .exc c f _ => if (allD rs || freeO f) = true then .exc c f S else .stuck
    | .stuck => .stuck
section
variable {T : Tb} {β : List Addr} {α : List (Option Addr)} {H : Hp} {S : Sto} {W : WX} {σ : L2.St}
theorem allD_eq : ∀ {rs : List R} {ds : List PyData} {n : Nat}, allD rs = true → rs.mapM (snap S n) = some ds → rs = ds.map .dat
  | [], ds, n, _, e => by rw [List.mapM_nil] at e; cases e; rfl
  | .dat d :: rs, ds, n, h, e => by
    rw [List.mapM_cons] at e
    have e1 : snap S n (.dat d) = some d := by unfold snap; rfl
    rw [e1] at e
    cases e2 : rs.mapM (snap S n) with
    | none => rw [e2] at e; cases e
    | some ds' =>
      rw [e2] at e
      cases e
      rw [allD_eq (rs := rs) h e2]
      rfl
  | .obj _ :: _, _, _, h, _ => by cases h
  | .ro _ :: _, _, _, h, _ => by cases h
  | .err _ _ :: _, _, _, h, _ => by cases h
  | .lam _ _ :: _, _, _, h, _ => by cases h
theorem blk_nil (β : List Addr) : blk β [] = β := by unfold blk live; simp
theorem Rl.nil (hb : ∀ b ∈ β, Bd (H b)) (ht : LamX.Tabs T.tabs H) : Rl T β [] [] H where
  len := rfl
  inj := fun k j a h => by simp at h
  off := fun a h => by unfold live at h; simp at h
  bt := hb
  mt := fun a h => by unfold live at h; simp at h
  cell := fun k rs h => by simp at h
  tab := ht
theorem Ext.fromNil {α' : List (Option Addr)} {H' : Hp} (e : Ext [] H α' H') : SmN H H' := ⟨fun b o nt h => e.keep b o (by unfold live; simp) nt h, e.stay⟩
theorem xd_not {f : Str} {v : V} : ¬ Mut (some (.xd [(f, v)])) := fun z => z
/-- soundness -/
theorem pure_ok {m : FM} {rs : List R} {vs : List V} {Q : VK} (Rr : Rl T β α S H) (hv : Vrs T β α H rs vs) (h : PostG T β W (Vr T β) σ (pureF m rs S) α H Q) :
    ∃ (β' : List Addr) (ds : List PyData), Rl T β' [] [] H ∧ Vrs T β' [] H (ds.map .dat) vs ∧ PostG T β' (fun cls d _ H' => WE W σ cls d H') (Vr T β') [] (m (ds.map .dat) []) [] H Q := by
  unfold pureF at h
  cases e : rs.mapM (snap S depS) with
  | none => rw [e] at h; exact h.elim
  | some ds =>
    rw [e] at h
    dsimp only at h
    by_cases hall : allD rs = true
    · have er := allD_eq hall e
      subst er
      have hR : Rl T (blk β α) [] [] H := .nil (fun b q => by
        rcases List.mem_append.mp q with z | z
        · exact Rr.bt b z
        · exact (Rr.mt b z).bd) Rr.tab
      have hD : DqAll T.K (hid (blk (blk β α) []) H) vs ds := by rw [blk_nil]; exact Vrs.dq hv
      refine ⟨blk β α, ds, hR, DqAll.vrs hD, ?_⟩
      cases q : m (ds.map .dat) [] with
      | stuck => rw [q] at h; exact h.elim
      | exc c f S' =>
        rw [q] at h
        dsimp only at h
        rw [hall, Bool.true_or, if_pos rfl] at h
        intro α' H' cls d ex R' hx
        have sm := ex.fromNil
        refine h α H' cls d (Ext.sm sm) (Rr.sm sm R'.tab) ⟨hx.1, fun z ez => ?_⟩
        obtain ⟨dd, v, e1, e2, e3⟩ := hx.2 z ez
        have sub : Same (hid (blk (blk β α) α') H') (hid (blk β α) H') := fun a o h => by
          obtain ⟨n, q, nt⟩ := hid_some.mp h
          exact hid_some.mpr ⟨fun z => n (List.mem_append_left _ z), q, nt⟩
        exact ⟨dd, v, e1, sub _ _ e2, Dq.same sub e3⟩
      | ok r S' =>
        rw [q] at h
        dsimp only at h
        cases e2 : snap S' depS r with
        | none => rw [e2] at h; exact h.elim
        | some d =>
          rw [e2] at h
          dsimp only at h
          rw [hall, Bool.true_or, if_pos rfl] at h
          intro α' H' v ex R' hx
          have sm := ex.fromNil
          exact h α H' v (Ext.sm sm) (Rr.sm sm R'.tab) (snap_dq R' _ _ _ _ hx e2)
    · have hn : allD rs = false := by
        cases z : allD rs with
        | true => exact absurd z hall
        | false => rfl
      have hD : DqAll T.K (hid (blk β []) H) vs ds := by rw [blk_nil]; exact mapM_all (fun r v d => snap_dq Rr _ r v d) hv e
      refine ⟨β, ds, .nil Rr.bt Rr.tab, DqAll.vrs hD, ?_⟩
      cases q : m (ds.map .dat) [] with
      | stuck => rw [q] at h; exact h.elim
      | exc c f S' =>
        rw [q] at h
        dsimp only at h
        rw [hn, Bool.false_or] at h
        split at h
        · rename_i hf
          intro α' H' cls d ex R' hx
          have sm := ex.fromNil
          refine h α H' cls d (Ext.sm sm) (Rr.sm sm R'.tab) ⟨hx.1, fun z ez => ?_⟩
          obtain ⟨dd, v, e1, e2, e3⟩ := hx.2 z ez
          have sub : Same (hid (blk β α') H') (hid β H') := fun a o h => by
            obtain ⟨n, q, nt⟩ := hid_some.mp h
            exact hid_some.mpr ⟨fun z => n (List.mem_append_left _ z), q, nt⟩
          subst ez
          exact ⟨dd, v, e1, hid_of (Rr.sm sm R'.tab) (sub _ _ e2) xd_not, Dq.free (Rr.sm sm R'.tab) (Dq.same sub e3) hf⟩
        · exact h.elim
      | ok r S' =>
        rw [q] at h
        dsimp only at h
        cases e2 : snap S' depS r with
        | none => rw [e2] at h; exact h.elim
        | some d =>
          rw [e2] at h
          dsimp only at h
          rw [hn, Bool.false_or] at h
          split at h
          · rename_i hf
            intro α' H' v ex R' hx
            have sm := ex.fromNil
            exact h α H' v (Ext.sm sm) (Rr.sm sm R'.tab) (Dq.free (Rr.sm sm R'.tab) (snap_dq R' _ _ _ _ hx e2) hf)
          · exact h.elim
end
section
variable {X : Cx} {T : Tb} {W : WX} {k : Nat} {f : Addr} {fd : FuncData} {ps : List Str} {x : Str} {p pos : Pos} {e : Expr} {es : List Expr} {ms : EMs} {m : FM}
theorem args_go {g : List R → Sto → Out R} {σ : L2.St} {H : Hp} {Q : VK} {P : List V → Hp → Prop} (h : tE T W (eArgs g ms) σ H Q)
    (k : ∀ β α S rs vs H1, Rl T β α S H1 → Vrs T β α H1 rs vs → PostG T β W (Vr T β) σ (g rs S) α H1 Q → P vs H1) : tA T W ms σ H P := by
  obtain ⟨β, α, S, ρ, hR, hE, h⟩ := h
  refine ⟨β, α, S, ρ, hR, hE, ?_⟩
  have h1 := PostG.bind (rel := Vrs T β) (show PostG T β W (Vr T β) σ ((ms ρ S).bind fun x S1 => g x S1) α H Q from h)
  cases q : ms ρ S with
  | stuck => rw [q] at h1; exact h1.elim
  | exc k f S1 => rw [q] at h1; exact h1
  | ok x S1 =>
    rw [q] at h1
    intro α1 H1 v e1 R1 V1
    obtain ⟨α1', S1', x', ex, e1', R1', V1', h2⟩ := h1 α1 H1 v e1 R1 V1
    cases ex
    exact k β α1' S1 x v H1 R1' V1' h2
def needN (n : Nat) (g : List R → Sto → Out R) (rs : List R) (S : Sto) : Out R := if rs.length = n then g rs S else .stuck
theorem need_of {n : Nat} {β : List Addr} {σ : L2.St} {α : List (Option Addr)} {H : Hp} {S : Sto} {g : List R → Sto → Out R} {rs : List R} {Q : VK} (h : PostG T β W (Vr T β) σ (needN n g rs S) α H Q) : rs.length = n ∧ PostG T β W (Vr T β) σ (g rs S) α H Q := by
  unfold needN at h
  split at h
  · rename_i hl
    exact ⟨hl, h⟩
  · exact h.elim
end
/-- g is a way to call m -/
def Via (T : Tb) (g m : FM) : Prop := ∀ (W : WX) (σ : L2.St) (Q : VK) (β : List Addr) (α : List (Option Addr)) (S : Sto) (rs : List R) (vs : List V) (H : Hp), Rl T β α S H → Vrs T β α H rs vs → PostG T β W (Vr T β) σ (g rs S) α H Q →
  ∃ β' α' S' rs', Rl T β' α' S' H ∧ Vrs T β' α' H rs' vs ∧ PostG T β' (fun cls d _ H' => WE W σ cls d H') (Vr T β') [] (m rs' S') α' H Q
theorem via_ref {T : Tb} {m : FM} : Via T m m := fun W σ Q β α S rs vs H hR hV h => ⟨β, α, S, rs, hR, hV, post_turn h⟩
theorem via_pure {T : Tb} {m : FM} : Via T (pureF m) m := fun W σ Q β α S rs vs H hR hV h => by
  obtain ⟨β', ds, R', V', h3⟩ := pure_ok hR hV h
  exact ⟨β', [], [], _, R', V', h3⟩

/-- by these places -/
def permL {α : Type} (π : List Nat) (xs : List α) : List α := π.filterMap (xs[·]?)
theorem perm_pair {α β : Type} {P : α → β → Prop} {xs : List α} {ys : List β} (h : Paired P xs ys) (g : ∀ {i : Nat} {x : α}, xs[i]? = some x → ∃ y, ys[i]? = some y ∧ P x y) (hn : xs.length = ys.length) : ∀ π : List Nat, Paired P (permL π xs) (permL π ys)
  | [] => .nil
  | i :: π => by
    unfold permL
    rw [List.filterMap_cons, List.filterMap_cons]
    cases e : xs[i]? with
    | none =>
      have e2 : ys[i]? = none := by
        rw [List.getElem?_eq_none_iff] at e ⊢
        omega
      rw [e2]
      exact perm_pair h g hn π
    | some x =>
      obtain ⟨y, e1, e2⟩ := g e
      rw [e1]
      exact .cons e2 (perm_pair h g hn π)
theorem perm_vals {vs : List V} {us : List Value} (h : Vals vs us) (π : List Nat) : Vals (permL π vs) (permL π us) := by
  induction π with
  | nil => exact .nil
  | cons i π ih =>
    unfold permL
    rw [List.filterMap_cons, List.filterMap_cons]
    cases e : vs[i]? with
    | none =>
      have e2 : us[i]? = none := by
        rw [List.getElem?_eq_none_iff] at e ⊢
        rw [← h.length]
        exact e
      rw [e2]
      exact ih
    | some x =>
      obtain ⟨y, e1, e2⟩ := h.get e
      rw [e1]
      exact .cons e2 ih

section
variable {X : Cx} {T : Tb} {W : WX} {k : Nat} {f : Addr} {fd : FuncData} {ps : List Str} {x : Str} {p pos kpos : Pos} {e : Expr} {es : List Expr} {kws : List Keyword} {ms : EMs} {me : EM} {m g : FM} {n : Nat} {nm : Option Str}
/-- f(e, ..) -/
theorem tr_call (v : Via T g m) (F : FnG X.prog X.w X.K X.mg X.base k f fd ps (spF T n m)) (hr : RoomG k X.A) (hg : Gl X x) (hm : X.mg x = some (.ref f)) (hk : PySem.W.keepIn X.K (.ref f) = true) (hb : Binds X.K fd ps []) (tk : Takes X W)
    (ha : PA X (e :: es) (tA T W ms)) (hdb : (x == ("__debug__" : Str)) = false := by decide) (he : starEach (e :: es) X.env = (false, eval e X.env) :: starEach es X.env := by rfl) (hpl : (backTo pos (starEach es X.env)).any (·.1) = false := by rfl) :
    PE X (.Call (.Name x p) (e :: es) [] pos) (tE T W (eArgs (needN n g) ms)) :=
by
  refine ⟨fun pins s σ H Q I h => wpAny_Call_Name_kw (ld_glob I hg hm ?_ hdb)⟩
  have h2 : tA T W ms σ H fun vs H1 => spF T n m vs H1 Q (WE W σ) := args_go h fun β α S rs vs H1 hR hV h1 => by
    obtain ⟨hl, h3⟩ := need_of h1
    exact ⟨by rw [← hV.length]; exact hl, v W σ Q β α S rs vs H1 hR hV h3⟩
  refine PySem.W.callWith_K (h₀ := X.base) I.ok.mod.kin hk (thn (ha.run pos pins s σ H _ I h2) fun us s1 ⟨vs, H1, I1, rv, q⟩ => ⟨I1.kIn, ?_⟩) he hpl
  have hl : us.length = ps.length := by rw [← rv.length]; exact F.len _ _ _ _ q
  have b := hb s1 us I1.kIn (by rw [List.append_nil]; exact hl)
  rw [List.append_nil] at b
  exact run_G (args := ⟨us, []⟩) F hr tk I1 b rv q
def dataV (T : Tb) (vs : List V) (ds : List PyData) : Prop := ∀ H, DqAll T.K H vs ds
/-- .. and what lacks has a default -/
theorem tr_callD {dvs : List V} {us : List Value} {dd : List PyData} (v : Via T g m) (F : FnG X.prog X.w X.K X.mg X.base k f fd ps (spF T n m)) (hr : RoomG k X.A) (hg : Gl X x) (hm : X.mg x = some (.ref f)) (hk : PySem.W.keepIn X.K (.ref f) = true) (hb : Binds X.K fd ps us) (hd : Vals dvs us)
    (hdd : dataV T dvs dd) (tk : Takes X W)
    (ha : PA X (e :: es) (tA T W ms)) (hdb : (x == ("__debug__" : Str)) = false := by decide) (he : starEach (e :: es) X.env = (false, eval e X.env) :: starEach es X.env := by rfl) (hpl : (backTo pos (starEach es X.env)).any (·.1) = false := by rfl) :
    PE X (.Call (.Name x p) (e :: es) [] pos) (tE T W (eArgs (fun rs => needN n g (rs ++ dd.map .dat)) ms)) :=
by
  refine ⟨fun pins s σ H Q I h => wpAny_Call_Name_kw (ld_glob I hg hm ?_ hdb)⟩
  have h2 : tA T W ms σ H fun vs H1 => spF T n m (vs ++ dvs) H1 Q (WE W σ) := args_go h fun β α S rs vs H1 hR hV h1 => by
    obtain ⟨hl, h3⟩ := need_of h1
    have hV2 : Vrs T β α H1 (rs ++ dd.map .dat) (vs ++ dvs) := hV.append (DqAll.vrs (hdd _))
    exact ⟨by rw [← hV2.length]; exact hl, v W σ Q β α S _ _ H1 hR hV2 h3⟩
  refine PySem.W.callWith_K (h₀ := X.base) I.ok.mod.kin hk (thn (ha.run pos pins s σ H _ I h2) fun ws s1 ⟨vs, H1, I1, rv, q⟩ => ⟨I1.kIn, ?_⟩) he hpl
  have rv2 := rv.append hd
  have hl : (ws ++ us).length = ps.length := by rw [← rv2.length]; exact F.len _ _ _ _ q
  exact run_G (args := ⟨ws, []⟩) F hr tk I1 (hb s1 ws I1.kIn hl) rv2 q
/-! ### by names -/
theorem acons_le {σ : L2.St} {H : Hp} {Q : List V → Hp → Prop} (h : tA T W (aCons me ms) σ H Q) : tCons (tE T W me) (tA T W ms) σ H Q := by
  obtain ⟨β, α, S, ρ, hR, hE, h⟩ := h
  refine ⟨β, α, S, ρ, hR, hE, ?_⟩
  have h1 := PostG.bind (rel := Vr T β) (show PostG T β W (Vrs T β) σ ((me ρ S).bind fun x S1 => (ms ρ S1).bind fun xs S2 => .ok (x :: xs) S2) α H Q from h)
  cases q : me ρ S with
  | stuck => rw [q] at h1; exact h1.elim
  | exc k f S1 => rw [q] at h1; exact h1
  | ok x S1 =>
    rw [q] at h1
    intro α1 H1 v e1 R1 V1
    obtain ⟨α1', S1', x', ex, e1', R1', V1', h2⟩ := h1 α1 H1 v e1 R1 V1
    cases ex
    refine ⟨β, α1', S1, ρ, R1', hE.ext e1', ?_⟩
    have h3 := PostG.bind (rel := Vrs T β) h2
    cases q2 : ms ρ S1 with
    | stuck => rw [q2] at h3; exact h3.elim
    | exc k f S2 => rw [q2] at h3; exact h3
    | ok y S2 =>
      rw [q2] at h3
      intro α2 H2 w e2 R2 V2
      obtain ⟨α2', S2', y', ey, e2', R2', V2', h4⟩ := h3 α2 H2 w e2 R2 V2
      cases ey
      exact h4 α2' H2 (v :: w) Ext.refl R2' (.cons (V1'.ext e2') V2')
theorem tk_nil : PK X [] (tA T W aNil) := ⟨fun pos pins s σ H Q I ⟨_, _, _, _, hR, _, h⟩ => pk_nil.run pos pins s σ H Q I (h _ H [] Ext.refl hR .nil)⟩
theorem tk_cons (ha : PE X e (tE T W me)) (hr : PK X kws (tA T W ms)) : PK X (⟨nm, e, kpos⟩ :: kws) (tA T W (aCons me ms)) :=
  ⟨fun pos pins s σ H Q I h => (pk_cons ha hr).run pos pins s σ H Q I (acons_le h)⟩
/-- how names bind: ks the names in the call's order, π where the parameters stand in it -/
def BindsK (K : PySem.W.Frag) (fd : FuncData) (ps ks : List Str) (π : List Nat) : Prop := ∀ (s : Shared) (ws : List Value), K.In s.heap → ws.length = ks.length → BindsTo s fd ⟨[], ks.zip ws⟩ (ps.zip (permL π ws))
/-- f(k = e, ..) -/
theorem tr_callK (ks : List Str) (π : List Nat) (v : Via T g m) (F : FnG X.prog X.w X.K X.mg X.base k f fd ps (spF T n m)) (hr : RoomG k X.A) (hg : Gl X x) (hm : X.mg x = some (.ref f)) (hk : PySem.W.keepIn X.K (.ref f) = true) (hb : BindsK X.K fd ps ks π) (tk : Takes X W) (hn : ks.length = n)
    (hkw : PK X kws (tA T W ms)) (hall : (backToKw pos (keywordEach kws X.env)).all (·.1.isSome) = true := by rfl) (hks : (backToKw pos (keywordEach kws X.env)).filterMap (·.1) = ks := by rfl)
    (hdb : (x == ("__debug__" : Str)) = false := by decide)
    (hpl : ((backTo pos (starEach [] X.env)).any (·.1) || (backToKw pos (keywordEach kws X.env)).any (·.1.isNone)) = false := by rfl) :
    PE X (.Call (.Name x p) [] kws pos) (tE T W (eArgs (needN n fun rs => needN n g (permL π rs)) ms)) := by
  refine ⟨fun pins s σ H Q I h => ?_⟩
  refine wpAny_Call_Name_kw (ld_glob I hg hm ?_ hdb)
  have h2 : tA T W ms σ H fun vs H1 => vs.length = n ∧ spF T n m (permL π vs) H1 Q (WE W σ) := args_go h fun β α S rs vs H1 hR hV h1 => by
    obtain ⟨hl, h2⟩ := need_of h1
    obtain ⟨hl2, h3⟩ := need_of h2
    have hV2 : Vrs T β α H1 (permL π rs) (permL π vs) := perm_pair hV (fun q => hV.get q) hV.length π
    exact ⟨by rw [← hV.length]; exact hl, by rw [← hV2.length]; exact hl2, v W σ Q β α S _ _ H1 hR hV2 h3⟩
  refine PySem.W.callWith_KW0 (h₀ := X.base) I.ok.mod.kin hk hall (thn (hkw.run pos pins s σ H _ I h2) fun ws s2 ⟨zs, H2, I2, rz, hz, q2⟩ => ⟨I2.kIn, ?_⟩) hpl
  rw [hks]
  have r2 := perm_vals rz π
  exact run_G (args := ⟨[], ks.zip ws⟩) F hr tk I2 (hb s2 ws I2.kIn (by rw [← rz.length, hn]; exact hz)) r2 q2
end
end Pev
/-! Pev, twelfth part: own errors whose __init__ begins with super().__init__("..") and keeps a field. -/
namespace Pev
open PySem PySem.Spec PyProof.Rows PySem.W PySem.Calls PySem.ESX PySem.HandSPX

/-! ### the text of such an __init__ -/
def bodyE (Fd msg : Str) (p : Nat → Pos) : List Stmt :=
  [.Expr (.Call (.Attribute (.Call (.Name "super" (p 0)) [] [] (p 1)) "__init__" (p 2)) [.Constant (.str msg) 0 (p 3)] [] (p 4)) (p 5),
   .Assign [.Attribute (.Name "self" (p 6)) Fd (p 7)] (.Name Fd (p 8)) (p 9)]
/-- how the call super().__init__("..") is done: the places stand on one line -/
def OneLine (msg : Str) (p : Nat → Pos) : Prop := ∀ env : Env, ∃ pl : Sem Bool, eval (.Call (.Attribute (.Call (.Name "super" (p 0)) [] [] (p 1)) "__init__" (p 2)) [.Constant (.str msg) 0 (p 3)] [] (p 4)) env =
  attributeBase (.Call (.Name "super" (p 0)) [] [] (p 1)) "__init__" env (eval (.Call (.Name "super" (p 0)) [] [] (p 1)) env) >>= fun ov => standAt (p 2).atName >>= fun _ => holding [ov] (getMethod ov "__init__" pl) >>= fun fx =>
    callWith (p 4) fx.1 fx.2 (backTo (p 4) (starEach [.Constant (.str msg) 0 (p 3)] env)) []
/-- what the written part says of the error class at C, whose base is at B, whose __init__ is at fI and keeps the field Fd -/
structure ErrTxt (K : Frag) (P : Program) (mg : Str → Option Value) (C B fI : Addr) (Fd : Str) : Prop where
  cls : ∃ nm q N bs sn sub ab col dd k0 k1 k2 k3 k5, K.lookup C = some (excClassObj nm q C N bs (.ref B :: exTail) true sn sub ab col dd k0 k1 k2 k3 k5 "Exception.__new__")
  sa : findIn K (.ref C) "__setattr__" = some (some (.builtin "object.__setattr__"))
  ga : findIn K (.ref C) "__getattribute__" = some (some (.builtin "BaseException.__getattribute__"))
  gg : findIn K (.ref C) "__getattr__" = some none
  noN : findIn K (.ref C) Fd = some none
  iC : findIn K (.ref C) "__init__" = some (some (.ref fI))
  tC : typeIn K (.ref fI) = some (.type "function")
  kC : keepIn K (.ref C) = true
  exC : subIn K (.ref C) (.type "BaseException") = some true
  tyC : typeIn K (.ref C) = some (.type "type")
  hdC : hasDictIn K C = true
  su : mg "super" = none
  op : nsIn K cStatics "thirdparty.any" = some none
  top : (P.main.scope.names.lookup ("super" : Str)).isSome = false
  ne : (Fd == ("self" : Str)) = false
  nd : (Fd == ("__debug__" : Str)) = false
  sI : ks_superIn K C C "__init__" = some (some (.builtin "Exception.__init__"))
  fn : ∃ (oc : Value) (od : Option Addr) (osl : Array (Option Value)) (fd : FuncData) (msg : Str) (p : Nat → Pos) (cda cc : Addr) (vs : Array Value) (file : Str) (tf : Tok) (ccl cl : Value) (cdd cld : Option Addr) (ccs csl : Array (Option Value)) (ar : Arg),
    K.lookup fI = some ⟨oc, od, .func fd, osl⟩ ∧ codeIn K fd.code fd.qualname = true ∧ fd.body = .stmts (bodyE Fd msg p) ∧ fd.scope.kind = .function ∧ fd.scope.isCoroutine = false ∧ fd.scope.isGenerator = false ∧
    (∀ x ∈ fd.scope.names, x.2 ≠ .cell) ∧ fd.scope.names.lookup ("self" : Str) = some .local ∧ fd.scope.names.lookup Fd = some .local ∧ fd.scope.names.lookup ("super" : Str) = some .globalImplicit ∧ fd.scope.names.lookup ("__class__" : Str) = some .free ∧
    fd.globals = mainGlobals ∧ fd.builtins = builtinsNs ∧ fd.closure = [(("__class__" : Str), cc)] ∧ fd.code = .ref cda ∧ (fd.params.posonlyargs ++ fd.params.args).head? = some ar ∧ ar.arg = "self" ∧
    K.lookup cda = some ⟨ccl, cdd, .fields vs, ccs⟩ ∧ vs[2]? = some (.str file tf) ∧ ((P.main.file : Str) == file) = true ∧ K.lookup cc = some ⟨cl, cld, .cell (some (.ref C)), csl⟩ ∧
    OneLine msg p ∧ (∀ x v : Value, bindArgs fd ⟨[x, v], []⟩ = pure [(("self" : Str), x), (Fd, v)]) ∧ (∀ x v : Value, bindArgs fd ⟨[x], [(Fd, v)]⟩ = pure [(("self" : Str), x), (Fd, v)])
theorem tail_typ (B : Addr) (X : String) : (Value.ref B :: exTail).contains (.type X) = exTail.contains (.type X) := rfl
theorem lead2 {C B : Addr} (b : Value) (h : exTail.contains b = true) : (Value.ref C :: Value.ref B :: exTail).contains b = true := by
  rw [List.contains_cons, List.contains_cons, h, Bool.or_true, Bool.or_true]
theorem mro2 {K : Frag} {C B : Addr} {cd : ClassData} (hcd : clsIn K C = some cd) (hm : cd.mro = .ref C :: .ref B :: exTail) {b : Value} (h : (Value.ref C :: Value.ref B :: exTail).contains b = true) : mroIn K C b = some true := by
  unfold mroIn
  rw [hcd, Option.bind_some, hm]
  rw [if_neg (show ¬ ((Value.ref C :: Value.ref B :: exTail).isEmpty = true) from fun z => Bool.false_ne_true z), h]
section
open Builtin Builtin.ObjectAttr
variable {prog : Program} {w : World} {A : Around} {R : Result → Shared → Prop} {hp : Heap} {g : Array GenState} {d : Drawn} {t : Nat} {os : OsState}
/-- a field is laid on an exception that has none yet -/
theorem osa2 {K : Frag} {name : Str} {tk : Tok} {v : Value} {x C B : Addr} {fv : Array Value} {cd : ClassData}
    (X : K.In hp) (hx : hp.get? x = some { cls := .ref C, data := .fields fv }) (hcd : clsIn K C = some cd) (hm : cd.mro = .ref C :: .ref B :: exTail) (hh : cd.hasDict = true) (ha : findIn K (.ref C) name = some none)
    (hq : ∀ h' tk' dx, (∀ b o, b ≠ x → hp.get? b = some o → h'.get? b = some o) → hp.objs.size ≤ dx → dx ≠ x → h'.get? x = some { cls := .ref C, dict := some dx, data := .fields fv } →
      h'.Ns1 dx (fun y => if y = name then some v else none) → R (.ok (.ret .none)) ⟨h', g, d, tk', os⟩) :
    codeAny (model prog w) A (.call (.builtin "object.__setattr__") ⟨[.ref x, .str name tk, v], []⟩) R ⟨hp, g, d, t, os⟩ := by
  have I : InstAt hp x { cls := .ref C, data := .fields fv } C none := ⟨hx, rfl, rfl, trivial⟩
  have SF := F.store_object
  have xs : x ≠ hp.objs.size := Nat.ne_of_lt (Heap.lt_size hx)
  have ob : Looks (model prog w) hp (isInstance (.ref x) (.type "object")) true := I.type.andThen (looks_mroIn X (mro2 hcd hm (lead2 _ (by decide +kernel))))
  refine codeAny_call_builtin SF.slot.plain SF.entry
    (@check_slot (model prog w) _ _ ⟨hp, g, d, t, os⟩ "object.__setattr__" "object" "__setattr__" (.ref x) [.str name tk, v] [] _ SF.kind SF.split ob (SF.args (.ref x) (.str name tk) v) ?_)
  have mr : Looks (model prog w) hp (mroOf (.ref C)) cd.mro := (looks_clsIn X hcd).andThen .now
  have st : Looks (model prog w) hp (storeTaker? none) none := .now
  have pas : refuseLoop (.ref x) "__setattr__" cd.mro = pure () := by
    rw [hm, refuseLoop_ref]
    rw [refuseLoop_ref]
    exact F.store_Exception.passes _
  rw [osa_eq, refuse_eq]
  refine wpAny_bind (wpAny_bind (I.type.at (wpAny_bind (mr.at ?_))))
  rw [pas]
  refine wpAny_pure (wpAny_bind (I.type.at (wpAny_bind ((looks_findIn X ha).at (wpAny_bind (st.at ?_))))))
  have cl : Looks (model prog w) hp (classData C) cd := looks_clsIn X hcd
  obtain ⟨nm, bs, mro, ns, qn, hd, sn, sb, ab, col, del⟩ := cd
  dsimp only at hh
  subst hh
  unfold storeInOwnDict ownDictForStores
  repeat (first | with_reducible refine store_in_new ?_ ?_ | with_reducible refine wpAny_loadPart_at hx ?_ | with_reducible refine cl.at ?_ | wp_step)
  · exact ⟨_, #[], _, (Heap.get?_update_ne _ _ _ _ xs.symm).trans (Heap.get?_push_at rfl rfl), rfl, fun e he => absurd he (by simp), fun _ => rfl⟩
  · intro h' tk' hn' hs
    have hx₁ : (hp.push { cls := .type "dict", data := .dict #[] }).get? x = some { cls := .ref C, data := .fields fv } := Heap.get?_push_of_some _ hx
    refine hq h' tk' hp.objs.size (fun b o hb ho => (hs.2 b (Nat.ne_of_lt (Heap.lt_size ho))).trans ((Heap.get?_update_ne _ _ _ _ hb).trans (Heap.get?_push_of_some _ ho))) (Nat.le_refl _) xs.symm ?_ hn'
    exact (hs.2 x xs).trans (Heap.get?_update_self _ hx₁ rfl)
end
/-- what __init__ leaves of a fresh exception at x -/
structure Inited (h h' : Heap) (x C dx : Addr) (Fd : Str) (v : Value) : Prop where
  keep : ∀ b o, b ≠ x → h.get? b = some o → h'.get? b = some o
  obj : ∃ t1 : Addr, h'.get? x = some { cls := .ref C, dict := some dx, data := .fields #[.ref t1, .none, .none, .none, .bool false, .none] }
  dbig : h.objs.size ≤ dx
  dne : dx ≠ x
  ns : h'.Ns1 dx (fun y => if y = Fd then some v else none)
section
variable {prog : Program} {w : World} {A : Around} {R : Result → Shared → Prop} {s : Shared} {K : Frag} {mg : Str → Option Value} {C B fI : Addr} {Fd : Str}
theorem err_init (T : ErrTxt K prog mg C B fI Fd) {x t0 : Addr} {v : Value} {args : Args} (hargs : args = ⟨[.ref x, v], []⟩ ∨ args = ⟨[.ref x], [(Fd, v)]⟩) (X : K.In s.heap) (hlim : s.heap.NoLimit) (hG : s.heap.Ns mainGlobals mg) (hB : ∃ mb, s.heap.Ns builtinsNs mb ∧ mb "super" = some (.type "super"))
    (hx : s.heap.get? x = some (excO C t0)) (hnx : K.lookup x = none) (hroom : A.depth < recursionLimit) (hq : ∀ h' tk dx, Inited s.heap h' x C dx Fd v → R (.ok (.ret .none)) { s with heap := h', toks := tk }) :
    codeAny (model prog w) A (.call (.ref fI) args) R s := by
  obtain ⟨oc, od, osl, fd, msg, p, cda, cc, vs, file, tf, ccl, cl, cdd, cld, ccs, csl, ar, ho, hcd, hbody, hk, hco, hge, hnc, hself, hF, hsu, hcls, hgl, hbl, hclo, hco2, har, hars, hcode, hvs, hfile, hcell, hone, hbind1, hbind2⟩ := T.fn
  have hbind : bindArgs fd args = pure [(("self" : Str), .ref x), (Fd, v)] := by
    rcases hargs with rfl | rfl
    · exact hbind1 _ _
    · exact hbind2 _ _
  obtain ⟨nm, q, N, bs, sn, sub, ab, col, dd, k0, k1, k2, k3, k5, hC⟩ := T.cls
  have hcl : clsIn K C = some { name := nm, bases := bs, mro := .ref C :: .ref B :: exTail, ns := N, qualname := q, hasDict := true, slotNames := sn, subclasses := sub, abstract := ab, collection := col, hasDel := false } := by unfold clsIn; rw [hC] <;> rfl
  refine ks_codeAny_call_defAt (fd := fd) (binds := [(("self" : Str), .ref x), (Fd, v)]) hroom (X _ _ ho) rfl hlim (codeRec_of X hcd) hbody (BindsTo.of_eq hbind) hnc ?_ (fun h₁ hns hk₁ => ?_) hco hge hk
  · intro y hy
    rcases List.mem_cons.mp hy with e | hy
    · subst e; exact hself
    · rcases List.mem_cons.mp hy with e | hy
      · subst e; exact hF
      · cases hy
  have nf : Fd ≠ ("self" : Str) := fun e => by have := T.ne; rw [e] at this; simp at this
  have b1 : (([(("self" : Str), Value.ref x), (Fd, v)] : List (Str × Value)).reverse.lookup ("self" : Str)) = some (.ref x) := by
    have q : (("self" : Str) == Fd) = false := by simpa using fun e => nf e.symm
    simp [List.lookup, q]
  have b2 : (([(("self" : Str), Value.ref x), (Fd, v)] : List (Str × Value)).reverse.lookup Fd) = some v := by simp [List.lookup]
  have X₁ : K.In h₁ := X.keeps hk₁
  have hx₁ := hk₁ _ _ hx
  have ek : ∀ y, (callEnv fd s.heap.objs.size fI).kindOf y = fd.scope.names.lookup y := fun _ => rfl
  have hL : s.heap.objs.size ≠ x := Nat.ne_of_gt (Heap.lt_size hx)
  -- super().__init__(..)
  have hint : interactive (callEnv fd s.heap.objs.size fI) = false := by
    show (fd.scope.kind == .module && _) = false
    rw [hk]
    rfl
  obtain ⟨pl, he⟩ := hone (callEnv fd s.heap.objs.size fI)
  refine ks_wpAt_execs_cons (ks_wpAt_Expr_any (ks_wpAt_MethodCall (pl := pl) ?_ he) hint (by rfl))
  obtain ⟨mb, hB1, hB2⟩ := hB
  refine ks_wpAt_super_base (env := callEnv fd s.heap.objs.size fI) ((ek _).trans hsu) ((ek _).trans hcls) rfl rfl (X₁ _ _ ho) rfl har (show (callEnv fd s.heap.objs.size fI).code = _ from hco2) (X₁ _ _ hcode) rfl hvs hfile T.top ?_
  refine ks_loadName_global hk ((ek _).trans hsu) (loadGlobal_builtin (env := callEnv fd s.heap.objs.size fI) (mg := mg) (mb := mb) ?_ T.su ?_ hB2 ⟨rfl, ?_⟩)
  · show h₁.Ns fd.globals mg
    rw [hgl]; exact hG.keeps hk₁
  · show h₁.Ns fd.builtins mb
    rw [hbl]; exact hB1.keeps hk₁
  have hcc : (callEnv fd s.heap.objs.size fI).cells.lookup ("__class__" : Str) = some cc := by
    show fd.closure.lookup ("__class__" : Str) = some cc
    rw [hclo]
    rfl
  refine wpAny_loadName_free hk ((ek _).trans hcls) hcc ⟨_, X₁ _ _ hcell, rfl⟩ ?_
  rw [hars]
  refine wpAny_loadName_local hk ((ek _).trans hself) hns b1 ?_
  refine ks_wpAny_isType_cls (X₁ _ _ hC) rfl ⟨rfl, ?_⟩
  refine ks_wpAny_call_super (X₁ _ _ hC) rfl hx₁ rfl (fun c e => by cases e) (looks_mroIn X₁ (mro2 hcl rfl (by rw [List.contains_cons]; simp))) (fun h₂ e₂ k₂ => ?_)
  have X₂ : K.In h₂ := X₁.keeps k₂
  have hx₂ := k₂ _ _ hx₁
  have I₂ : InstAt h₂ x (excO C t0) C none := ⟨hx₂, rfl, rfl, trivial⟩
  have xC : x ≠ C := ks_ne X₂ I₂ hcl
  have sI := T.sI
  unfold ks_superIn at sI
  rw [hcl] at sI
  refine getMethod_super e₂ (looks_opaque X₂ T.op) (l₀ := .ref C :: .ref B :: exTail) ((looks_clsIn X₂ hcl).andThen .now) rfl X₂ sI xC rfl (I₂.type.andThen (looks_mroIn X₂ (mro2 hcl rfl (lead2 _ (by decide +kernel))))) ?_
  have k₃ : ∀ b o, h₁.get? b = some o → (h₂.push (bw x)).get? b = some o := fun b o e => Heap.get?_push_of_some _ (k₂ b o e)
  refine callWith_bound (x := x) ?_
  refine spliced_more (wpAny_Constant_str (spliced_none ?_))
  refine ⟨Heap.get?_push_at rfl rfl, ?_⟩
  refine call_bw (t0 := t0) (k₃ _ _ (X₁ _ _ hC)) (k₃ _ _ hx₁) (Heap.get?_push_at rfl rfl) (by rw [sizeLine_eq]; exact (by decide : 1 ≤ 16777216)) (fun h₄ t1 k₄ e₄ => ?_)
  -- self.F = Fd
  have k₅ : ∀ b o, b ≠ x → h₁.get? b = some o → h₄.get? b = some o := fun b o hb e => k₄ b o hb (k₃ b o e)
  have X₄ : K.In h₄ := fun a o e => k₅ a o (fun z => by rw [z, hnx] at e; cases e) (X₁ a o e)
  have n₄ : h₄.Ns s.heap.objs.size fun y => ([(("self" : Str), Value.ref x), (Fd, v)] : List (Str × Value)).reverse.lookup y := hns.at fun o q => k₅ _ _ hL q
  have hca : K.lookup C = some _ := hC
  show PySem.wpAt _ _ _ (execs _ _) _ _ _
  refine PySem.wpAt_of_wpAny (wpAny_execs_cons (plainObj_wpAny_Assign_Attribute ?_))
  refine ldL (env := callEnv fd s.heap.objs.size fI) (v := v) n₄ b2 (ldL (env := callEnv fd s.heap.objs.size fI) (v := .ref x) n₄ b1 ?_ hk ((ek _).trans hself)) hk ((ek _).trans hF) T.nd
  refine set_plain X₄ (ox := excO C t1) (od := none) ⟨e₄, rfl, rfl, trivial⟩ T.sa ?_
  refine osa2 X₄ e₄ hcl rfl rfl T.noN (fun h₆ tk₆ dx k₆ dn dne hx₆ hn₆ => ?_)
  show wpAny _ _ (execs _ _) _ _ _
  have z : s.heap.objs.size < h₄.objs.size := n₄.lt
  exact wpAny_execs_nil (hq h₆ tk₆ dx ⟨fun b o hb e => k₆ b o hb (k₅ b o hb (hk₁ b o e)), ⟨t1, hx₆⟩, Nat.le_of_lt (Nat.lt_of_lt_of_le z dn), dne, hn₆⟩)
/-- a made one -/
structure Made (h h' : Heap) (e C d : Addr) (Fd : Str) (v : Value) : Prop where
  keep : ∀ b o, h.get? b = some o → h'.get? b = some o
  new : h.objs.size ≤ e
  obj : ∃ oe vs, h'.get? e = some oe ∧ oe.cls = .ref C ∧ oe.dict = some d ∧ oe.data = .fields vs ∧ vs[1]? = some .none
  dbig : h.objs.size ≤ d
  dne : d ≠ e
  ns : h'.Ns1 d (fun y => if y = Fd then some v else none)
theorem err_made (T : ErrTxt K prog mg C B fI Fd) {v : Value} (X : K.In s.heap) (hlim : s.heap.NoLimit) (hG : s.heap.Ns mainGlobals mg) (hB : ∃ mb, s.heap.Ns builtinsNs mb ∧ mb "super" = some (.type "super")) (hroom : A.depth + 1 < recursionLimit)
    (hq : ∀ h' tk e d, Made s.heap h' e C d Fd v → R (.ok (.ret (.ref e))) { s with heap := h', toks := tk }) :
    codeAny (model prog w) A (.call (.ref C) ⟨[v], []⟩) R s := by
  obtain ⟨nm, q, N, bs, sn, sub, ab, col, dd, k0, k1, k2, k3, k5, hC⟩ := T.cls
  obtain ⟨hp, g, dr, tk, os⟩ := s
  have up : ∀ b o, hp.get? b = some o → ((hp.push (kdv_tup [v])).push (excO C hp.objs.size)).get? b = some o := fun b o e => Heap.get?_push_of_some _ (Heap.get?_push_of_some _ e)
  have atx : ((hp.push (kdv_tup [v])).push (excO C hp.objs.size)).get? (hp.objs.size + 1) = some (excO C hp.objs.size) := by heap_get
  have notK : K.lookup (hp.objs.size + 1) = none := by
    cases e : K.lookup (hp.objs.size + 1) with
    | none => rfl
    | some o => exact absurd (Nat.lt_of_succ_lt (Heap.lt_size (show hp.get? (hp.objs.size + 1) = some o from X _ _ e))) (Nat.lt_irrefl _)
  refine call_own F.excBase_Exception (tail_typ B) (X _ _ hC) (looks_findIn X T.iC) (fun self => bind_fn X self T.tC) (by rw [sizeLine_eq]; exact (by decide : 1 ≤ 16777216)) ?_
  obtain ⟨mb, hB1, hB2⟩ := hB
  refine err_init (s := ⟨(hp.push (kdv_tup [v])).push (excO C hp.objs.size), g, dr, tk, os⟩) T (.inl rfl) (X.keeps up) (hlim.keeps up) (hG.keeps up) ⟨mb, hB1.keeps up, hB2⟩ atx notK (show A.depth + 1 < recursionLimit from hroom) fun h' tk' dx M => ?_
  have old : ∀ b o, hp.get? b = some o → h'.get? b = some o := fun b o e => M.keep b o (Nat.ne_of_lt (Nat.lt_succ_of_lt (Heap.lt_size e))) (up b o e)
  have z : hp.objs.size + 1 + 1 ≤ dx := by
    have q := M.dbig
    first
      | exact q
      | (rw [Heap.size_push, Heap.size_push] at q; exact q)
      | (simpa only [Heap.size_push] using q)
  obtain ⟨t1, ho⟩ := M.obj
  exact ⟨rfl, hq h' tk' (hp.objs.size + 1) dx ⟨old, Nat.le_succ _, ⟨_, _, ho, rfl, rfl, rfl, rfl⟩, Nat.le_trans (Nat.le_trans (Nat.le_succ _) (Nat.le_succ _)) z, M.dne, M.ns⟩⟩
end
end Pev
/-! Pev, thirteenth part: raise, try. -/
namespace Pev
open PySem PySem.Spec PyProof.Rows L2

theorem boot_super : bootBuiltins "super" = some (.type "super") := by first | rfl | decide +kernel | kernel_rfl
theorem relO_fld {Fd : Str} {v : V} {u : Value} (r : RelV v u) (f : Str) : RelO (List.lookup f [(Fd, v)]) (if f = Fd then some u else none) := by
  by_cases h : f = Fd
  · subst h
    rw [if_pos rfl]
    have q : List.lookup f [(f, v)] = some v := by simp [List.lookup]
    rw [q]
    exact r
  · rw [if_neg h]
    have w : (f == Fd) = false := by simpa using h
    have q : List.lookup f [(Fd, v)] = none := by simp [List.lookup, w]
    rw [q]
    trivial
section
variable {X : Cx} {C B fI : Addr} {Fd : Str}
def tMkE (C : Addr) (Fd : Str) (te : TE) : L2.St → Hp → XK → Prop := fun σ H Q => te σ H fun v H1 => ∀ d, H1 d = none → Q (.ref C) (some d) (upd H1 d (.xd [(Fd, v)]))
/-- C(e) -/
theorem pmk_err {x : Str} {a : Expr} {te : TE} {p pos : Pos} {k : Nat} (E : ErrTxt X.K X.prog X.mg C B fI Fd) (hr : RoomG k X.A) (ha : PE X a te) (hg : Gl X x) (hm : X.mg x = some (.ref C)) (hdb : (x == ("__debug__" : Str)) = false := by decide)
    (he : starEach (a :: []) X.env = (false, eval a X.env) :: starEach [] X.env := by rfl) (hpl : (backTo pos (starEach [] X.env)).any (·.1) = false := by rfl) : PMk X (.Call (.Name x p) [a] [] pos) (tMkE C Fd te) := by
  intro pins s σ H Q I h
  refine wpAny_Call_Name_kw (ld_glob I hg hm ?_ hdb)
  have h2 : tCons te tNil σ H fun vs H1 => ∃ v, vs = [v] ∧ ∀ d, H1 d = none → Q (.ref C) (some d) (upd H1 d (.xd [(Fd, v)])) := by
    show te σ H fun v H1 => _
    have e : (fun (v : V) (H1 : Hp) => tNil σ H1 fun vs H2 => ∃ w, v :: vs = [w] ∧ ∀ d, H2 d = none → Q (.ref C) (some d) (upd H2 d (.xd [(Fd, w)]))) = fun v H1 => ∀ d, H1 d = none → Q (.ref C) (some d) (upd H1 d (.xd [(Fd, v)])) := by
      funext v H1
      refine propext ⟨fun z => ?_, fun z => ⟨v, rfl, z⟩⟩
      obtain ⟨w, e, z⟩ := z
      cases e
      exact z
    rw [e]
    exact h
  refine PySem.W.callWith_K (h₀ := X.base) I.ok.mod.kin E.kC (thn ((pa_cons ha pa_nil he).run pos pins s σ H _ I h2) fun us s1 hh => ?_) he hpl
  obtain ⟨vs, H1, I1, r1, v, ev, q1⟩ := hh
  subst ev
  refine ⟨I1.kIn, ?_⟩
  cases r1 with
  | cons rv rn =>
    rename_i v' us'
    cases rn
    show wpAny _ _ (call (.ref C) [v']) _ _ _
    have hlim := I1.nolimit
    have hG := I1.mod.glob.keeps I1.bk
    obtain ⟨mb, hB1, hB2⟩ := I1.mod.blt
    have hB := hB1.keeps I1.bk
    obtain ⟨hp, g, dr, tk, os⟩ := s1
    refine wpAny_call (err_made E I1.kIn hlim hG ⟨mb, hB, (hB2 _ (by decide)).trans boot_super⟩ (by have := hr.dp; omega) fun h' tk' e d M => ?_)
    show MkP X pins σ Q (.ref e) ⟨h', g, dr, tk', os⟩
    obtain ⟨oe, fv, hoe, hc, hd, hdat, h1⟩ := M.obj
    have hns := M.ns
    obtain ⟨G, g1, g2⟩ := restrict h' fun b => decide (b ≠ e)
    have gk : ∀ b, b ≠ e → G.get? b = h'.get? b := fun b hb => g1 b (decide_eq_true hb)
    have ge : G.get? e = none := g2 e (by simp)
    have old : ∀ b o, hp.get? b = some o → G.get? b = some o := fun b o q => (gk b (Nat.ne_of_lt (Nat.lt_of_lt_of_le (Heap.lt_size q) M.new))).trans (M.keep b o q)
    have ob : ObjOk X.prog X.w (upd H1 d (.xd [(Fd, v)])) G d (.xd [(Fd, v)]) := ⟨_, hns.at (fun o q => (gk d M.dne).trans q), fun f => relO_fld rv f⟩
    have J : Inv X pins σ (upd H1 d (.xd [(Fd, v)])) ⟨G, g, dr, tk', os⟩ := I1.laid (t' := tk') old M.dbig ob
    refine ⟨e, oe, fv, ⟨G, g, dr, tk', os⟩, _, .ref C, some d, rfl, J, fun b o q => ?_, ge, hoe, ⟨hc, hd⟩, hdat, h1, ?_, rfl, I1.bare, raises_own E.exC E.tyC, q1 d (I1.hok.fresh M.dbig)⟩
    · by_cases hb : b = e
      · have z : G.get? b = some o := q
        rw [hb, ge] at z; cases z
      · exact (gk b hb).symm.trans q
    · rw [upd_ne (Ne.symm M.dne)]
      exact I1.hok.fresh M.new
end
def sRaise (c : Nat) (m : EM) : SM := fun ρ S => (m ρ S).toS ρ fun r S1 => match r with
  | .dat d => .exc c (some d) ρ S1
  | _ => .stuck
section
variable {X : Cx} {T : Tb} {W : WX} {m : EM}
theorem ts_raise (c : Nat) {B fI : Addr} {x : Str} {a : Expr} {p pos pos2 : Pos} {k : Nat} (hc : X.calm = true) (E : ErrTxt X.K X.prog X.mg (T.cls c) B fI (T.fld c)) (hr : RoomG k X.A) (tk : Takes X W) (hg : Gl X x) (hm : X.mg x = some (.ref (T.cls c))) (ha : PE X a (tE T W m))
    (hdb : (x == ("__debug__" : Str)) = false := by decide) (he : starEach (a :: []) X.env = (false, eval a X.env) :: starEach [] X.env := by rfl) (hpl : (backTo pos (starEach [] X.env)).any (·.1) = false := by rfl) :
    PS X (.Raise (some (.Call (.Name x p) [a] [] pos)) none pos2) (tS T W (sRaise c m)) :=
  ps_le (ps_raise hc tk (pmk_err E hr ha hg hm hdb he hpl)) fun D σ H h => then_le' (k := fun ρ r S1 => match r with
    | .dat d => .exc c (some d) ρ S1
    | _ => .stuck) h fun β α S ρ r v H1 hR hE hV hp => by
      cases r with
      | dat z =>
        intro d hd
        have sm : Same H1 (upd H1 d (.xd [(T.fld c, v)])) := same_new hd
        exact hp α _ σ _ _ (Ext.same sm) (hR.same sm) (hE.ext (Ext.same sm)) ⟨rfl, fun y ey => ⟨d, v, rfl, hR.hidNew hd, by cases ey; exact Dq.same (Ext.same (α := α) sm).hid hV⟩⟩
      | _ => exact hp.elim
end

/-! ### try: body / except ..: .., with and without names -/
abbrev Ts := Addr → Value → Option Addr → TS
def Ends.clear (D : Ends) (i : Nat) : Ends := { nx := fun σ H => D.nx (σ.set i none) H, rt := D.rt, bk := fun σ H => D.bk (σ.set i none) H, ct := fun σ H => D.ct (σ.set i none) H }
/-- what the clauses wish of an exception of the body -/
def wHd (K : PySem.W.Frag) (Wo : WX) (D : Ends) : List (Value × Option Nat × Ts) → WX
  | [] => Wo
  | (c, o, ts) :: l => fun cls d σ H => ∃ b, PySem.W.exmOne K cls c = some b ∧
      (b = true → ∀ a, H a = none → match o with | none => ts a cls d D σ H | some i => ts a cls d (Ends.clear D i) (σ.set i (some (.ref a))) H) ∧ (b = false → wHd K Wo D l cls d σ H)
inductive Hds (X : Cx) : List ExceptHandler → List (Value × Option Nat × Ts) → Prop
  | nil : Hds X [] []
  | bare {x : Str} {c : Value} {ts : Ts} {st : Stmt} {sts : List Stmt} {p p' : Pos} {hds : List ExceptHandler} {l : List (Value × Option Nat × Ts)} (hc : Names X x c)
      (su : ∀ (a : Addr) (oe : Obj) (cls : Value) (d : Option Addr) (pn : List (Addr × Obj)), Zc cls d oe → (∃ vs, oe.data = .fields vs) → PSs (X.suite a ((a, oe) :: pn)) (st :: sts) (ts a cls d)) (r : Hds X hds l) :
      Hds X (.ExceptHandler (some (.Name x p)) none (st :: sts) p' :: hds) ((c, none, ts) :: l)
  | named {x n : Str} {i : Nat} {c : Value} {ts : Ts} {st : Stmt} {sts : List Stmt} {p p' : Pos} {hds : List ExceptHandler} {l : List (Value × Option Nat × Ts)} (hN : X.N.Nodup) (hi : X.N[i]? = some n) (hl : X.env.kindOf n = some .local) (hc : Names X x c)
      (su : ∀ (a : Addr) (oe : Obj) (cls : Value) (d : Option Addr) (pn : List (Addr × Obj)), Zc cls d oe → (∃ vs, oe.data = .fields vs) → PSs (X.suite a ((a, oe) :: pn)) (st :: sts) (ts a cls d)) (r : Hds X hds l) :
      Hds X (.ExceptHandler (some (.Name x p)) (some n) (st :: sts) p' :: hds) ((c, some i, ts) :: l)
section
variable {X : Cx} {body : List Stmt} {h₀ : ExceptHandler} {hds : List ExceptHandler} {l : List (Value × Option Nat × Ts)} {pos : Pos} {tb : WX → TS} {Wo : WX}
/-- an object that is no frame -/
theorem no_frame {B h : Heap} {fs : List Env} {a : Addr} {o : Obj} {vs : Array Value} (ff : h.FunFrames B fs) (e : h.get? a = some o) (hd : o.data = .fields vs) : a ∉ frs fs := fun m => by
  obtain ⟨_, o', e', nf⟩ := ff.mem m
  have : o' = o := Option.some.inj (e'.symm.trans e)
  subst this
  exact nf _ hd
theorem ps_clauses (hs : X.stack = X.env :: X.outer) (hf : X.env.frame = some X.env.locals) (tk : Takes X Wo)
    (hb : ∀ (W : WX) (pn : List (Addr × Obj)) (xe : Value → Shared → Prop), Takes (X.tr pn xe) W → PassesOwn (model X.prog X.w) X.A X.env xe → PSs (X.tr pn xe) body (tb W)) (hh : Hds X (h₀ :: hds) l) :
    PS X (.Try body (h₀ :: hds) [] [] pos) (fun D σ H => tb (wHd X.K Wo D l) D σ H) := by
  constructor
  intro pins s σ H D I h
  have okX := I.ok
  have frX : X.A.frames = some (X.env :: X.outer) := okX.frames.trans (congrArg some hs)
  refine wpAny_Try_except ?_
  have hbody := hb (wHd X.K Wo D l) (X.pn ++ pins) (fun e s₁ => wpAny (model X.prog X.w) X.A (noteFrame e X.env) (fun _ s₂ => wpAny (model X.prog X.w) X.A (setFlight e none)
    (fun _ s₃ => wpAny (model X.prog X.w) X.A (handleBy e X.env (h₀ :: hds)) (SP X pins D) X.xe s₃) X.xe s₂) X.xe s₁)
  refine wpAny_mono ((hbody ?caught PassesOwn.looking).run [] s σ H D (I.toTry _) h) ?thru (fun _ _ q => q)
  case thru =>
    intro f s1 q
    cases f with
    | ret u =>
      obtain ⟨v, σ1, H1, J, r, w⟩ := q
      exact ⟨v, σ1, H1, J.ofTry okX, r, w⟩
    | next =>
      obtain ⟨σ1, H1, J, w⟩ := q
      exact wpAny_execs_nil ⟨σ1, H1, J.ofTry okX, w⟩
    | brk =>
      obtain ⟨σ1, H1, J, w⟩ := q
      exact ⟨σ1, H1, J.ofTry okX, w⟩
    | cont =>
      obtain ⟨σ1, H1, J, w⟩ := q
      exact ⟨σ1, H1, J.ofTry okX, w⟩
  case caught =>
    intro u s' flown
    obtain ⟨a, B, sI, pins', σ', H', cls, d, rfl, J0, nb, up, sky0, na, os, ag, wish⟩ := flown
    have J : Inv X pins σ' H' sI := J0.ofTry okX
    have sky : Sky B (X.env :: X.outer) a (Zc cls d) X.env.locals s'.heap := hs ▸ sky0
    show wpAny (model X.prog X.w) X.A (noteFrame (.ref a) X.env) _ _ _
    refine Sky.land Zc.steady frX hf sky fun h3 fl up3 => ?_
    have J3 : Inv X pins σ' H' { s' with heap := h3 } := J.landed nb fl.1 (up.trans up3) os ag
    obtain ⟨oe, fv, he, hz, hd⟩ := fl.there
    have nfr := no_frame fl.2.2.1 he hd
    have nL : a ≠ X.env.locals := fun z => nfr (List.mem_filterMap.mpr ⟨X.env, .head _, by rw [hf, z]⟩)
    have nF : a ∉ X.fs := fun m => by
      obtain ⟨e, he, q⟩ := List.mem_filterMap.mp m
      exact nfr (List.mem_filterMap.mpr ⟨e, .tail _ he, q⟩)
    have JS := J3.suite he hd na nL nF
    -- a clause's name
    have named : ∀ {x : Str} {c : Value} {p : Pos}, Names X x c → ∀ {Q : Value → Shared → Prop} {E : Value → Shared → Prop}, Q c { s' with heap := h3 } →
        wpAny (model X.prog X.w) (X.A.mark (some (.ref a))) (eval (.Name x p) X.env) Q E { s' with heap := h3 } := by
      intro x c p hc Q E q
      rcases hc with ⟨g, db, m | ⟨m, v, nn⟩⟩
      · exact ld_glob (X := X.suite a ((a, oe) :: (X.pn ++ pins))) JS g m q db
      · exact ld_blt (X := X.suite a ((a, oe) :: (X.pn ++ pins))) JS g m v q nn db
    have LT : PySem.W.Looks (model X.prog X.w) h3 (typeOf (.ref a)) cls := fun A Q E s k q => wpAny_typeOf_ref (k _ _ he) (hz.1.symm ▸ q)
    -- a suite's ways out
    suffices go : ∀ {hds' : List ExceptHandler} {l' : List (Value × Option Nat × Ts)}, Hds X hds' l' → wHd X.K Wo D l' cls d σ' H' →
        wpAny (model X.prog X.w) X.A (handleBy (.ref a) X.env hds') (SP X pins D) X.xe { s' with heap := h3 } from go hh wish
    intro hds' l' ok
    induction ok with
    | nil =>
      intro w
      refine wpAny_handleBy_nil ?_
      obtain ⟨k1, k2, k3, o2, fs, t2, ot, ts', e2, z2, d2, at1, tb2⟩ := id fl
      unfold PySem.passOn
      refine wpAny_bind (wpAny_field e2 d2 at1 ?_)
      rw [if_neg (fun z => by simp at z)]
      have on : wpAny (model X.prog X.w) X.A (setFlight (.ref a) X.env.frame) (fun _ s4 => wpAny (model X.prog X.w) X.A (throw (.ref a) : Sem Flow) (SP X pins D) X.xe s4) X.xe { s' with heap := h3 } := by
        rw [hf]
        refine HandSPX.setFlight_upZ fl fun h4 held up4 => wpAny_throw (tk _ _ ⟨a, B, sI, pins, σ', H', cls, d, rfl, J, nb, (up.trans up3).trans up4, .inr (.inr (hs.symm ▸ held)), na, os, ag, w⟩)
      first
        | exact wpAny_bind on
        | exact wpAny_bind (wpAny_pure (wpAny_bind on))
    | bare hc su r ih =>
      intro w
      obtain ⟨b, eb, yes, no⟩ := w
      refine wpAny_handleBy_cons (codeAny_handlers_test (named hc ((PySem.W.exm_one J3.kIn LT eb).here ?_))) (fun z => by cases z)
      cases b with
      | false => exact ih (no rfl)
      | true =>
        refine codeAny_handlers_suite (HandSPX.lands_againZ fl fun h4 fl4 up4 => ?_)
        have J4 : Inv X pins σ' H' { s' with heap := h4 } := J.landed nb fl4.1 ((up.trans up3).trans up4) os ag
        obtain ⟨o4, v4, e4, z4, d4⟩ := fl4.there
        refine wpAny_mono ((su a o4 cls d (X.pn ++ pins) z4 ⟨_, d4⟩).run [] _ _ H' _ (J4.suite e4 d4 na nL nF) (yes rfl a na)) (fun f s6 out => ?_) (fun _ _ z => z.elim)
        cases f with
        | ret u =>
          obtain ⟨v6, σ6, H6, J6, r6, q6⟩ := out
          exact ⟨_, _, _, J6.unsuite okX, r6, q6⟩
        | next =>
          obtain ⟨σ6, H6, J6, q6⟩ := out
          exact ⟨_, _, J6.unsuite okX, q6⟩
        | brk =>
          obtain ⟨σ6, H6, J6, q6⟩ := out
          exact ⟨_, _, J6.unsuite okX, q6⟩
        | cont =>
          obtain ⟨σ6, H6, J6, q6⟩ := out
          exact ⟨_, _, J6.unsuite okX, q6⟩
    | named hN hi hl hc su r ih =>
      rename_i x n i c ts st sts p p' hds2 l2
      intro w
      obtain ⟨b, eb, yes, no⟩ := w
      refine wpAny_handleBy_cons (codeAny_handlers_test (named hc ((PySem.W.exm_one J3.kIn LT eb).here ?_))) (fun z => by cases z)
      cases b with
      | false => exact ih (no rfl)
      | true =>
        refine codeAny_handlers_suite_as (HandSPX.lands_againZ fl fun h4 fl4 up4 => ?_)
        have J4 : Inv X pins σ' H' { s' with heap := h4 } := J.landed nb fl4.1 ((up.trans up3).trans up4) os ag
        obtain ⟨o4, v4, e4, z4, d4⟩ := fl4.there
        refine store_ok (X := X.suite a ((a, o4) :: (X.pn ++ pins))) (v := .ref a) (J4.suite e4 d4 na nL nF) hN hi (.inl hl) rfl (fun s5 J5 => ?_) (.inr hl)
        refine wpAny_mono ((su a o4 cls d (X.pn ++ pins) z4 ⟨_, d4⟩).run [] s5 _ H' _ J5 (yes rfl a na)) (fun f s6 out => ?_) (fun _ _ z => z.elim)
        have fin : ∀ {σ6 : L2.St} {H6 : Hp} {Q : Shared → Prop}, Inv (X.suite a ((a, o4) :: (X.pn ++ pins))) [] σ6 H6 s6 → (∀ s7, Inv X pins (σ6.set i none) H6 s7 → Q s7) →
            wpAny (model X.prog X.w) X.A (do bindName X.env n .none; unbindBehindTheSuite X.env n p') (fun _ s7 => Q s7) X.xe s6 := fun J6 hq => gone_ok (J6.unsuite okX) hN hi hl hq
        cases f with
        | ret u =>
          obtain ⟨v6, σ6, H6, J6, r6, q6⟩ := out
          exact fin J6 fun s7 J7 => ⟨_, _, _, J7, r6, q6⟩
        | next =>
          obtain ⟨σ6, H6, J6, q6⟩ := out
          exact fin J6 fun s7 J7 => ⟨_, _, J7, q6⟩
        | brk =>
          obtain ⟨σ6, H6, J6, q6⟩ := out
          exact fin J6 fun s7 J7 => ⟨_, _, J7, q6⟩
        | cont =>
          obtain ⟨σ6, H6, J6, q6⟩ := out
          exact fin J6 fun s7 J7 => ⟨_, _, J7, q6⟩
end

/-! ### its mirror -/
structure Hd where
  hits : List Bool
  slot : Option Nat
  suite : SM
/-- no exception leaves a suite -/
def OutS.calm : OutS → OutS
  | .exc _ _ _ _ => .stuck
  | o => o
/-- .. and the name goes -/
def OutS.fade (i : Nat) : OutS → OutS
  | .nx ρ S => .nx (ρ.set i none) S
  | .bk ρ S => .bk (ρ.set i none) S
  | .ct ρ S => .ct (ρ.set i none) S
  | .rt r S => .rt r S
  | _ => .stuck
def hRun : List Hd → Nat → Option PyData → Rho → Sto → OutS
  | [], c, f, ρ, S => .exc c f ρ S
  | h :: hs, c, f, ρ, S => match h.hits[c]? with
    | some true => match h.slot with
      | none => (h.suite ρ S).calm
      | some i => (h.suite (ρ.set i (some (.err c f))) S).fade i
    | some false => hRun hs c f ρ S
    | none => .stuck
def sTry (b : SM) (hs : List Hd) : SM := fun ρ S => match b ρ S with
  | .exc c f ρ1 S1 => hRun hs c f ρ1 S1
  | o => o
def Tb.hold (T : Tb) (a : Addr) (cls : Value) (d : Option Addr) (i : Nat) : Tb := { T with cur := some (a, cls, d, i) }
section
variable {T : Tb} {β : List Addr} {α : List (Option Addr)} {H : Hp} {S : Sto} {a : Addr} {cls : Value} {d : Option Addr} {i : Nat} {σ : L2.St} {ρ : Rho}
theorem Rl.hold (h : Rl T β α S H) : Rl (T.hold a cls d i) β α S H := ⟨h.len, h.inj, h.off, h.bt, h.mt, fun k rs q => h.cell k rs q, h.tab⟩
theorem Rl.free (h : Rl (T.hold a cls d i) β α S H) : Rl T β α S H := ⟨h.len, h.inj, h.off, h.bt, h.mt, fun k rs q => h.cell k rs q, h.tab⟩
theorem Er.hold {c : Nat} {f : Option PyData} (h : Er T β α H σ ρ) (x : ExcR T β α H c f cls d) : Er (T.hold a cls d i) β α H (σ.set i (some (.ref a))) (ρ.set i (some (.err c f))) := by
  refine ⟨by rw [List.length_set, List.length_set]; exact h.1, fun j q e => ?_⟩
  by_cases z : i = j
  · subst z
    by_cases hl : i < ρ.length
    · rw [List.getElem?_set_self hl] at e
      cases e
      intro a' cls' d' q
      cases q
      exact ⟨List.getElem?_set_self (by rw [h.1]; exact hl), x⟩
    · rw [List.getElem?_eq_none (by rw [List.length_set]; omega)] at e; cases e
  · rw [List.getElem?_set_ne z] at e
    have w := h.2 j q e
    cases q with
    | err c f =>
      intro a' cls' d' y
      cases y
      exact absurd rfl z
    | dat _ => obtain ⟨u, h1, h2⟩ := w; exact ⟨u, (List.getElem?_set_ne z).trans h1, h2⟩
    | obj _ => obtain ⟨u, h1, h2⟩ := w; exact ⟨u, (List.getElem?_set_ne z).trans h1, h2⟩
    | ro _ => obtain ⟨u, h1, h2⟩ := w; exact ⟨u, (List.getElem?_set_ne z).trans h1, h2⟩
    | lam _ _ => obtain ⟨u, h1, h2⟩ := w; exact ⟨u, (List.getElem?_set_ne z).trans h1, h2⟩
theorem Er.free (hc : T.cur = none) (h : Er (T.hold a cls d i) β α H σ ρ) : Er T β α H σ ρ := ⟨h.1, fun j q e => by
  have w := h.2 j q e
  cases q with
  | err c f =>
    intro a' cls' d' y
    rw [hc] at y
    cases y
  | dat _ => exact w
  | obj _ => exact w
  | ro _ => exact w
  | lam _ _ => exact w⟩
/-- a suite's wish -/
theorem post_calm {W : WX} {o : OutS} {D : Ends} (h : PostS T β W o.calm α H D) : PostS T β W0 o α H D := by
  cases o with
  | exc c f ρ S => exact h.elim
  | _ => exact h
theorem post_fade {W : WX} {o : OutS} {D : Ends} (hc : T.cur = none) (h : PostS T β W (o.fade i) α H D) : PostS (T.hold a cls d i) β W0 o α H (Ends.clear D i) := by
  cases o with
  | nx ρ S => exact fun α' H' σ' e r q => h α' H' _ e r.free ((q.free hc).unset i)
  | bk ρ S => exact fun α' H' σ' e r q => h α' H' _ e r.free ((q.free hc).unset i)
  | ct ρ S => exact fun α' H' σ' e r q => h α' H' _ e r.free ((q.free hc).unset i)
  | rt r S => exact fun α' H' v e r q => h α' H' v e r.free q
  | exc c f ρ S => exact h.elim
  | stuck => exact h.elim
end
inductive HdsM (X : Cx) (T : Tb) : List ExceptHandler → List Hd → Prop
  | nil : HdsM X T [] []
  | bare {x : Str} {c : Value} {hits : List Bool} {m : SM} {st : Stmt} {sts : List Stmt} {p p' : Pos} {hds : List ExceptHandler} {l : List Hd} (hc : Names X x c) (ht : ∀ k b, hits[k]? = some b → PySem.W.exmOne X.K (.ref (T.cls k)) c = some b)
      (su : ∀ (a : Addr) (oe : Obj) (cls : Value) (d : Option Addr) (pn : List (Addr × Obj)), Zc cls d oe → (∃ vs, oe.data = .fields vs) → PSs (X.suite a ((a, oe) :: pn)) (st :: sts) (tS T W0 m)) (r : HdsM X T hds l) :
      HdsM X T (.ExceptHandler (some (.Name x p)) none (st :: sts) p' :: hds) (⟨hits, none, m⟩ :: l)
  | named {x n : Str} (i : Nat) {c : Value} {hits : List Bool} {m : SM} {st : Stmt} {sts : List Stmt} {p p' : Pos} {hds : List ExceptHandler} {l : List Hd} (hN : X.N.Nodup) (hi : X.N[i]? = some n) (hl : X.env.kindOf n = some .local) (hc : Names X x c)
      (ht : ∀ k b, hits[k]? = some b → PySem.W.exmOne X.K (.ref (T.cls k)) c = some b)
      (su : ∀ (a : Addr) (oe : Obj) (cls : Value) (d : Option Addr) (pn : List (Addr × Obj)), Zc cls d oe → (∃ vs, oe.data = .fields vs) → PSs (X.suite a ((a, oe) :: pn)) (st :: sts) (tS (T.hold a cls d i) W0 m)) (r : HdsM X T hds l) :
      HdsM X T (.ExceptHandler (some (.Name x p)) (some n) (st :: sts) p' :: hds) (⟨hits, some i, m⟩ :: l)
section
variable {X : Cx} {T : Tb} {Wo : WX}
theorem hds_of (hcu : T.cur = none) {hds : List ExceptHandler} {ms : List Hd} (h : HdsM X T hds ms) : ∃ l, Hds X hds l ∧ ∀ (β : List Addr) (α : List (Option Addr)) (S : Sto) (ρ : Rho) (σ : L2.St) (H : Hp) (D : Ends) (c : Nat) (f : Option PyData) (cls : Value) (d : Option Addr),
    Rl T β α S H → Er T β α H σ ρ → ExcR T β α H c f cls d → PostS T β Wo (hRun ms c f ρ S) α H D → wHd X.K Wo D l cls d σ H := by
  induction h with
  | nil => exact ⟨[], .nil, fun β α S ρ σ H D c f cls d r e x p => p α H σ cls d Ext.refl r e x⟩
  | bare hc ht su r ih =>
    rename_i x c hits m st sts p p' hds l
    obtain ⟨l', h1, h2⟩ := ih
    refine ⟨(c, none, fun _ _ _ => tS T W0 m) :: l', .bare hc su h1, fun β α S ρ σ H D k f cls d r e x p => ?_⟩
    cases q : hits[k]? with
    | none =>
      unfold hRun at p
      rw [q] at p
      exact p.elim
    | some b =>
      refine ⟨b, by rw [x.1]; exact ht k b q, fun hb a na => ?_, fun hb => ?_⟩
      · subst hb
        unfold hRun at p
        rw [q] at p
        exact ⟨β, α, S, ρ, r, e, post_calm p⟩
      · subst hb
        unfold hRun at p
        rw [q] at p
        exact h2 β α S ρ σ H D k f cls d r e x p
  | named i hN hi hl hc ht su r ih =>
    rename_i x n c hits m st sts p p' hds l
    obtain ⟨l', h1, h2⟩ := ih
    refine ⟨(c, some i, fun a cls d => tS (T.hold a cls d i) W0 m) :: l', .named hN hi hl hc su h1, fun β α S ρ σ H D k f cls d r e x p => ?_⟩
    cases q : hits[k]? with
    | none =>
      unfold hRun at p
      rw [q] at p
      exact p.elim
    | some b =>
      refine ⟨b, by rw [x.1]; exact ht k b q, fun hb a na => ?_, fun hb => ?_⟩
      · subst hb
        unfold hRun at p
        rw [q] at p
        exact ⟨β, α, S, _, r.hold, e.hold x, post_fade hcu p⟩
      · subst hb
        unfold hRun at p
        rw [q] at p
        exact h2 β α S ρ σ H D k f cls d r e x p
theorem ts_try {body : List Stmt} {h₀ : ExceptHandler} {hds : List ExceptHandler} {pos : Pos} {b : SM} {ms : List Hd} (hcu : T.cur = none) (hs : X.stack = X.env :: X.outer) (hf : X.env.frame = some X.env.locals) (tk : Takes X Wo)
    (hb : ∀ (W : WX) (pn : List (Addr × Obj)) (xe : Value → Shared → Prop), Takes (X.tr pn xe) W → PassesOwn (model X.prog X.w) X.A X.env xe → PSs (X.tr pn xe) body (tS T W b)) (hh : HdsM X T (h₀ :: hds) ms) :
    PS X (.Try body (h₀ :: hds) [] [] pos) (tS T Wo (sTry b ms)) := by
  obtain ⟨l, h1, h2⟩ := hds_of (Wo := Wo) hcu hh
  refine ps_le (ps_clauses hs hf tk hb h1) fun D σ H ⟨β, α, S, ρ, hR, hE, h⟩ => ⟨β, α, S, ρ, hR, hE, ?_⟩
  unfold sTry at h
  cases q : b ρ S with
  | exc c f ρ1 S1 =>
    rw [q] at h
    exact fun α' H' σ' cls d x r e y => h2 β α' S1 ρ1 σ' H' D c f cls d r e y (PostS.on x h)
  | nx ρ1 S1 => rw [q] at h; exact h
  | rt r S1 => rw [q] at h; exact h
  | bk ρ1 S1 => rw [q] at h; exact h
  | ct ρ1 S1 => rw [q] at h; exact h
  | stuck => rw [q] at h; exact h.elim
end

/-! ### the field of what a suite holds -/
def eFld (ok : List Nat) (i : Nat) : EM := fun ρ S => match ρ[i]? with
  | some (some (.err c (some z))) => if ok.contains c = true then .ok (.dat z) S else .stuck
  | _ => .stuck
/-- what is read of the class at C -/
structure FldC (K : PySem.W.Frag) (C : Addr) (n : Str) : Prop where
  ga : PySem.W.findIn K (.ref C) "__getattribute__" = some (some (.builtin "BaseException.__getattribute__"))
  gg : PySem.W.findIn K (.ref C) "__getattr__" = some none
  exC : PySem.W.subIn K (.ref C) (.type "BaseException") = some true
  hdC : PySem.W.hasDictIn K C = true
  no : PySem.W.findIn K (.ref C) n = some none
theorem ErrTxt.fld {K : PySem.W.Frag} {P : Program} {mg : Str → Option Value} {C B fI : Addr} {Fd : Str} (E : ErrTxt K P mg C B fI Fd) : FldC K C Fd := ⟨E.ga, E.gg, E.exC, E.hdC, E.noN⟩
theorem tr_fld (ok : List Nat) (i : Nat) {X : Cx} {T : Tb} {W : WX} {a : Addr} {oe : Obj} {cls : Value} {d : Option Addr} {pn : List (Addr × Obj)} {x n : Str} {p pos : Pos} (hz : Zc cls d oe) (hf : ∃ vs, oe.data = .fields vs) (ht : ∀ k ∈ ok, FldC X.K (T.cls k) n ∧ T.fld k = n)
    (hN : X.N[i]? = some x := by rfl) (hv : Vis X.env.scope x := by first | exact Or.inl rfl | exact Or.inr (Or.inl rfl) | exact Or.inr (Or.inr rfl)) (hd : (x == ("__debug__" : Str)) = false := by decide) (hcd : (x == ("__classdict__" : Str)) = false := by decide)
    (hb : attributeBase (.Name x p) n X.env (eval (.Name x p) X.env) = eval (.Name x p) X.env := by rfl) : PE (X.suite a ((a, oe) :: pn)) (.Attribute (.Name x p) n pos) (tE (T.hold a cls d i) W (eFld ok i)) := by
  refine ⟨fun pins s σ H Q I h => ?_⟩
  obtain ⟨β, α, S, ρ, hR, hE, h⟩ := h
  unfold eFld at h
  split at h
  · rename_i c z q
    split at h
    · rename_i hc
      obtain ⟨F, hn⟩ := ht c (by simpa using hc)
      obtain ⟨e1, e2, e3⟩ := hE.2 i _ q a cls d rfl
      obtain ⟨dd, v, e4, e5, e6⟩ := e3 z rfl
      have e5' : hid (blk β α) H dd = some (.xd [(n, v)]) := by rw [← hn]; exact e5
      refine (pe_xf (te := tVar i) (C := T.cls c) ⟨F.ga, F.gg, F.exC, F.hdC⟩ F.no hz hf (pv i hN hv hd hcd) hb).run pins s σ H Q I ?_
      exact ⟨.ref a, e1, rfl, e2, dd, _, v, e4, (hid_some.mp e5').2.1, by simp [List.lookup], old_ok hR h e6⟩
    · exact h.elim
  · exact h.elim
end Pev
/-! Pev, fourteenth part: enumerate of a list or a tuple. -/
namespace PySem
open Sem (wp)
set_option maxHeartbeats 1000000 in
theorem pev_enum_new {v : Value} {o : Obj} {H : Heap → Prop} (B : Begins v o H) :
    Meets (Builtin.«enumerate.__new__» ⟨[.type "enumerate", v], []⟩) (fun _ R s => H s.heap ∧
      R (.ok (.ret (.ref (s.heap.push o).objs.size))) { s with heap := (s.heap.push o).push { cls := .type "enumerate", data := .fields #[.none, .bool false, .ref s.heap.objs.size, rawInt 0, .none, .none] } }) :=
  .of_wp fun prog w A R s h => by
    obtain ⟨hp, g, d, tk, os⟩ := s; obtain ⟨h1, h⟩ := h
    have hsub := sub_enumerate
    have go : ∀ {A' : Around} {E : Value → Shared → Prop} {Q : Value → Shared → Prop}, Q (.ref hp.objs.size) ⟨hp.push o, g, d, tk, os⟩ → wpAny (model prog w) A' (pyIter v) Q E ⟨hp, g, d, tk, os⟩ := fun q => B.iter prog w _ _ ⟨hp, g, d, tk, os⟩ _ h1 q
    wp_walk using go
    refine wpAny_stack_any fun st => wpAny_pure ?_
    split
    · rename_i c _ _ _ _ _
      cases (c == Value.type "enumerate") <;> (wp_walk using go; exact ⟨_, rfl, h⟩)
    · wp_walk using go
      exact ⟨_, rfl, h⟩
theorem pev_enum_call {prog : Program} {w : World} {A : Around} {E : Value → Shared → Prop} {s : Shared} {v : Value} {o : Obj} {H : Heap → Prop} {Q : Value → Shared → Prop} (B : Begins v o H) (h1 : H s.heap)
    (h : ∀ h', IsEnum h' (s.heap.objs.size + 1) s.heap.objs.size 0 .none → h'.get? s.heap.objs.size = some o → (∀ b o, s.heap.get? b = some o → h'.get? b = some o) → Q (.ref (s.heap.objs.size + 1)) { s with heap := h' }) :
    wpAny (model prog w) A (call (.type "enumerate") [v]) Q E s := by
  refine callType_new F.called_enumerate (by decide) (F.typeCall_enumerate_1 _) (F.newCall_enumerate_1 _) (fun obj => F.args_object_init_2 obj _) F.entry_enumerate_new (pev_enum_new B) ⟨h1, ?_⟩
  have hz : (s.heap.push o).objs.size = s.heap.objs.size + 1 := Heap.size_push ..
  show _ ∧ _
  rw [hz]
  have he := Heap.get?_push_size (s.heap.push o) (o := { cls := .type "enumerate", data := .fields #[.none, .bool false, .ref s.heap.objs.size, rawInt 0, .none, .none] }) rfl
  rw [hz] at he
  exact ⟨⟨_, he, rfl⟩, h _ he (Heap.get?_push_of_some _ (Heap.get?_push_size _ B.free)) fun b o x => Heap.get?_push_of_some _ (Heap.get?_push_of_some _ x)⟩
end PySem
namespace Pev
open PySem PySem.Spec PyProof.Rows L2

/-- the items of the tuple at a, in new pairs -/
def ItP (K : PySem.W.Frag) (a : Addr) : It :=
  ⟨fun i H => ∃ (xs : List V) (x : V), SqT K H a xs ∧ xs[i]? = some x, fun i H v H' => ∃ T x, v = .ref T ∧ H T = none ∧ H' = upd H T (.tup [.int (i : Nat), x]) ∧ ∀ xs, SqT K H a xs → xs[i]? = some x, fun i H => ∃ xs : List V, SqT K H a xs ∧ xs.length = i⟩
theorem turn_pairs {P : Program} {w : World} {K : PySem.W.Frag} {elts : List Expr} {kk : Nat} {tpos : Pos} (a e it : Addr) :
    Turn P w K (.Tuple elts kk tpos) (ItP K a) [e, it] e (fun i h => (∃ old, IsEnum h e it ((i : Nat) : Int) old) ∧ h.IsTupleIter it a i ∧ e ≠ it) where
  mem := by simp
  obj := fun i h st b hb => by
    obtain ⟨⟨old, he⟩, ⟨o, ho, hc, hd⟩, _⟩ := st
    rcases (by simpa using hb : b = e ∨ b = it) with z | z
    · rw [z]; exact ⟨_, he, fun v q => nomatch q⟩
    · rw [z]; exact ⟨o, ho, fun v q => by rw [hd] at q; cases q⟩
  keep := fun i h h' st k => let ⟨⟨old, he⟩, hi, hne⟩ := st; ⟨⟨old, k e (by simp) _ he⟩, hi.at fun o q => k it (by simp) o q, hne⟩
  item := by
    intro X hP hw hK hc i pins s σ H E I hf st hg
    subst hP hw hK
    obtain ⟨⟨old, he⟩, hit, hne⟩ := st
    obtain ⟨xs, x, hq, hx⟩ := hg
    obtain ⟨its, rv, p, hz⟩ := I.tuple hq
    obtain ⟨u, hu, ru⟩ := rv.get hx
    have hel : e < s.heap.objs.size := Heap.lt_size he
    have hil : it < s.heap.objs.size := by obtain ⟨_, q, _⟩ := hit; exact Heap.lt_size q
    have hai : a ≠ it := fun z => by
      obtain ⟨o1, q1, c1, _⟩ := hit
      obtain ⟨o2, q2, c2, _⟩ := p
      rw [z, q1] at q2
      cases q2
      exact absurd (c1.symm.trans c2) (by decide)
    have lt : i < its.toArray.size := by
      have := (List.getElem?_eq_some_iff.mp hu).1
      simpa using this
    have hea : e ≠ a := fun z => by
      obtain ⟨o2, q2, c2, _⟩ := p
      rw [← z, he] at q2
      cases q2
      exact absurd (show Value.type "enumerate" = Value.type "tuple" from c2) (by decide)
    refine wpAny_pyNext_enum_itemC (Draws.tuple (A := X.A.in1) (by exact I.ok.hd hc) it a hai its.toArray) he ⟨hit, p⟩ lt hne (by simp [hne, hea]) fun y h' tk hP ho hst hT hsz hk => ?_
    have ey : y = u := by
      have h1 : its.toArray[i]? = some u := by simpa using hu
      rw [h1] at hP
      exact (Option.some.inj hP).symm
    subst ey
    refine ⟨_, rfl, wpAny_letOwnedTupleGo_enum (s := { s with heap := h', toks := tk + 1 }) ho fun h'' he' sb => ?_⟩
    have hT2 : h''.get? s.heap.objs.size = some { cls := .type "tuple", data := .seq #[.int i tk, y] } := (sb.2 _ (Nat.ne_of_gt hel)).trans hT
    have new : ObjOk X.prog X.w (upd H s.heap.objs.size (.tup [.int (i : Nat), x])) h'' s.heap.objs.size (.tup [.int (i : Nat), x]) :=
      ⟨by show 2 ≤ sizeLine; decide, [.int i tk, y], .cons ⟨_, rfl⟩ (.cons ru .nil), ⟨_, hT2, rfl, _, rfl⟩⟩
    have I1 : Inv X pins σ (upd H s.heap.objs.size (.tup [.int (i : Nat), x])) { s with heap := h'', toks := tk + 1 } :=
      I.turnedNew (ch := [e, it]) (fun b ob hb q => (sb.2 b (fun z => hb (by simp [z]))).trans (hk b ob (fun z => hb (by simp [z])) (fun z => hb (by simp [z])) q)) hf (Nat.le_refl _) new
    refine ⟨.ref s.heap.objs.size, _, I1, rfl, ⟨_, x, rfl, I.hok.fresh (Nat.le_refl _), rfl, fun ys hy => by rw [I.tuple_inj hy hq]; exact hx⟩, ⟨⟨y, ?_⟩, hst.1.at fun o q => (sb.2 it (Ne.symm hne)).trans q, hne⟩, fun b hb => ?_⟩
    · have e1 : ((i + 1 : Nat) : Int) = (i : Int) + 1 := by omega
      rw [e1]; exact he'
    · have lb : b < s.heap.objs.size := by
        rcases (by simpa using hb : b = e ∨ b = it) with z | z
        · rw [z]; exact hel
        · rw [z]; exact hil
      rw [upd_ne (Nat.ne_of_lt lb)]
      exact (hf b hb).1
  done := by
    intro X hP hw hK hc i pins s σ H E I hf st hg
    subst hP hw hK
    obtain ⟨⟨old, he⟩, hit, hne⟩ := st
    obtain ⟨xs, hq, hx⟩ := hg
    obtain ⟨its, rv, p, hz⟩ := I.tuple hq
    obtain ⟨f0, f1, f2, f3, f4, f5⟩ := hf it (by simp)
    have hl := rv.length
    have hai : a ≠ it := fun z => by
      obtain ⟨o1, q1, c1, _⟩ := hit
      obtain ⟨o2, q2, c2, _⟩ := p
      rw [z, q1] at q2
      cases q2
      exact absurd (c1.symm.trans c2) (by decide)
    have en : its.toArray.size = i := by simp; omega
    exact wpAny_pyNext_enum_endD (Draws.tuple (A := X.A.in1) (by exact I.ok.hd hc) it a hai its.toArray) he (by rw [en]; exact ⟨hit, p⟩) fun h' eb => ⟨rfl, I.turned (t' := s.toks) (fun b o hb q => eb b o hb q) f0 f1 f3 f4 f5⟩
  self := fun A i s Q E st h => let ⟨⟨_, he⟩, _⟩ := st; wpAny_pyIter_enum he h
/-- the walk: a pair of the turn and what f gives -/
def iPairs (K : PySem.W.Frag) (ta : TA) : TI := fun σ H R => ta σ H fun vs H1 => ∃ a xs, vs = [.ref a] ∧ SqT K H1 a xs ∧ R (ItP K a) H1
theorem pi_pairs {X : Cx} {e : Expr} {ta : TA} {p pos tpos : Pos} {elts : List Expr} {kk : Nat} (hg : Gl X "enumerate") (hm : X.mg "enumerate" = none) (ha : PA X [e] ta) (hs : starEach [e] X.env = [(false, eval e X.env)] := by rfl) :
    PI X (.Tuple elts kk tpos) (.Call (.Name "enumerate" p) [e] [] pos) (iPairs X.K ta) := by
  refine ⟨fun pins s σ H R I h => ?_⟩
  refine Call_ (ld_blt I hg hm boot_enumerate (PyProof.Rows.callWith_type1 (thn (ha.run pos pins s σ H _ I h) fun us s1 hh => ?_) hs rfl))
  obtain ⟨vs, H1, I1, r1, a, xs, ex, hq, q⟩ := hh
  subst ex
  cases r1 with
  | cons r rr =>
    cases rr
    cases r
    obtain ⟨its, rv, p', hz⟩ := I1.tuple hq
    refine pev_enum_call (begins_tuple a its.toArray) p' fun h' he hit hk => wpAny_pyIter_enum he ?_
    have I2 : Inv X pins σ H1 { s1 with heap := h' } := I1.kept (t' := s1.toks) hk
    refine ⟨s1.heap.objs.size + 1, [s1.heap.objs.size + 1, s1.heap.objs.size], _, _, H1, rfl, I2, turn_pairs a (s1.heap.objs.size + 1) s1.heap.objs.size, ⟨⟨.none, he⟩, ⟨_, hit, rfl, rfl⟩, Nat.succ_ne_self _⟩, fun b hb => ?_, q⟩
    have hle : s1.heap.objs.size ≤ b := by
      rcases (by simpa using hb : b = s1.heap.objs.size + 1 ∨ b = s1.heap.objs.size) with z | z <;> rw [z]
      · exact Nat.le_succ _
      · exact Nat.le_refl _
    exact I1.fpOk hle (I1.hok.fresh hle)
/-- one of them, in a new pair -/
def YNew (f : Nat → Hp → V → Prop) : Nat → Hp → V → Hp → Prop := fun i H v H' => ∃ T x, v = .ref T ∧ H T = none ∧ H' = upd H T (.tup [.int (i : Nat), x]) ∧ f i H x
theorem walk_pairsT {K : PySem.W.Frag} {a : Addr} {xs : List V} : Walk (ItP K a) xs.length (fun H => SqT K H a xs) (YNew fun i _ x => xs[i]? = some x) :=
  ⟨fun i _ hi q => ⟨xs, xs[i], q, by simp [hi]⟩, fun _ q => ⟨xs, q, rfl⟩, fun i H v H' _ q ⟨T, x, h1, h2, h3, h4⟩ => ⟨T, x, h1, h2, h3, h4 xs q⟩⟩
theorem walk_pairsL {K : PySem.W.Frag} {a : Addr} {n : Nat} : Walk (Ite K a) n (fun H => ∃ vs, SqL K H a vs ∧ vs.length = n) (YNew fun i H x => ∀ vs, SqL K H a vs → vs[i]? = some x) :=
  ⟨fun i _ hi ⟨vs, q, e⟩ => ⟨vs, vs[i]'(by omega), q, by simp [show i < vs.length by omega]⟩, fun _ ⟨vs, q, e⟩ => ⟨vs, q, Nat.le_of_eq e⟩, fun i H v H' _ _ ⟨T, x, h1, h2, h3, h4⟩ => ⟨T, x, h1, h2, h3, h4⟩⟩
def pairsF (i : Nat) : List PyData → List PyData
  | [] => []
  | d :: ds => .tuple [.int (i : Nat), d] :: pairsF (i + 1) ds
theorem pairsF_get : ∀ (ds : List PyData) (k i : Nat) (d : PyData), ds[i]? = some d → (pairsF k ds)[i]? = some (.tuple [.int ((k + i : Nat)), d])
  | [], _, _, _, h => by simp at h
  | d :: ds, k, 0, e, h => by simp at h; subst h; rfl
  | d :: ds, k, i + 1, e, h => by
    have h' := pairsF_get ds (k + 1) i e (by simpa using h)
    unfold pairsF
    rw [List.getElem?_cons_succ, h', Nat.add_assoc, Nat.add_comm 1 i]
theorem pairsF_len : ∀ (ds : List PyData) (k : Nat), (pairsF k ds).length = ds.length
  | [], _ => rfl
  | d :: ds, k => by unfold pairsF; rw [List.length_cons, List.length_cons, pairsF_len]
/-- enumerate(x): all of x's items are data -/
def gEnum (xs : List R) (S : Sto) : Out Items := match xs with
  | [.dat (.tuple ds)] => .ok ⟨(pairsF 0 ds).map .dat, []⟩ S
  | [.dat (.list ds)] => .ok ⟨(pairsF 0 ds).map .dat, []⟩ S
  | [.ro ds] => .ok ⟨(pairsF 0 ds).map .dat, []⟩ S
  | [.obj k] => match S[k]? with
    | some (.lst rs) => match datAll rs with
      | some ds => .ok ⟨(pairsF 0 ds).map .dat, [(k, rs)]⟩ S
      | none => .stuck
    | _ => .stuck
  | _ => .stuck
section
variable {K : Tb} {β : List Addr} {α : List (Option Addr)} {H : Hp} {S : Sto}
/-- a new pair of data -/
theorem new_pair {β' : List Addr} {α' : List (Option Addr)} {H' H'' : Hp} {S' : Sto} {i : Nat} {v : V} {T0 : Addr} {x : V} {ds : List PyData} (R' : Rl K β' α' S' H') (hv : v = .ref T0) (hT : H' T0 = none) (hH : H'' = upd H' T0 (.tup [.int (i : Nat), x]))
    (hx : ∀ d, ds[i]? = some d → Dq K (hid (blk β' α') H') x d) : Same H' H'' ∧ ∀ r, ((pairsF 0 ds).map R.dat)[i]? = some r → Vr K β' α' H'' r v := by
  subst hH hv
  refine ⟨same_new hT, fun r hr => ?_⟩
  rw [List.getElem?_map] at hr
  cases e : ds[i]? with
  | none =>
    rw [List.getElem?_eq_none (by rw [pairsF_len]; exact List.getElem?_eq_none_iff.mp e)] at hr
    cases hr
  | some d =>
    rw [pairsF_get ds 0 i d e, Nat.zero_add] at hr
    cases hr
    refine .tup (.inl (.inl (R'.hidNew hT))) (.cons (.int _) (.cons (Dq.same (Ext.same (α := α') (same_new hT)).hid (hx d e)) .nil))
theorem walkR_enumT {a : Addr} {vs : List V} {ds : List PyData} (h : SqT K (hid (blk β α) H) a vs) (hs : DqAll K (hid (blk β α) H) vs ds) : WalkR K β α H ⟨(pairsF 0 ds).map .dat, []⟩ (ItP K a) := by
  refine ⟨_, _, walk_pairsT (xs := vs) |> (by rw [List.length_map, pairsF_len, ← DqAll.length hs]; exact ·), fun β' α' S' H' l R' _ => ?_⟩
  refine ⟨sqT_same hid_le (sqT_same l.hid h), fun i x H'' yy => ?_⟩
  obtain ⟨T0, y, e1, e2, e3, e4⟩ := yy
  refine new_pair R' e1 e2 e3 fun d hd => ?_
  obtain ⟨v, z1, z2⟩ := hs.get hd
  rw [e4] at z1
  cases z1
  exact Dq.same l.hid z2
theorem walkR_enumL {a : Addr} {vs : List V} {ds : List PyData} (h : SqL K (hid (blk β α) H) a vs) (hs : DqAll K (hid (blk β α) H) vs ds) : WalkR K β α H ⟨(pairsF 0 ds).map .dat, []⟩ (Ite K a) := by
  refine ⟨_, _, walk_pairsL, fun β' α' S' H' l R' _ => ?_⟩
  refine ⟨⟨vs, hid_le.seq (l.hid.seq h), by rw [List.length_map, pairsF_len]; exact DqAll.length hs⟩, fun i x H'' yy => ?_⟩
  obtain ⟨T0, y, e1, e2, e3, e4⟩ := yy
  refine new_pair R' e1 e2 e3 fun d hd => ?_
  obtain ⟨v, z1, z2⟩ := hs.get hd
  rw [e4 vs (hid_le.seq (l.hid.seq h))] at z1
  cases z1
  exact Dq.same l.hid z2
theorem walkR_enumO (Rr : Rl K β α S H) {k : Nat} {rs : List R} {ds : List PyData} {a : Addr} (q : S[k]? = some (.lst rs)) (hd : datAll rs = some ds) (ha : α[k]? = some (some a)) : WalkR K β α H ⟨(pairsF 0 ds).map .dat, [(k, rs)]⟩ (Ite K a) := by
  refine ⟨_, _, walk_pairsL, fun β' α' S' H' l R' st => ?_⟩
  obtain ⟨b, vs, e1, e2, e3⟩ := R'.cell k rs (st (k, rs) (by simp))
  have e4 := l.old k b (List.getElem?_eq_some_iff.mp ha).1 e1
  rw [ha] at e4
  cases e4
  have er := datAll_eq hd
  subst er
  have hs : DqAll K (hid (blk β' α') H') vs ds := Vrs.dq e3
  refine ⟨⟨vs, SqL.of e2, by rw [List.length_map, pairsF_len]; exact DqAll.length hs⟩, fun i x H'' ⟨T0, y, e1, e2', e3', e4⟩ => ?_⟩
  refine new_pair R' e1 e2' e3' fun d hd => ?_
  obtain ⟨v, z1, z2⟩ := hs.get hd
  rw [e4 vs (SqL.of e2)] at z1
  cases z1
  exact z2
end
section
variable {X : Cx} {T : Tb} {W : WX}
theorem ti_enum (hK : X.K = T.K) {e : Expr} {ms : EMs} {p pos tpos : Pos} {elts : List Expr} {kk : Nat} (hg : Gl X "enumerate") (hm : X.mg "enumerate" = none) (ha : PA X [e] (tA T W ms)) (hs : starEach [e] X.env = [(false, eval e X.env)] := by rfl) :
    PI X (.Tuple elts kk tpos) (.Call (.Name "enumerate" p) [e] [] pos) (tI T W (iArgs gEnum ms)) := by
  refine pi_le (pi_or (pi_enum hg hm ha hs) (pi_pairs hg hm ha hs)) fun σ H Rk h => ?_
  rw [hK]
  have keyT : ∀ (σ : L2.St) (β : List Addr) (α : List (Option Addr)) (S : Sto) (H : Hp) (ds : List PyData) (vs : List V), Rl T β α S H → Vrs T β α H [.dat (.tuple ds)] vs → PostG T β W (WalkR T β) σ (gEnum [.dat (.tuple ds)] S) α H Rk →
      ∃ a us, vs = [.ref a] ∧ SqT T.K H a us ∧ Rk (ItP T.K a) H := by
    intro σ β α S H ds vs Rr hx h
    obtain ⟨v, rfl, hv⟩ := vrs1 hx
    cases hv with
    | @tup a us _ z1 z2 => exact ⟨a, us, rfl, sqT_same hid_le z1, h α H _ Ext.refl Rr (walkR_enumT z1 z2)⟩
  have keyL : ∀ (σ : L2.St) (β : List Addr) (α : List (Option Addr)) (S : Sto) (H : Hp) (xs : List R) (vs : List V), (∀ ds, xs ≠ [.dat (.tuple ds)]) → Rl T β α S H → Vrs T β α H xs vs → PostG T β W (WalkR T β) σ (gEnum xs S) α H Rk →
      ∃ a us, vs = [.ref a] ∧ SqL T.K H a us ∧ Rk (Ite T.K a) H := by
    intro σ β α S H xs vs nt Rr hx h
    unfold gEnum at h
    split at h
    · exact absurd rfl (nt _)
    · obtain ⟨v, rfl, hv⟩ := vrs1 hx
      cases hv with
      | @lst a us _ z1 z2 => exact ⟨a, us, rfl, SqL.of (hid_some.mp z1).2.1, h α H _ Ext.refl Rr (walkR_enumL (SqL.of z1) z2)⟩
    · obtain ⟨v, rfl, a, us, rfl, z1, z2⟩ := vrs1 hx
      exact ⟨a, us, rfl, hid_le.seq z1, h α H _ Ext.refl Rr (walkR_enumL z1 z2)⟩
    · obtain ⟨v, rfl, hv⟩ := vrs1 hx
      split at h
      · rename_i rs qk
        split at h
        · rename_i ds qd
          obtain ⟨a, us, z1, z2, z3⟩ := Rr.cell _ rs qk
          cases hv.2 a z1
          exact ⟨a, us, rfl, SqL.of z2, h α H _ Ext.refl Rr (walkR_enumO Rr qk qd z1)⟩
        · exact h.elim
      · exact h.elim
    · exact h.elim
  obtain ⟨β, α, S, ρ, hR, hE, hp⟩ := h
  have h1 := PostG.bind (rel := Vrs T β) (show PostG T β W (WalkR T β) σ ((ms ρ S).bind gEnum) α H Rk from hp)
  cases q : ms ρ S with
  | stuck => rw [q] at h1; exact h1.elim
  | exc k f S1 => rw [q] at h1; exact .inl ⟨β, α, S, ρ, hR, hE, by rw [q]; exact h1⟩
  | ok x S1 =>
    rw [q] at h1
    by_cases ht : ∃ ds, x = [.dat (.tuple ds)]
    · obtain ⟨ds, rfl⟩ := ht
      refine .inr ⟨β, α, S, ρ, hR, hE, ?_⟩
      rw [q]
      intro α1 H1 v e1 R1 V1
      obtain ⟨α1', S1', x', ex, e1', R1', V1', h2⟩ := h1 α1 H1 v e1 R1 V1
      cases ex
      exact keyT σ β α1' S1 H1 ds v R1' V1' h2
    · refine .inl ⟨β, α, S, ρ, hR, hE, ?_⟩
      rw [q]
      intro α1 H1 v e1 R1 V1
      obtain ⟨α1', S1', x', ex, e1', R1', V1', h2⟩ := h1 α1 H1 v e1 R1 V1
      cases ex
      exact keyL σ β α1' S1 H1 x v (fun ds z => ht ⟨ds, z⟩) R1' V1' h2
end
end Pev
/-! Pev, fifteenth part: comprehensions with two clauses. -/
namespace Pev
open PySem PySem.Spec PyProof.Rows L2

def fin (own : Bool) (rs : List R) (S : Sto) : Out R := if rs.length ≤ sizeLine then newL own rs S else .stuck
section
variable {keep : List (Nat × List R)} {g g1 : GM} {t t1 : TM} {im1 : IM} {elt : EM} {vs1 : List Nat} {ρ : Rho}
end
section
variable {T : Tb} {W : WX}
/-- the outer loop's state -/
def I2 (T : Tb) (W : WX) (β : List Addr) (σ : L2.St) (D : Addr) (α1 : List (Option Addr)) (H1 : Hp) (own : Bool) (vs : List Nat) (ρ : Rho) (Q : VK) (rest : Sto → Out (List R)) (H : Hp) : Prop :=
  ∃ α2 S2 ars avs, Ext α1 H1 α2 H ∧ Lt β α1 H1 (D :: β) α2 H ∧ Rl T (D :: β) α2 S2 H ∧ H D = some (.lst avs) ∧ Vrs T (D :: β) α2 H ars avs ∧ Er T (D :: β) α2 H (wipe σ vs) (wipeR ρ vs) ∧
    PostG T β W (Vr T β) σ ((rest S2).bind fun rs S3 => fin own (ars ++ rs) S3) α1 H1 Q
/-- the inner loop's state -/
def I1 (T : Tb) (W : WX) (β : List Addr) (σ : L2.St) (D : Addr) (α1 : List (Option Addr)) (H1 : Hp) (own : Bool) (vs : List Nat) (ρ : Rho) (Q : VK) (rest : Sto → Out (List R)) (σ2 : L2.St) (vs1 : List Nat) (ρ1 : Rho) (α5 : List (Option Addr)) (H5 : Hp) (inner : Sto → Out (List R)) (H : Hp) : Prop :=
  ∃ α2 S2 ars avs, Ext α1 H1 α2 H ∧ Lt β α1 H1 (D :: β) α2 H ∧ Rl T (D :: β) α2 S2 H ∧ H D = some (.lst avs) ∧ Vrs T (D :: β) α2 H ars avs ∧ Er T (D :: β) α2 H (wipe σ vs) (wipeR ρ vs) ∧
    Lt (D :: β) α5 H5 (D :: β) α2 H ∧ Er T (D :: β) α2 H (wipe σ2 vs1) (wipeR ρ1 vs1) ∧
    PostG T β W (Vr T β) σ ((inner S2).bind fun ys S4 => (rest S4).bind fun zs S5 => fin own (ars ++ (ys ++ zs)) S5) α1 H1 Q
section
variable {X : Cx} {T : Tb} {W : WX} {elt tg iter tg1 iter1 : Expr} {ifs ifs1 : List Expr} {scope : Scope} {pos spos : Pos} {im im1 : IM} {g g1 : GM} {t t1 : TM} {m : EM}
end
end
end Pev
/-! Pev, sixteenth part: what the printed derivations use. -/
namespace Pev
open PySem PySem.Spec PyProof.Rows L2

theorem hu1 {k : Nat} {A : Around} (h : RoomG k A) : A.units + 64 < cLine := by have := h.un; omega
theorem hu65 {k : Nat} {A : Around} (h : RoomG k A) : A.units + 65 < cLine := by have := h.un; omega
def blkB (N : List Str) (sc scope : Scope) (own : List (Str × Nat)) : Bool :=
  decide (scope.kind = .function) && (scope.names.all (fun y => decide (scope.names.lookup y.1 = some y.2)) && (own.all (fun p => decide (N[p.2]? = some p.1)) &&
    (scope.names.all (fun y => decide (y.2 ≠ .free) || (decide (sc.names.lookup y.1 = some .cell) || decide (sc.names.lookup y.1 = some .free))) &&
      scope.names.all (fun y => decide (y.2 ≠ .local ∧ y.2 ≠ .cell) || (decide (y.1 ∈ own.map (·.1)) || decide (y.1 ∉ N))))))
theorem blk_mk {N : List Str} {sc scope : Scope} {own : List (Str × Nat)} (h : blkB N sc scope own = true) : BlkOk N sc scope own := by
  unfold blkB at h
  obtain ⟨h1, h⟩ := Bool.and_eq_true_iff.mp h
  obtain ⟨h2, h⟩ := Bool.and_eq_true_iff.mp h
  obtain ⟨h3, h⟩ := Bool.and_eq_true_iff.mp h
  obtain ⟨h4, h5⟩ := Bool.and_eq_true_iff.mp h
  refine ⟨of_decide_eq_true h1, fun y hy => of_decide_eq_true (List.all_eq_true.mp h2 y hy), fun p hp => of_decide_eq_true (List.all_eq_true.mp h3 p hp), fun y hy e => ?_, fun y hy e => ?_⟩
  · have q := List.all_eq_true.mp h4 y hy
    rw [Bool.or_eq_true, Bool.or_eq_true] at q
    rcases q with q | q | q
    · exact absurd e (of_decide_eq_true q)
    · exact .inl (of_decide_eq_true q)
    · exact .inr (of_decide_eq_true q)
  · have q := List.all_eq_true.mp h5 y hy
    rw [Bool.or_eq_true, Bool.or_eq_true] at q
    rcases q with q | q | q
    · obtain ⟨q1, q2⟩ := of_decide_eq_true q
      rcases e with e | e
      · exact absurd e q1
      · exact absurd e q2
    · exact .inl (of_decide_eq_true q)
    · exact .inr (of_decide_eq_true q)
/-- an own error's class against a clause's class -/
theorem exm_sub {K : PySem.W.Frag} {C D : Addr} {b : Bool} (h1 : PySem.W.subIn K (.ref D) (.type "BaseException") = some true) (h2 : PySem.W.isClsIn K D = true) (h3 : PySem.W.typeIn K (.ref D) = some (.type "type")) (h4 : PySem.W.subIn K (.ref C) (.ref D) = some b) :
    PySem.W.exmOne K (.ref C) (.ref D) = some b := by
  have e2 : ((PySem.W.clsIn K D).isSome && PySem.W.typeIn K (.ref D) == some (.type "type")) = true := by
    have q : (PySem.W.clsIn K D).isSome = true := h2
    rw [q, h3] <;> rfl
  unfold PySem.W.exmOne
  rw [h1]
  simp only [beq_self_eq_true, if_true]
  show (if ((PySem.W.clsIn K D).isSome && PySem.W.typeIn K (.ref D) == some (.type "type")) = true then PySem.W.subIn K (.ref C) (.ref D) else none) = some b
  rw [if_pos e2]
  exact h4

/-! ### the law -/
def spLaw (K : PySem.W.Frag) (tabs : List (Addr × Str) := []) : Sp := fun vs H Q _ => ∃ (a : Addr) (ns : List Int), vs = [.ref a] ∧ SqL K H a (ns.map V.int) ∧ ns.length ≤ 63 ∧ LamX.Tabs tabs H ∧ ∀ H', Q (.bl true) H'
theorem sqL_hid {K : PySem.W.Frag} {H : Hp} {a : Addr} {xs : List V} (h : SqL K H a xs) : SqL K (hid [] H) a xs := by
  have nb : a ∉ ([] : List Addr) := List.not_mem_nil
  rcases h with (h | ⟨o, h⟩) | h
  · exact .inl (.inl (hid_some.mpr ⟨nb, h, trivial⟩))
  · exact .inl (.inr ⟨o, hid_some.mpr ⟨nb, h, trivial⟩⟩)
  · exact .inr h
theorem ints_dq {K : PySem.W.Frag} {H : Hp} : ∀ ns : List Int, DqAll K H (ns.map V.int) (ns.map PyData.int)
  | [] => .nil
  | n :: ns => .cons (.int n) (ints_dq ns)
theorem law_sp {T : Tb} {m : FM} (h : ∀ ns : List Int, ns.length ≤ 63 → ∃ S, m [.ro (ns.map .int)] [] = .ok (.dat (.bool true)) S) : ∀ vs H Q E, spLaw T.K T.tabs vs H Q E → spF T 1 m vs H Q E := by
  intro vs H Q E ⟨a, ns, e, hS, hl, ht, q⟩
  subst e
  obtain ⟨S, hm⟩ := h ns hl
  refine ⟨rfl, [], [], [], [.ro (ns.map .int)], .nil (fun b hb => by cases hb) ht, .cons ⟨a, _, rfl, by rw [blk_nil]; exact sqL_hid hS, ints_dq ns⟩ .nil, ?_⟩
  rw [hm]
  intro α' H' v _ _ hv
  cases hv
  exact q H'
theorem law_fn {P : Program} {w : World} {T : Tb} {mg : Str → Option Value} {base : Heap} {k : Nat} {f : Addr} {fd : FuncData} {ps : List Str} {m : FM} (F : FnG P w T.K mg base k f fd ps (spF T 1 m)) (h : ∀ ns : List Int, ns.length ≤ 63 → ∃ S, m [.ro (ns.map .int)] [] = .ok (.dat (.bool true)) S) :
    FnG P w T.K mg base k f fd ps (spLaw T.K T.tabs) := F.imp (law_sp h)
end Pev
/-! Pev, seventeenth part: the ends of the printed texts. -/
namespace Pev
open PySem PySem.Spec PyProof.Rows L2

def posAt (l : List Pos) (i : Nat) : Pos := l.getD i ⟨0, 0, 0, 0⟩
/-- an __init__ as bodyE has it -/
structure ErrSt (st : Stmt) (q Fd : Str) : Prop where
  body : ∃ msg l, defBody st = bodyE Fd msg (posAt l) ∧ OneLine msg (posAt l)
  kind : (defScope st).kind = .function
  co : (defScope st).isCoroutine = false
  gen : (defScope st).isGenerator = false
  nocell : ∀ x ∈ (defScope st).names, x.2 ≠ .cell
  slf : (defScope st).names.lookup ("self" : Str) = some .local
  fld : (defScope st).names.lookup Fd = some .local
  sup : (defScope st).names.lookup ("super" : Str) = some .globalImplicit
  cls : (defScope st).names.lookup ("__class__" : Str) = some .free
  hd : ∃ ar, ((defArgs st).posonlyargs ++ (defArgs st).args).head? = some ar ∧ ar.arg = "self"
  bind : ∀ (cl : List (Str × Addr)) (kV doc pm : Value) (an : Option Addr) (cdv ct x v : Value), bindArgs (PySem.W.fnX "__init__" q (defArgs st) (defBody st) (defScope st) cl .none kV doc pm an cdv ct) ⟨[x, v], []⟩ = pure [(("self" : Str), x), (Fd, v)]
  bindK : ∀ (cl : List (Str × Addr)) (kV doc pm : Value) (an : Option Addr) (cdv ct x v : Value), bindArgs (PySem.W.fnX "__init__" q (defArgs st) (defBody st) (defScope st) cl .none kV doc pm an cdv ct) ⟨[x], [(Fd, v)]⟩ = pure [(("self" : Str), x), (Fd, v)]
  ne : (Fd == ("self" : Str)) = false
  nd : (Fd == ("__debug__" : Str)) = false
theorem err_mk {K : PySem.W.Frag} {P : Program} {mg : Str → Option Value} {C B fI cda cc : Addr} {Fd q : Str} {st : Stmt} (S : ErrSt st q Fd)
    {nm q2 : Str} {N : Addr} {bs : List Value} {sn : List Str} {sub : List Value} {ab : Bool} {col : Option Bool} {dd : Option Addr} {k0 k1 k2 k3 k5 : Option Value}
    {oc kV doc pm ct ccl cl : Value} {od an cdd cld : Option Addr} {osl ccs csl : Array (Option Value)} {vs : Array Value} {file : Str} {tf : Tok}
    (xL : K.lookup C = some (excClassObj nm q2 C N bs [.ref B, .type "Exception", .type "BaseException", .type "object"] true sn sub ab col dd k0 k1 k2 k3 k5 "Exception.__new__"))
    (sa : PySem.W.findIn K (.ref C) "__setattr__" = some (some (.builtin "object.__setattr__"))) (ga : PySem.W.findIn K (.ref C) "__getattribute__" = some (some (.builtin "BaseException.__getattribute__"))) (gg : PySem.W.findIn K (.ref C) "__getattr__" = some none)
    (nb : PySem.W.findIn K (.ref C) Fd = some none) (iC : PySem.W.findIn K (.ref C) "__init__" = some (some (.ref fI))) (tI : PySem.W.typeIn K (.ref fI) = some (.type "function"))
    (lI : K.lookup fI = some ⟨oc, od, .func (PySem.W.fnX "__init__" q (defArgs st) (defBody st) (defScope st) [(("__class__" : Str), cc)] .none kV doc pm an (.ref cda) ct), osl⟩) (cI : PySem.W.codeIn K (.ref cda) q = true)
    (lc : K.lookup cda = some ⟨ccl, cdd, .fields vs, ccs⟩) (vf : vs[2]? = some (.str file tf)) (ff : ((P.main.file : Str) == file) = true) (le : K.lookup cc = some ⟨cl, cld, .cell (some (.ref C)), csl⟩)
    (kC : PySem.W.keepIn K (.ref C) = true) (eC : PySem.W.subIn K (.ref C) (.type "BaseException") = some true) (tC : PySem.W.typeIn K (.ref C) = some (.type "type")) (hC : PySem.W.hasDictIn K C = true)
    (sI : PySem.W.ks_superIn K C C "__init__" = some (some (.builtin "Exception.__init__"))) (op : PySem.W.nsIn K cStatics "thirdparty.any" = some none) (su : mg "super" = none) (top : (P.main.scope.names.lookup ("super" : Str)).isSome = false) :
    ErrTxt K P mg C B fI Fd := by
  obtain ⟨msg, l, hb, ho⟩ := S.body
  obtain ⟨ar, h1, h2⟩ := S.hd
  have hb' : FuncBody.stmts (defBody st) = .stmts (bodyE Fd msg (posAt l)) := congrArg _ hb
  constructor
  · exact ⟨_, _, _, _, _, _, _, _, _, _, _, _, _, _, xL⟩
  · exact sa
  · exact ga
  · exact gg
  · exact nb
  · exact iC
  · exact tI
  · exact kC
  · exact eC
  · exact tC
  · exact hC
  · exact su
  · exact op
  · exact top
  · exact S.ne
  · exact S.nd
  · exact sI
  · exact ⟨oc, od, osl, _, msg, posAt l, cda, cc, vs, file, tf, ccl, cl, cdd, cld, ccs, csl, ar, lI, cI, hb', S.kind, S.co, S.gen, S.nocell, S.slf, S.fld, S.sup, S.cls, rfl, rfl, rfl, rfl, h1, h2, lc, vf, ff, le, ho, fun x v => S.bind _ _ _ _ _ _ _ x v, fun x v => S.bindK _ _ _ _ _ _ _ x v⟩
def tbOf (K : PySem.W.Frag) (cs : List Addr) (fs : List Str) : Tb := { K := K, cls := fun k => cs.getD k 0, fld := fun k => fs.getD k "" }
theorem cx_false {P : Program} {w : World} {H : Hp} {s : Shared} {e : Value} {s' : Shared} (h : L2.CX P w [] H s (fun _ _ _ => False) e s') : False := by
  obtain ⟨_, _, _, _, _, _, _, _, _, _, _, _, z⟩ := h
  exact z
end Pev
/-! Pev, eighteenth part: errors without a field, errors made by a keyword. -/
namespace Pev
open PySem PySem.Spec PyProof.Rows PySem.W PySem.Calls PySem.ESX PySem.HandSPX
section
variable {M : Model} {A : Around} {E : Value → Shared → Prop} {h : Heap} {g : Array GenState} {d : Drawn} {t : Nat} {os : OsState}
variable {nm q : Str} {C N : Addr} {bs bm bmB : List Value} {hdct : Bool} {sn : List Str} {sub : List Value} {ab : Bool} {col : Option Bool} {dd : Option Addr} {k0 k1 k2 k3 k5 : Option Value} {B newId initId : String}
end
section
variable {prog : Program} {w : World} {A : Around} {E : Value → Shared → Prop} {R : Result → Shared → Prop} {h : Heap} {g : Array GenState} {d : Drawn} {t : Nat} {os : OsState}
variable {nm q : Str} {C N : Addr} {bs bm bmB : List Value} {hdct : Bool} {sn : List Str} {sub : List Value} {ab : Bool} {col : Option Bool} {dd : Option Addr} {k0 k1 k2 k3 k5 : Option Value} {B newId initId : String}
end

/-! ### an __init__ without a field -/
def bodyE0 (msg : Str) (p : Nat → Pos) : List Stmt :=
  [.Expr (.Call (.Attribute (.Call (.Name "super" (p 0)) [] [] (p 1)) "__init__" (p 2)) [.Constant (.str msg) 0 (p 3)] [] (p 4)) (p 5)]
/-- as ErrTxt, for a class whose __init__ takes self alone -/
structure ErrTxt0 (K : Frag) (P : Program) (mg : Str → Option Value) (C B fI : Addr) : Prop where
  cls : ∃ nm q N bs sn sub ab col dd k0 k1 k2 k3 k5, K.lookup C = some (excClassObj nm q C N bs (.ref B :: exTail) true sn sub ab col dd k0 k1 k2 k3 k5 "Exception.__new__")
  iC : findIn K (.ref C) "__init__" = some (some (.ref fI))
  tC : typeIn K (.ref fI) = some (.type "function")
  kC : keepIn K (.ref C) = true
  exC : subIn K (.ref C) (.type "BaseException") = some true
  tyC : typeIn K (.ref C) = some (.type "type")
  su : mg "super" = none
  op : nsIn K cStatics "thirdparty.any" = some none
  top : (P.main.scope.names.lookup ("super" : Str)).isSome = false
  sI : ks_superIn K C C "__init__" = some (some (.builtin "Exception.__init__"))
  fn : ∃ (oc : Value) (od : Option Addr) (osl : Array (Option Value)) (fd : FuncData) (msg : Str) (p : Nat → Pos) (cda cc : Addr) (vs : Array Value) (file : Str) (tf : Tok) (ccl cl : Value) (cdd cld : Option Addr) (ccs csl : Array (Option Value)) (ar : Arg),
    K.lookup fI = some ⟨oc, od, .func fd, osl⟩ ∧ codeIn K fd.code fd.qualname = true ∧ fd.body = .stmts (bodyE0 msg p) ∧ fd.scope.kind = .function ∧ fd.scope.isCoroutine = false ∧ fd.scope.isGenerator = false ∧
    (∀ x ∈ fd.scope.names, x.2 ≠ .cell) ∧ fd.scope.names.lookup ("self" : Str) = some .local ∧ fd.scope.names.lookup ("super" : Str) = some .globalImplicit ∧ fd.scope.names.lookup ("__class__" : Str) = some .free ∧
    fd.globals = mainGlobals ∧ fd.builtins = builtinsNs ∧ fd.closure = [(("__class__" : Str), cc)] ∧ fd.code = .ref cda ∧ (fd.params.posonlyargs ++ fd.params.args).head? = some ar ∧ ar.arg = "self" ∧
    K.lookup cda = some ⟨ccl, cdd, .fields vs, ccs⟩ ∧ vs[2]? = some (.str file tf) ∧ ((P.main.file : Str) == file) = true ∧ K.lookup cc = some ⟨cl, cld, .cell (some (.ref C)), csl⟩ ∧
    OneLine msg p ∧ (∀ x : Value, bindArgs fd ⟨[x], []⟩ = pure [(("self" : Str), x)])
structure Inited0 (h h' : Heap) (x C : Addr) : Prop where
  keep : ∀ b o, b ≠ x → h.get? b = some o → h'.get? b = some o
  obj : ∃ t1 : Addr, h'.get? x = some { cls := .ref C, data := .fields #[.ref t1, .none, .none, .none, .bool false, .none] }
structure Made0 (h h' : Heap) (e C : Addr) : Prop where
  keep : ∀ b o, h.get? b = some o → h'.get? b = some o
  new : h.objs.size ≤ e
  obj : ∃ oe vs, h'.get? e = some oe ∧ oe.cls = .ref C ∧ oe.dict = none ∧ oe.data = .fields vs ∧ vs[1]? = some .none
section
variable {prog : Program} {w : World} {A : Around} {R : Result → Shared → Prop} {s : Shared} {K : Frag} {mg : Str → Option Value} {C B fI : Addr} {Fd : Str}
end
end Pev
/-! Pev, eighteenth part: reasoning about mirrors. -/
namespace Pev
open PySem L2

def outD : Out R → Option PyData
  | .ok r S => snap S depS r
  | _ => none
def outX : Out R → Option (Nat × Option PyData)
  | .exc c f _ => some (c, f)
  | _ => none
/-- m answers d for these data -/
def Gv (m : FM) (ds : List PyData) (d : PyData) : Prop := outD (m (ds.map .dat) []) = some d
def Tw (m : FM) (ds : List PyData) (c : Nat) (f : PyData) : Prop := outX (m (ds.map .dat) []) = some (c, some f)
theorem pure_gives {m : FM} {ds : List PyData} {d : PyData} (h : Gv m ds d) {rs : List R} {S : Sto} (e : rs.mapM (snap S depS) = some ds) (hf : (allD rs || free d) = true) : pureF m rs S = .ok (.dat d) S := by
  unfold Gv at h
  unfold pureF
  rw [e]
  dsimp only
  cases q : m (ds.map .dat) [] with
  | ok r S' =>
    rw [q] at h
    have h' : snap S' depS r = some d := h
    dsimp only
    rw [h']
    dsimp only
    rw [if_pos hf]
  | exc c f S' => rw [q] at h; cases h
  | stuck => rw [q] at h; cases h
theorem pure_throws {m : FM} {ds : List PyData} {c : Nat} {f : PyData} (h : Tw m ds c f) {rs : List R} {S : Sto} (e : rs.mapM (snap S depS) = some ds) (hf : (allD rs || free f) = true) : pureF m rs S = .exc c (some f) S := by
  unfold Tw at h
  unfold pureF
  rw [e]
  dsimp only
  cases q : m (ds.map .dat) [] with
  | ok r S' => rw [q] at h; cases h
  | exc c' f' S' =>
    rw [q] at h
    have h' : some (c', f') = some (c, some f) := h
    cases h'
    dsimp only
    rw [if_pos (show (allD rs || freeO (some f)) = true from hf)]
  | stuck => rw [q] at h; cases h
theorem snap_dat {S : Sto} {n : Nat} {d : PyData} : snap S n (.dat d) = some d := by unfold snap; rfl
theorem outD_dat {d : PyData} {S : Sto} : outD (.ok (.dat d) S) = some d := snap_dat
/-! ### loops -/
theorem for_rule {keep : List (Nat × List R)} {g : GM} {b : SM} {Q : OutS → Prop} (I : Nat → Rho → Sto → Prop) (rs : List R) {ρ : Rho} {S : Sto} (h0 : I 0 ρ S) (hst : ∀ i ρ S, i ≤ rs.length → I i ρ S → stands S keep = true)
    (step : ∀ i r ρ S, rs[i]? = some r → I i ρ S → ∃ ρ1, g r ρ = some ρ1 ∧ match b ρ1 S with
      | .nx ρ2 S2 => I (i + 1) ρ2 S2
      | .ct ρ2 S2 => I (i + 1) ρ2 S2
      | .bk ρ2 S2 => Q (.nx ρ2 S2)
      | .rt r S2 => Q (.rt r S2)
      | .exc c f ρ2 S2 => Q (.exc c f ρ2 S2)
      | .stuck => Q .stuck) (hd : ∀ ρ S, I rs.length ρ S → Q (.nx ρ S)) : Q (forLoop keep g b rs ρ S) := by
  suffices h : ∀ (qs : List R) (i : Nat) (ρ : Rho) (S : Sto), i + qs.length = rs.length → rs.drop i = qs → I i ρ S → Q (forLoop keep g b qs ρ S) from h rs 0 ρ S (by simp) rfl h0
  intro qs
  induction qs with
  | nil =>
    intro i ρ S e1 e2 hI
    have ei : i = rs.length := by simpa using e1
    unfold forLoop
    rw [if_pos (hst i ρ S (by omega) hI)]
    exact hd ρ S (ei ▸ hI)
  | cons r qs ih =>
    intro i ρ S e1 e2 hI
    have hlt : i < rs.length := by simp at e1; omega
    have hr : rs[i]? = some r := by
      have : (rs.drop i)[0]? = some r := by rw [e2]; rfl
      simpa using this
    have e3 : rs.drop (i + 1) = qs := by
      have : (rs.drop i).drop 1 = qs := by rw [e2]; rfl
      simpa [List.drop_drop, Nat.add_comm] using this
    obtain ⟨ρ1, hg, hb⟩ := step i r ρ S hr hI
    unfold forLoop
    rw [if_pos (hst i ρ S (by omega) hI), hg]
    dsimp only
    have e4 : i + 1 + qs.length = rs.length := by simp at e1; omega
    cases q : b ρ1 S with
    | nx ρ2 S2 => rw [q] at hb; exact ih (i + 1) ρ2 S2 e4 e3 hb
    | ct ρ2 S2 => rw [q] at hb; exact ih (i + 1) ρ2 S2 e4 e3 hb
    | bk ρ2 S2 => rw [q] at hb; exact hb
    | rt r S2 => rw [q] at hb; exact hb
    | exc c f ρ2 S2 => rw [q] at hb; exact hb
    | stuck => rw [q] at hb; exact hb
/-- a loop that goes through -/
theorem for_nx {keep : List (Nat × List R)} {g : GM} {b : SM} (I : Nat → Rho → Sto → Prop) (rs : List R) {ρ : Rho} {S : Sto} (h0 : I 0 ρ S) (hst : ∀ i ρ S, i ≤ rs.length → I i ρ S → stands S keep = true)
    (step : ∀ i r ρ S, rs[i]? = some r → I i ρ S → ∃ ρ1, g r ρ = some ρ1 ∧ ∃ ρ2 S2, b ρ1 S = .nx ρ2 S2 ∧ I (i + 1) ρ2 S2) : ∃ ρ' S', forLoop keep g b rs ρ S = .nx ρ' S' ∧ I rs.length ρ' S' := by
  refine for_rule (Q := fun o => ∃ ρ' S', o = .nx ρ' S' ∧ I rs.length ρ' S') I rs h0 hst (fun i r ρ S hr hI => ?_) fun ρ S hI => ⟨ρ, S, rfl, hI⟩
  obtain ⟨ρ1, hg, ρ2, S2, hb, h2⟩ := step i r ρ S hr hI
  exact ⟨ρ1, hg, by rw [hb]; exact h2⟩
/-- a comprehension whose test and value leave the store -/
theorem lc_pure {α : Type} {keep : List (Nat × List R)} {g : GM} {t : TM} {elt : EM} {ρ : Rho} {S : Sto} (enc : α → R) (p : α → Bool) (f : α → R) (hst : stands S keep = true) (xs : List α)
    (h : ∀ a ∈ xs, ∃ ρ1, g (enc a) ρ = some ρ1 ∧ t ρ1 S = .ok (p a) S ∧ (p a = true → elt ρ1 S = .ok (f a) S)) : lcLoop keep g t elt ρ (xs.map enc) S = .ok ((xs.filter p).map f) S := by
  induction xs with
  | nil => unfold lcLoop; rw [List.map_nil]; dsimp only; rw [if_pos hst]; rfl
  | cons a xs ih =>
    obtain ⟨ρ1, h1, h2, h3⟩ := h a List.mem_cons_self
    have ih' := ih fun a ha => h a (List.mem_cons_of_mem _ ha)
    rw [List.map_cons]
    unfold lcLoop
    rw [if_pos hst, h1]
    dsimp only
    rw [h2]
    cases q : p a with
    | false =>
      simp only [noX, Out.bind]
      rw [ih', List.filter_cons_of_neg (by simp [q])]
    | true =>
      simp only [noX, Out.bind]
      rw [h3 q]
      simp only []
      rw [ih', List.filter_cons_of_pos q]
      rfl
/-- a loop that looks for the first that answers -/
theorem for_find {α : Type} {keep : List (Nat × List R)} {g : GM} {b : SM} {S : Sto} (enc : α → R) (f : α → Option R) (I : Rho → Prop) (hst : stands S keep = true) : ∀ (xs : List α) (ρ : Rho), I ρ →
    (∀ a ∈ xs, ∀ ρ, I ρ → ∃ ρ1, g (enc a) ρ = some ρ1 ∧ match f a with | some r => b ρ1 S = .rt r S | none => ∃ ρ2, b ρ1 S = .nx ρ2 S ∧ I ρ2) →
    match xs.findSome? f with | some r => forLoop keep g b (xs.map enc) ρ S = .rt r S | none => ∃ ρ', forLoop keep g b (xs.map enc) ρ S = .nx ρ' S ∧ I ρ'
  | [], ρ, hI, _ => ⟨ρ, by unfold forLoop; rw [List.map_nil]; dsimp only; rw [if_pos hst], hI⟩
  | a :: xs, ρ, hI, h => by
    obtain ⟨ρ1, h1, h2⟩ := h a List.mem_cons_self ρ hI
    have e : forLoop keep g b ((a :: xs).map enc) ρ S = match b ρ1 S with
      | .nx ρ2 S2 => forLoop keep g b (xs.map enc) ρ2 S2
      | .ct ρ2 S2 => forLoop keep g b (xs.map enc) ρ2 S2
      | .bk ρ2 S2 => .nx ρ2 S2
      | o => o := by
      rw [List.map_cons]
      conv => lhs; unfold forLoop
      rw [if_pos hst, h1]
      all_goals rfl
    rw [List.findSome?_cons]
    cases q : f a with
    | some r =>
      rw [q] at h2
      dsimp only at h2 ⊢
      rw [e, h2]
    | none =>
      rw [q] at h2
      obtain ⟨ρ2, h3, h4⟩ := h2
      dsimp only
      have ih := for_find enc f I hst xs ρ2 h4 fun a ha => h a (List.mem_cons_of_mem _ ha)
      rw [e, h3]
      exact ih
/-! ### data seen -/
theorem snaps_map {α : Type} {S : Sto} {n : Nat} (f : α → PyData) (xs : List α) : (xs.map fun a => R.dat (f a)).mapM (snap S n) = some (xs.map f) := by
  induction xs with
  | nil => rfl
  | cons a xs ih => rw [List.map_cons, List.mapM_cons, ih, snap_dat]; rfl
theorem snap_obj {α : Type} {S : Sto} {n k : Nat} (f : α → PyData) (xs : List α) (h : S[k]? = some (.lst (xs.map fun a => R.dat (f a)))) : snap S (n + 1) (.obj k) = some (.list (xs.map f)) := by
  unfold snap
  rw [h]
  dsimp only
  rw [snaps_map]
  rfl
theorem datAll_f {α : Type} (f : α → PyData) (xs : List α) : datAll (xs.map fun a => R.dat (f a)) = some (xs.map f) := by
  induction xs with
  | nil => rfl
  | cons a xs ih => rw [List.map_cons]; unfold datAll; rw [ih]; rfl
theorem ints_f (xs : List Int) : ints? (xs.map fun a => R.dat (.int a)) = some xs := by
  induction xs with
  | nil => rfl
  | cons a xs ih => rw [List.map_cons]; unfold ints?; rw [ih]; rfl
theorem bls_f {α : Type} (f : α → Bool) (xs : List α) : bls? (xs.map fun a => R.dat (.bool (f a))) = some (xs.map f) := by
  induction xs with
  | nil => rfl
  | cons a xs ih => rw [List.map_cons]; unfold bls?; rw [ih]; rfl
theorem same_f {α : Type} (f : α → PyData) (h : ∀ a, same (f a) (f a) = true) (xs : List α) : sameRs (xs.map fun a => R.dat (f a)) (xs.map fun a => R.dat (f a)) = true := by
  induction xs with
  | nil => rfl
  | cons a xs ih =>
    rw [List.map_cons]
    unfold sameRs
    rw [show sameR (R.dat (f a)) (R.dat (f a)) = true from h a, ih]
    rfl
theorem stands_nil {S : Sto} : stands S [] = true := by unfold stands; rfl
theorem stands_one {S : Sto} {k : Nat} {rs : List R} (h : S[k]? = some (.lst rs)) (hs : sameRs rs rs = true) : stands S [(k, rs)] = true := by
  unfold stands
  rw [h]
  dsimp only
  rw [hs, stands_nil]
  rfl
theorem eqv_int (a b : Int) : PyData.eqv (.int a) (.int b) = decide (a = b) := by
  unfold PyData.eqv
  rw [Bool.eq_iff_iff]
  simp
theorem shaped_int {i : Int} : SeqAt.shaped (.int i) = true := rfl
theorem eq_ints {neg : Bool} {a b : Int} {S : Sto} : bEq neg (.dat (.int a)) (.dat (.int b)) S = .ok (.dat (.bool (if neg then !decide (a = b) else decide (a = b)))) S := by
  unfold bEq
  rw [snap_dat, snap_dat]
  dsimp only
  rw [shaped_int, shaped_int, eqv_int]
  rfl
theorem atI_of {α : Type} {xs : List α} {i : Int} (h0 : 0 ≤ i) (h : i < xs.length) : atI xs i = some (xs[i.toNat]'(by omega)) := by
  unfold atI ixN
  rw [if_pos h0, if_pos h]
  simp only [Option.bind_some]
  exact List.getElem?_eq_getElem (by omega)
theorem isa_self (t : Ty) : t.isa t = true := by cases t <;> rfl
theorem isa_bi : Ty.bl.isa .int = true := rfl
theorem isa_tl : Ty.tup.isa .lst = false := rfl
theorem isa_lt : Ty.lst.isa .tup = false := rfl
theorem isa_ti : Ty.tup.isa .int = false := rfl
theorem isa_li : Ty.lst.isa .int = false := rfl
theorem isa_it : Ty.int.isa .tup = false := rfl
theorem at0 {α : Type} {x : α} {xs : List α} : atI (x :: xs) 0 = some x := by rw [atI_of (Int.le_refl _) (by simp only [List.length_cons]; omega)]; rfl
theorem at1 {α : Type} {x y : α} {xs : List α} : atI (x :: y :: xs) 1 = some y := by rw [atI_of (by omega) (by simp only [List.length_cons]; omega)]; rfl
theorem at2 {α : Type} {x y z : α} {xs : List α} : atI (x :: y :: z :: xs) 2 = some z := by rw [atI_of (by omega) (by simp only [List.length_cons]; omega)]; rfl
theorem atLast {α : Type} {xs : List α} {x : α} : atI (xs ++ [x]) (-1) = some x := by
  unfold atI ixN
  rw [if_neg (by omega), List.length_append, List.length_singleton, if_pos (by omega)]
  simp only [Option.bind_some]
  rw [show (-1 + ((xs.length + 1 : Nat) : Int)).toNat = xs.length by omega]
  simp
theorem at_map {α β : Type} {f : α → β} {xs : List α} {i : Int} {x : α} (h0 : 0 ≤ i) (h : xs[i.toNat]? = some x) : atI (xs.map f) i = some (f x) := by
  have hl := (List.getElem?_eq_some_iff.mp h).1
  rw [atI_of h0 (by rw [List.length_map]; omega), List.getElem_map]
  rw [List.getElem?_eq_getElem hl] at h
  cases h
  rfl
theorem map_dat {α : Type} {f : α → PyData} {xs : List α} : List.map R.dat (List.map f xs) = xs.map fun a => R.dat (f a) := by rw [List.map_map]; rfl
theorem app_map {α β : Type} {f : α → β} {xs ys : List α} : List.map f xs ++ List.map f ys = (xs ++ ys).map f := List.map_append.symm
theorem two_small : (2 : Nat) ≤ sizeLine := by decide
theorem three_small : (3 : Nat) ≤ sizeLine := by decide
theorem one_small : (1 : Nat) ≤ sizeLine := by decide
theorem nil_small : (0 : Nat) ≤ sizeLine := by decide
theorem cutR_f {α β : Type} {f : α → β} {xs : List α} {lo hi : Option Int} : cutR (xs.map f) lo hi = (cutR xs lo hi).map f := by
  unfold cutR
  rw [List.length_map, ← List.map_drop, ← List.map_take]
theorem cut_first {α : Type} {xs : List α} {k : Nat} : cutR xs none (some (k : Int)) = xs.take k := by
  unfold cutR
  rw [HT.sIx_none, show HT.sIx xs.length xs.length (some (k : Int)) = min k xs.length from HT.sIx_nat xs.length xs.length k, List.drop_zero, Nat.sub_zero]
  rcases Nat.le_total k xs.length with h | h
  · rw [Nat.min_eq_left h]
  · rw [Nat.min_eq_right h, List.take_of_length_le (Nat.le_refl _), List.take_of_length_le h]
end Pev
/-! Pev, nineteenth part: raising errors without a field, reading the field of a made one. -/
namespace Pev
open PySem PySem.Spec PyProof.Rows L2
section
variable {X : Cx} {C B fI : Addr} {Fd : Str}
end
section
variable {X : Cx} {T : Tb} {W : WX} {m : EM}
end

/-! ### all errors of a text -/
def ErrsN (K : PySem.W.Frag) (P : Program) (mg : Str → Option Value) (cls : Nat → Addr) (eB : Addr) (ie : Nat → Addr) (fld : Nat → Str) (k : Nat) : List Bool → Prop
  | [] => True
  | true :: l => ErrTxt K P mg (cls k) eB (ie k) (fld k) ∧ ErrsN K P mg cls eB ie fld (k + 1) l
  | false :: l => ErrTxt0 K P mg (cls k) eB (ie k) ∧ ErrsN K P mg cls eB ie fld (k + 1) l
section
variable {K : PySem.W.Frag} {P : Program} {mg : Str → Option Value} {cls ie : Nat → Addr} {eB : Addr} {fld : Nat → Str}
theorem errs_at : ∀ {l : List Bool} {k : Nat} (h : ErrsN K P mg cls eB ie fld k l) (i : Nat) (b : Bool), l[i]? = some b → if b = true then ErrTxt K P mg (cls (k + i)) eB (ie (k + i)) (fld (k + i)) else ErrTxt0 K P mg (cls (k + i)) eB (ie (k + i))
  | [], _, _, i, b, e => by simp at e
  | true :: l, k, h, 0, b, e => by
    simp at e
    subst e
    exact h.1
  | false :: l, k, h, 0, b, e => by
    simp at e
    subst e
    exact h.1
  | true :: l, k, h, i + 1, b, e => by
    have q := errs_at h.2 i b (by simpa using e)
    rw [show k + (i + 1) = k + 1 + i by omega]
    exact q
  | false :: l, k, h, i + 1, b, e => by
    have q := errs_at h.2 i b (by simpa using e)
    rw [show k + (i + 1) = k + 1 + i by omega]
    exact q
theorem errs_1 {l : List Bool} (h : ErrsN K P mg cls eB ie fld 0 l) (i : Nat) (e : l[i]? = some true := by rfl) : ErrTxt K P mg (cls i) eB (ie i) (fld i) := by
  have q := errs_at h i true e
  rw [Nat.zero_add] at q
  exact q
theorem errs_0 {l : List Bool} (h : ErrsN K P mg cls eB ie fld 0 l) (i : Nat) (e : l[i]? = some false := by rfl) : ErrTxt0 K P mg (cls i) eB (ie i) := by
  have q := errs_at h i false e
  rw [Nat.zero_add] at q
  exact q
/-- what both kinds say of the class -/
theorem cls_sub {C D B : Addr} (h : ∃ nm q N bs sn sub ab col dd k0 k1 k2 k3 k5, K.lookup C = some (excClassObj nm q C N bs (.ref B :: PySem.ESX.exTail) true sn sub ab col dd k0 k1 k2 k3 k5 "Exception.__new__")) :
    PySem.W.subIn K (.ref C) (.ref D) = some (decide (D = C) || decide (D = B)) ∧ PySem.W.isClsIn K C = true := by
  obtain ⟨nm, q, N, bs, sn, sub, ab, col, dd, k0, k1, k2, k3, k5, hC⟩ := h
  have hcl : PySem.W.clsIn K C = some { name := nm, bases := bs, mro := .ref C :: .ref B :: PySem.ESX.exTail, ns := N, qualname := q, hasDict := true, slotNames := sn, subclasses := sub, abstract := ab, collection := col, hasDel := false } := by unfold PySem.W.clsIn; rw [hC] <;> rfl
  refine ⟨?_, by unfold PySem.W.isClsIn; rw [hcl]; rfl⟩
  show PySem.W.mroIn K C _ = _
  unfold PySem.W.mroIn
  rw [hcl, Option.bind_some]
  rw [if_neg (show ¬ ((Value.ref C :: Value.ref B :: PySem.ESX.exTail).isEmpty = true) from fun z => Bool.false_ne_true z)]
  have t : PySem.ESX.exTail.contains (Value.ref D) = false := rfl
  rw [List.contains_cons, List.contains_cons, t, Bool.or_false]
  have e1 : ∀ a b : Addr, ((Value.ref a : Value) == .ref b) = decide (a = b) := fun a b => by
    by_cases z : a = b
    · subst z; simp
    · rw [decide_eq_false z]
      exact beq_eq_false_iff_ne.mpr fun y => z (by cases y; rfl)
  rw [e1, e1]
theorem errs_cls {l : List Bool} (h : ErrsN K P mg cls eB ie fld 0 l) (i : Nat) (hi : i < l.length) : (∃ nm q N bs sn sub ab col dd k0 k1 k2 k3 k5, K.lookup (cls i) = some (excClassObj nm q (cls i) N bs (.ref eB :: PySem.ESX.exTail) true sn sub ab col dd k0 k1 k2 k3 k5 "Exception.__new__")) ∧
    PySem.W.subIn K (.ref (cls i)) (.type "BaseException") = some true ∧ PySem.W.typeIn K (.ref (cls i)) = some (.type "type") := by
  cases e : l[i]? with
  | none => exact absurd (List.getElem?_eq_none_iff.mp e) (by omega)
  | some b =>
    cases b with
    | true => exact ⟨(errs_1 h i e).cls, (errs_1 h i e).exC, (errs_1 h i e).tyC⟩
    | false => exact ⟨(errs_0 h i e).cls, (errs_0 h i e).exC, (errs_0 h i e).tyC⟩
/-- a clause that names the j-th class -/
theorem hits_row {l : List Bool} (h : ErrsN K P mg cls eB ie fld 0 l) (nd : ∀ i j, i < l.length → j < l.length → cls i = cls j → i = j) (nB : ∀ i, i < l.length → cls i ≠ eB) (j : Nat) (hits : List Bool) (hj : j < l.length := by decide) (hh : hits = (List.range l.length).map fun i => decide (i = j) := by decide)
    (k : Nat) (b : Bool) (e : hits[k]? = some b) : PySem.W.exmOne K (.ref (cls k)) (.ref (cls j)) = some b := by
  subst hh
  rw [List.getElem?_map] at e
  obtain ⟨i, e1, e2⟩ := Option.map_eq_some_iff.mp e
  have hk : k < l.length := by
    have := (List.getElem?_eq_some_iff.mp e1).1
    simpa using this
  rw [List.getElem?_range hk] at e1
  cases e1
  obtain ⟨c1, c2, c3⟩ := errs_cls h j hj
  refine exm_sub c2 (cls_sub (D := eB) c1).2 c3 ?_
  rw [(cls_sub (errs_cls h k hk).1).1, ← e2, decide_eq_false (nB j hj), Bool.or_false]
  by_cases z : k = j
  · subst z; simp
  · rw [decide_eq_false z, decide_eq_false fun y => z (nd _ _ hj hk y).symm]
end
def GlobsN (mg : Str → Option Value) (cls : Nat → Addr) (k : Nat) : List Str → Prop
  | [] => True
  | x :: l => mg x = some (.ref (cls k)) ∧ GlobsN mg cls (k + 1) l
theorem globs_at {mg : Str → Option Value} {cls : Nat → Addr} : ∀ {l : List Str} {k : Nat} (h : GlobsN mg cls k l) (i : Nat) (x : Str), l[i]? = some x → mg x = some (.ref (cls (k + i)))
  | [], _, _, i, x, e => by simp at e
  | y :: l, k, h, 0, x, e => by
    simp at e
    subst e
    exact h.1
  | y :: l, k, h, i + 1, x, e => by
    have q := globs_at h.2 i x (by simpa using e)
    rw [show k + (i + 1) = k + 1 + i by omega]
    exact q
theorem globs_0 {mg : Str → Option Value} {cls : Nat → Addr} {l : List Str} (h : GlobsN mg cls 0 l) (i : Nat) {x : Str} (e : l[i]? = some x := by rfl) : mg x = some (.ref (cls i)) := by
  have q := globs_at h i x e
  rw [Nat.zero_add] at q
  exact q
theorem fld_at {K : PySem.W.Frag} {P : Program} {mg : Str → Option Value} {cls ie : Nat → Addr} {eB : Addr} {fld : Nat → Str} {l : List Bool} {fs : List Str} (h : ErrsN K P mg cls eB ie fld 0 l) (fl : fld = fun k => fs.getD k "") (i : Nat) (n : Str) (e : l[i]? = some true := by rfl) (z : fs.getD i "" = n := by rfl) :
    FldC K (cls i) n ∧ fld i = n := by
  have q : fld i = n := by rw [fl]; exact z
  exact ⟨q ▸ (errs_1 h i e).fld, q⟩
/-- addresses that stand in a list, all unlike -/
theorem getD_nd {cs : List Addr} (h : cs.Nodup) (i j : Nat) (hi : i < cs.length) (hj : j < cs.length) (e : cs.getD i 0 = cs.getD j 0) : i = j := by
  rw [List.getD_eq_getElem?_getD, List.getD_eq_getElem?_getD, List.getElem?_eq_getElem hi, List.getElem?_eq_getElem hj] at e
  exact (List.getElem_inj h).mp e
theorem getD_ne {cs : List Addr} {B : Addr} (h : B ∉ cs) (i : Nat) (hi : i < cs.length) : cs.getD i 0 ≠ B := fun e => by
  rw [List.getD_eq_getElem?_getD, List.getElem?_eq_getElem hi] at e
  exact h (e ▸ List.getElem_mem hi)
/-- err_mk, the module's names last -/
theorem err_mkG {K : PySem.W.Frag} {P : Program} {C B fI cda cc : Addr} {Fd q : Str} {st : Stmt} (S : ErrSt st q Fd)
    {nm q2 : Str} {N : Addr} {bs : List Value} {sn : List Str} {sub : List Value} {ab : Bool} {col : Option Bool} {dd : Option Addr} {k0 k1 k2 k3 k5 : Option Value}
    {oc kV doc pm ct ccl cl : Value} {od an cdd cld : Option Addr} {osl ccs csl : Array (Option Value)} {vs : Array Value} {file : Str} {tf : Tok}
    (xL : K.lookup C = some (excClassObj nm q2 C N bs [.ref B, .type "Exception", .type "BaseException", .type "object"] true sn sub ab col dd k0 k1 k2 k3 k5 "Exception.__new__"))
    (sa : PySem.W.findIn K (.ref C) "__setattr__" = some (some (.builtin "object.__setattr__"))) (ga : PySem.W.findIn K (.ref C) "__getattribute__" = some (some (.builtin "BaseException.__getattribute__"))) (gg : PySem.W.findIn K (.ref C) "__getattr__" = some none)
    (nb : PySem.W.findIn K (.ref C) Fd = some none) (iC : PySem.W.findIn K (.ref C) "__init__" = some (some (.ref fI))) (tI : PySem.W.typeIn K (.ref fI) = some (.type "function"))
    (lI : K.lookup fI = some ⟨oc, od, .func (PySem.W.fnX "__init__" q (defArgs st) (defBody st) (defScope st) [(("__class__" : Str), cc)] .none kV doc pm an (.ref cda) ct), osl⟩) (cI : PySem.W.codeIn K (.ref cda) q = true)
    (lc : K.lookup cda = some ⟨ccl, cdd, .fields vs, ccs⟩) (vf : vs[2]? = some (.str file tf)) (ff : ((P.main.file : Str) == file) = true) (le : K.lookup cc = some ⟨cl, cld, .cell (some (.ref C)), csl⟩)
    (kC : PySem.W.keepIn K (.ref C) = true) (eC : PySem.W.subIn K (.ref C) (.type "BaseException") = some true) (tC : PySem.W.typeIn K (.ref C) = some (.type "type")) (hC : PySem.W.hasDictIn K C = true)
    (sI : PySem.W.ks_superIn K C C "__init__" = some (some (.builtin "Exception.__init__"))) (op : PySem.W.nsIn K cStatics "thirdparty.any" = some none) (top : (P.main.scope.names.lookup ("super" : Str)).isSome = false) :
    ∀ mg : Str → Option Value, mg "super" = none → ErrTxt K P mg C B fI Fd := fun mg su => err_mk S xL sa ga gg nb iC tI lI cI lc vf ff le kC eC tC hC sI op su top
/-- the same without a field -/
structure ErrSt0 (st : Stmt) (q : Str) : Prop where
  body : ∃ msg l, defBody st = bodyE0 msg (posAt l) ∧ OneLine msg (posAt l)
  kind : (defScope st).kind = .function
  co : (defScope st).isCoroutine = false
  gen : (defScope st).isGenerator = false
  nocell : ∀ x ∈ (defScope st).names, x.2 ≠ .cell
  slf : (defScope st).names.lookup ("self" : Str) = some .local
  sup : (defScope st).names.lookup ("super" : Str) = some .globalImplicit
  cls : (defScope st).names.lookup ("__class__" : Str) = some .free
  hd : ∃ ar, ((defArgs st).posonlyargs ++ (defArgs st).args).head? = some ar ∧ ar.arg = "self"
  bind : ∀ (cl : List (Str × Addr)) (kV doc pm : Value) (an : Option Addr) (cdv ct x : Value), bindArgs (PySem.W.fnX "__init__" q (defArgs st) (defBody st) (defScope st) cl .none kV doc pm an cdv ct) ⟨[x], []⟩ = pure [(("self" : Str), x)]
end Pev
/-! Pev, twentieth part: a law's draws out of a box of three numbers. -/
namespace Pev
open PySem
open L2 (atI ixN)
theorem nz1 : ((2147483563 : Int) ≠ 0) = True := eq_true (by decide)
theorem nz2 : ((2147483629 : Int) ≠ 0) = True := eq_true (by decide)
theorem nz3 : ((8191 : Int) ≠ 0) = True := eq_true (by decide)
theorem nz4 : ((8191 : Int).natAbs < 1073741824) = True := eq_true (by decide)
theorem nz5 : ((18 : Int) ≤ 1000000) = True := eq_true (by decide)
theorem nz6 : ((10 : Int).natAbs < 18446744073709551616) = True := eq_true (by decide)
theorem nz7 : ((0 : Int) ≤ 18) = True := eq_true (by decide)
def small (i : Int) : Bool := decide (i.natAbs < 18446744073709551616)
/-- the cell of a box: a * k + b, or the script's k-th number .. -/
def boxB (a b m c d : Int) : SM := (sCons (sSet 2 (eBin (bAdd false) (eBin (bMul false) (eC (.int a)) (eVar 1)) (eC (.int b))))
    (sCons (sIf (mB (eBin bLt (eVar 1) (eArgs gLen (aCons (eVar 0) aNil)))) (sSet 2 (eArgs gAbs (aCons (eBin bIx (eVar 0) (eVar 1)) aNil))) (sIf (mB (eBin bGt (eArgs gLen (aCons (eVar 0) aNil)) (eC (.int 0)))) (sSet 2 (eBin (bAdd false) (eVar 2) (eBin (bMul false) (eBin bMod (eArgs gInt (aCons (eArgs gAbs (aCons (eBin bIx (eVar 0) (eBin bMod (eArgs gInt (aCons (eVar 1) aNil)) (eArgs gLen (aCons (eVar 0) aNil)))) aNil)) aNil)) (eC (.int 2147483629))) (eC (.int m))))) sSkip))
    (sRet (eArgs (gLst true) (aCons (eBin bIx (eArgs (gLst false) (aCons (eC (.int 0)) (aCons (eVar 2) aNil))) (eArgs gInt (aCons (eBin bGe (eVar 2) (eBin bPow (eC (.int 10)) (eC (.int 18)))) aNil))) (aCons (eBin (bAdd false) (eBin bMod (eArgs gInt (aCons (eBin (bAdd false) (eBin (bMul false) (eBin bMod (eArgs gInt (aCons (eVar 2) aNil)) (eC (.int 2147483629))) (eC (.int c))) (eBin (bMul false) (eC (.int d)) (eVar 1))) aNil)) (eC (.int 2147483629))) (eC (.int 1))) (aCons (eC (.int 0)) aNil)))))))
def takeB (p q r s t : Int) : SM := (sCons (sIf (mB (eBin bGt (eBin bIx (eVar 0) (eC (.int 0))) (eC (.int 0)))) (sCons (sSet 2 (eBin bMod (eArgs gInt (aCons (eBin bIx (eVar 0) (eC (.int 0))) aNil)) (eVar 1)))
    (sCons (sPut (eVar 0) (eC (.int 0)) (eBin bDiv (eBin bIx (eVar 0) (eC (.int 0))) (eVar 1)))
    (sRet (eVar 2)))) sSkip)
    (sCons (sPut (eVar 0) (eC (.int 2)) (eBin (bAdd false) (eBin bIx (eVar 0) (eC (.int 2))) (eC (.int 1))))
    (sCons (sSet 3 (eBin bMod (eArgs gInt (aCons (eBin (bAdd false) (eBin (bMul false) (eBin (bAdd false) (eBin bIx (eVar 0) (eC (.int 1))) (eBin (bMul false) (eC (.int p)) (eBin bIx (eVar 0) (eC (.int 2))))) (eC (.int q))) (eC (.int r))) aNil)) (eC (.int 2147483563))))
    (sCons (sPut (eVar 0) (eC (.int 1)) (eBin (bAdd false) (eBin bMod (eArgs gInt (aCons (eBin (bAdd false) (eBin (bMul false) (eVar 3) (eC (.int s))) (eC (.int t))) aNil)) (eC (.int 2147483629))) (eC (.int 1))))
    (sRet (eBin bMod (eArgs gInt (aCons (eBin bDiv (eBin (bAdd false) (eBin (bMul false) (eVar 3) (eC (.int 2147483647))) (eBin bIx (eVar 0) (eC (.int 1)))) (eC (.int 8191))) aNil)) (eVar 1)))))))
def three (a b c : Int) : Cell := .lst [.dat (.int a), .dat (.int b), .dat (.int c)]
theorem mulL {i j : Int} (h : small i = true) : mulOk i j = true := by unfold mulOk; unfold small at h; rw [h]; rfl
theorem mulR {i j : Int} (h : small j = true) : mulOk i j = true := by unfold mulOk; unfold small at h; rw [h]; simp
theorem fmod_in {x n : Int} (h : 0 < n) : 0 ≤ x.fmod n ∧ x.fmod n < n := ⟨Int.fmod_nonneg_of_pos x h, Int.fmod_lt_of_pos x h⟩
theorem set_at {S : Sto} {k : Nat} {c : Cell} (h : k < S.length) : (S.set k c)[k]? = some c := List.getElem?_set_self h
theorem take_ok {p q r s t : Int} (hp : small p = true) (hq : small q = true) (hs : small s = true) {S : Sto} {k : Nat} {a b c many : Int} (hS : S[k]? = some (three a b c)) (hm : 0 < many) (hb : many < 1000000) :
    ∃ x a' b' c', 0 ≤ x ∧ x < many ∧ fnB 4 (takeB p q r s t) [.obj k, .dat (.int many)] S = .ok (.dat (.int x)) (S.set k (three a' b' c')) := by
  have hk : k < S.length := (List.getElem?_eq_some_iff.mp hS).1
  have hn : (many.natAbs < 1073741824) = True := eq_true (by omega)
  have hn2 : (many ≠ 0) = True := eq_true (by omega)
  have i0 : ixN 3 0 = some 0 := rfl
  have i1 : ixN 3 1 = some 1 := rfl
  have i2 : ixN 3 2 = some 2 := rfl
  by_cases h : a > 0
  · refine ⟨a.fmod many, a.fdiv many, b, c, (fmod_in hm).1, (fmod_in hm).2, ?_⟩
    unfold takeB
    simp only [Pev.fnB, Pev.OutS.toF, Pev.sCons, Pev.sSet, Pev.sRet, Pev.sRetN, Pev.sIf, Pev.sSkip, Pev.sExpr, Pev.sTgt, Pev.sFor, Pev.sRaise, Pev.sPut, Pev.putAt, Pev.sPar2, Pev.sPar3, Pev.sTry, Pev.hRun, Pev.OutS.fade, Pev.OutS.calm, Pev.Out.toS, Pev.Out.bind, Pev.noX, Pev.eVar, Pev.eC, Pev.eBin, Pev.eUn, Pev.eArgs, Pev.aCons, Pev.aNil, Pev.needN, Pev.eAnd, Pev.eOr, Pev.eNot, Pev.eIf, Pev.mAnd, Pev.mOr, Pev.mNot, Pev.mB, Pev.mT, Pev.eChain, Pev.truth, Pev.ans, Pev.ofT, Pev.ofB, Pev.bAdd, Pev.bSub, Pev.bMul, Pev.bDiv, Pev.bMod, Pev.bLt, Pev.bLe, Pev.bGt, Pev.bGe, Pev.bIsN, Pev.isNone?, Pev.uNeg, Pev.bIx, Pev.lv, Pev.lvt, Pev.gLen, Pev.gAbs, Pev.gInt, Pev.gBool, Pev.gList, Pev.gTuple, Pev.gTup, Pev.gLst, Pev.newL, Pev.newT, Pev.datAll, Pev.R.d?, Pev.uIs, Pev.tyOf, Pev.eLc, Pev.iOf, Pev.itOf, Pev.iArgs, Pev.gRange1, Pev.gRange2, Pev.gN, Pev.gTp, Pev.gsCons, Pev.gsNil, Pev.tv, Pev.eBMl, Pev.gAppend, Pev.gPop, Pev.gExtend, Pev.cellOf, Pev.eFld, Pev.tYes', Pev.wipeR, Pev.permL, List.map_cons, List.map_nil, List.length_cons, List.length_nil, List.cons_append, List.nil_append, List.append_nil, List.replicate, List.getElem?_cons_zero, List.getElem?_cons_succ, List.getElem?_nil, List.set_cons_zero, List.set_cons_succ, List.set_nil, List.filterMap_cons, List.filterMap_nil, Option.map_some, Option.map_none, Option.bind_some, Option.bind_none, if_true, if_false, Bool.not_true, Bool.not_false, Nat.reduceSub, Nat.reduceAdd, Nat.reduceEqDiff, Nat.reduceLeDiff, reduceIte, ite_true, ite_false, Bool.true_eq_false, Bool.false_eq_true, ↓reduceIte, Nat.zero_add, Nat.add_zero, Nat.sub_zero, Pev.outD_dat, Pev.snap_dat, Pev.outX, List.any_cons, List.any_nil, List.all_cons, List.all_nil, id_eq, Bool.or_false, Bool.or_true, Bool.true_or, Bool.false_or, Bool.and_true, Bool.true_and, Bool.and_false, Bool.false_and, Bool.and_self, Bool.or_self, Int.cast_ofNat_Int, decide_true, decide_false, Pev.isa_self, Pev.isa_bi, Pev.isa_tl, Pev.isa_lt, Pev.isa_ti, Pev.isa_li, Pev.isa_it, Pev.gAll, Pev.gAny, Pev.gSum, Pev.bls?, Pev.ints?, Pev.eq_ints, Pev.datAll_map, Pev.map_dat, Pev.app_map, Pev.datAll_f, Pev.ints_f, Pev.bls_f, Pev.at0, Pev.at1, Pev.at2, Pev.atLast, Pev.two_small, Pev.three_small, Pev.one_small, Pev.nil_small, Pev.oPart, Pev.toI, Pev.eSl, Pev.gSl, Pev.uRev, List.isEmpty_cons, List.isEmpty_nil, hS, three, decide_eq_true h, hn, hn2, true_and, i0, set_at hk]
    all_goals rfl
  · refine ⟨((((b + p * (c + 1)) * q + r).fmod 2147483563 * 2147483647 + ((((b + p * (c + 1)) * q + r).fmod 2147483563 * s + t).fmod 2147483629 + 1)).fdiv 8191).fmod many, a, (((b + p * (c + 1)) * q + r).fmod 2147483563 * s + t).fmod 2147483629 + 1, c + 1, (fmod_in hm).1, (fmod_in hm).2, ?_⟩
    unfold takeB
    simp only [Pev.fnB, Pev.OutS.toF, Pev.sCons, Pev.sSet, Pev.sRet, Pev.sRetN, Pev.sIf, Pev.sSkip, Pev.sExpr, Pev.sTgt, Pev.sFor, Pev.sRaise, Pev.sPut, Pev.putAt, Pev.sPar2, Pev.sPar3, Pev.sTry, Pev.hRun, Pev.OutS.fade, Pev.OutS.calm, Pev.Out.toS, Pev.Out.bind, Pev.noX, Pev.eVar, Pev.eC, Pev.eBin, Pev.eUn, Pev.eArgs, Pev.aCons, Pev.aNil, Pev.needN, Pev.eAnd, Pev.eOr, Pev.eNot, Pev.eIf, Pev.mAnd, Pev.mOr, Pev.mNot, Pev.mB, Pev.mT, Pev.eChain, Pev.truth, Pev.ans, Pev.ofT, Pev.ofB, Pev.bAdd, Pev.bSub, Pev.bMul, Pev.bDiv, Pev.bMod, Pev.bLt, Pev.bLe, Pev.bGt, Pev.bGe, Pev.bIsN, Pev.isNone?, Pev.uNeg, Pev.bIx, Pev.lv, Pev.lvt, Pev.gLen, Pev.gAbs, Pev.gInt, Pev.gBool, Pev.gList, Pev.gTuple, Pev.gTup, Pev.gLst, Pev.newL, Pev.newT, Pev.datAll, Pev.R.d?, Pev.uIs, Pev.tyOf, Pev.eLc, Pev.iOf, Pev.itOf, Pev.iArgs, Pev.gRange1, Pev.gRange2, Pev.gN, Pev.gTp, Pev.gsCons, Pev.gsNil, Pev.tv, Pev.eBMl, Pev.gAppend, Pev.gPop, Pev.gExtend, Pev.cellOf, Pev.eFld, Pev.tYes', Pev.wipeR, Pev.permL, List.map_cons, List.map_nil, List.length_cons, List.length_nil, List.cons_append, List.nil_append, List.append_nil, List.replicate, List.getElem?_cons_zero, List.getElem?_cons_succ, List.getElem?_nil, List.set_cons_zero, List.set_cons_succ, List.set_nil, List.filterMap_cons, List.filterMap_nil, Option.map_some, Option.map_none, Option.bind_some, Option.bind_none, if_true, if_false, Bool.not_true, Bool.not_false, Nat.reduceSub, Nat.reduceAdd, Nat.reduceEqDiff, Nat.reduceLeDiff, reduceIte, ite_true, ite_false, Bool.true_eq_false, Bool.false_eq_true, ↓reduceIte, Nat.zero_add, Nat.add_zero, Nat.sub_zero, Pev.outD_dat, Pev.snap_dat, Pev.outX, List.any_cons, List.any_nil, List.all_cons, List.all_nil, id_eq, Bool.or_false, Bool.or_true, Bool.true_or, Bool.false_or, Bool.and_true, Bool.true_and, Bool.and_false, Bool.false_and, Bool.and_self, Bool.or_self, Int.cast_ofNat_Int, decide_true, decide_false, Pev.isa_self, Pev.isa_bi, Pev.isa_tl, Pev.isa_lt, Pev.isa_ti, Pev.isa_li, Pev.isa_it, Pev.gAll, Pev.gAny, Pev.gSum, Pev.bls?, Pev.ints?, Pev.eq_ints, Pev.datAll_map, Pev.map_dat, Pev.app_map, Pev.datAll_f, Pev.ints_f, Pev.bls_f, Pev.at0, Pev.at1, Pev.at2, Pev.atLast, Pev.two_small, Pev.three_small, Pev.one_small, Pev.nil_small, Pev.oPart, Pev.toI, Pev.eSl, Pev.gSl, Pev.uRev, List.isEmpty_cons, List.isEmpty_nil, hS, three, decide_eq_false h, hn, hn2, nz1, nz2, nz3, nz4, true_and, i0, i1, i2, mulL hp, mulR hq, mulR hs, set_at hk, List.set_set, mulR (show small 2147483647 = true from rfl)]
    all_goals rfl
theorem box_ok {a b m c d : Int} (ha : small a = true) (hm : small m = true) (hc : small c = true) (hd : small d = true) {ns : List Int} {k : Nat} {S : Sto} (hk : k < 100) (hl : ns.length ≤ 63) :
    ∃ x y, fnB 3 (boxB a b m c d) [.ro (ns.map .int), .dat (.int k)] S = .ok (.obj S.length) (S ++ [three x y 0]) := by
  have fin : ∀ cell : Int, ∃ x y, (sRet (eArgs (gLst true) (aCons (eBin bIx (eArgs (gLst false) (aCons (eC (.int 0)) (aCons (eVar 2) aNil))) (eArgs gInt (aCons (eBin bGe (eVar 2) (eBin bPow (eC (.int 10)) (eC (.int 18)))) aNil))) (aCons (eBin (bAdd false) (eBin bMod (eArgs gInt (aCons (eBin (bAdd false) (eBin (bMul false) (eBin bMod (eArgs gInt (aCons (eVar 2) aNil)) (eC (.int 2147483629))) (eC (.int c))) (eBin (bMul false) (eC (.int d)) (eVar 1))) aNil)) (eC (.int 2147483629))) (eC (.int 1))) (aCons (eC (.int 0)) aNil)))))
      [some (.ro (ns.map .int)), some (.dat (.int k)), some (.dat (.int cell))] S = .rt (.obj S.length) (S ++ [three x y 0]) := by
    intro cell
    by_cases h : (10 : Int) ^ (18 : Int).toNat ≤ cell
    · refine ⟨cell, (cell.fmod 2147483629 * c + d * (k : Int)).fmod 2147483629 + 1, ?_⟩
      simp only [Pev.fnB, Pev.OutS.toF, Pev.sCons, Pev.sSet, Pev.sRet, Pev.sRetN, Pev.sIf, Pev.sSkip, Pev.sExpr, Pev.sTgt, Pev.sFor, Pev.sRaise, Pev.sPut, Pev.putAt, Pev.sPar2, Pev.sPar3, Pev.sTry, Pev.hRun, Pev.OutS.fade, Pev.OutS.calm, Pev.Out.toS, Pev.Out.bind, Pev.noX, Pev.eVar, Pev.eC, Pev.eBin, Pev.eUn, Pev.eArgs, Pev.aCons, Pev.aNil, Pev.needN, Pev.eAnd, Pev.eOr, Pev.eNot, Pev.eIf, Pev.mAnd, Pev.mOr, Pev.mNot, Pev.mB, Pev.mT, Pev.eChain, Pev.truth, Pev.ans, Pev.ofT, Pev.ofB, Pev.bAdd, Pev.bSub, Pev.bMul, Pev.bDiv, Pev.bMod, Pev.bLt, Pev.bLe, Pev.bGt, Pev.bGe, Pev.bIsN, Pev.isNone?, Pev.uNeg, Pev.bIx, Pev.lv, Pev.lvt, Pev.gLen, Pev.gAbs, Pev.gInt, Pev.gBool, Pev.gList, Pev.gTuple, Pev.gTup, Pev.gLst, Pev.newL, Pev.newT, Pev.datAll, Pev.R.d?, Pev.uIs, Pev.tyOf, Pev.eLc, Pev.iOf, Pev.itOf, Pev.iArgs, Pev.gRange1, Pev.gRange2, Pev.gN, Pev.gTp, Pev.gsCons, Pev.gsNil, Pev.tv, Pev.eBMl, Pev.gAppend, Pev.gPop, Pev.gExtend, Pev.cellOf, Pev.eFld, Pev.tYes', Pev.wipeR, Pev.permL, List.map_cons, List.map_nil, List.length_cons, List.length_nil, List.cons_append, List.nil_append, List.append_nil, List.replicate, List.getElem?_cons_zero, List.getElem?_cons_succ, List.getElem?_nil, List.set_cons_zero, List.set_cons_succ, List.set_nil, List.filterMap_cons, List.filterMap_nil, Option.map_some, Option.map_none, Option.bind_some, Option.bind_none, if_true, if_false, Bool.not_true, Bool.not_false, Nat.reduceSub, Nat.reduceAdd, Nat.reduceEqDiff, Nat.reduceLeDiff, reduceIte, ite_true, ite_false, Bool.true_eq_false, Bool.false_eq_true, ↓reduceIte, Nat.zero_add, Nat.add_zero, Nat.sub_zero, Pev.outD_dat, Pev.snap_dat, Pev.outX, List.any_cons, List.any_nil, List.all_cons, List.all_nil, id_eq, Bool.or_false, Bool.or_true, Bool.true_or, Bool.false_or, Bool.and_true, Bool.true_and, Bool.and_false, Bool.false_and, Bool.and_self, Bool.or_self, Int.cast_ofNat_Int, decide_true, decide_false, Pev.isa_self, Pev.isa_bi, Pev.isa_tl, Pev.isa_lt, Pev.isa_ti, Pev.isa_li, Pev.isa_it, Pev.gAll, Pev.gAny, Pev.gSum, Pev.bls?, Pev.ints?, Pev.eq_ints, Pev.datAll_map, Pev.map_dat, Pev.app_map, Pev.datAll_f, Pev.ints_f, Pev.bls_f, Pev.at0, Pev.at1, Pev.at2, Pev.atLast, Pev.two_small, Pev.three_small, Pev.one_small, Pev.nil_small, Pev.oPart, Pev.toI, Pev.eSl, Pev.gSl, Pev.uRev, List.isEmpty_cons, List.isEmpty_nil, bPow, nz5, nz6, nz7, nz2, true_and, and_self, decide_eq_true h, mulR hc, mulL hd, three]
      all_goals rfl
    · refine ⟨0, (cell.fmod 2147483629 * c + d * (k : Int)).fmod 2147483629 + 1, ?_⟩
      simp only [Pev.fnB, Pev.OutS.toF, Pev.sCons, Pev.sSet, Pev.sRet, Pev.sRetN, Pev.sIf, Pev.sSkip, Pev.sExpr, Pev.sTgt, Pev.sFor, Pev.sRaise, Pev.sPut, Pev.putAt, Pev.sPar2, Pev.sPar3, Pev.sTry, Pev.hRun, Pev.OutS.fade, Pev.OutS.calm, Pev.Out.toS, Pev.Out.bind, Pev.noX, Pev.eVar, Pev.eC, Pev.eBin, Pev.eUn, Pev.eArgs, Pev.aCons, Pev.aNil, Pev.needN, Pev.eAnd, Pev.eOr, Pev.eNot, Pev.eIf, Pev.mAnd, Pev.mOr, Pev.mNot, Pev.mB, Pev.mT, Pev.eChain, Pev.truth, Pev.ans, Pev.ofT, Pev.ofB, Pev.bAdd, Pev.bSub, Pev.bMul, Pev.bDiv, Pev.bMod, Pev.bLt, Pev.bLe, Pev.bGt, Pev.bGe, Pev.bIsN, Pev.isNone?, Pev.uNeg, Pev.bIx, Pev.lv, Pev.lvt, Pev.gLen, Pev.gAbs, Pev.gInt, Pev.gBool, Pev.gList, Pev.gTuple, Pev.gTup, Pev.gLst, Pev.newL, Pev.newT, Pev.datAll, Pev.R.d?, Pev.uIs, Pev.tyOf, Pev.eLc, Pev.iOf, Pev.itOf, Pev.iArgs, Pev.gRange1, Pev.gRange2, Pev.gN, Pev.gTp, Pev.gsCons, Pev.gsNil, Pev.tv, Pev.eBMl, Pev.gAppend, Pev.gPop, Pev.gExtend, Pev.cellOf, Pev.eFld, Pev.tYes', Pev.wipeR, Pev.permL, List.map_cons, List.map_nil, List.length_cons, List.length_nil, List.cons_append, List.nil_append, List.append_nil, List.replicate, List.getElem?_cons_zero, List.getElem?_cons_succ, List.getElem?_nil, List.set_cons_zero, List.set_cons_succ, List.set_nil, List.filterMap_cons, List.filterMap_nil, Option.map_some, Option.map_none, Option.bind_some, Option.bind_none, if_true, if_false, Bool.not_true, Bool.not_false, Nat.reduceSub, Nat.reduceAdd, Nat.reduceEqDiff, Nat.reduceLeDiff, reduceIte, ite_true, ite_false, Bool.true_eq_false, Bool.false_eq_true, ↓reduceIte, Nat.zero_add, Nat.add_zero, Nat.sub_zero, Pev.outD_dat, Pev.snap_dat, Pev.outX, List.any_cons, List.any_nil, List.all_cons, List.all_nil, id_eq, Bool.or_false, Bool.or_true, Bool.true_or, Bool.false_or, Bool.and_true, Bool.true_and, Bool.and_false, Bool.false_and, Bool.and_self, Bool.or_self, Int.cast_ofNat_Int, decide_true, decide_false, Pev.isa_self, Pev.isa_bi, Pev.isa_tl, Pev.isa_lt, Pev.isa_ti, Pev.isa_li, Pev.isa_it, Pev.gAll, Pev.gAny, Pev.gSum, Pev.bls?, Pev.ints?, Pev.eq_ints, Pev.datAll_map, Pev.map_dat, Pev.app_map, Pev.datAll_f, Pev.ints_f, Pev.bls_f, Pev.at0, Pev.at1, Pev.at2, Pev.atLast, Pev.two_small, Pev.three_small, Pev.one_small, Pev.nil_small, Pev.oPart, Pev.toI, Pev.eSl, Pev.gSl, Pev.uRev, List.isEmpty_cons, List.isEmpty_nil, bPow, nz5, nz6, nz7, nz2, true_and, and_self, decide_eq_false h, mulR hc, mulL hd, three]
      all_goals rfl
  have zr : ns.length = 0 ∨ 0 < ns.length := by omega
  have key : ∀ (m1 m2 : SM) (ρ1 : Rho), m1 [some (.ro (ns.map .int)), some (.dat (.int k)), none] S = .nx ρ1 S → (∃ x y, m2 ρ1 S = .rt (.obj S.length) (S ++ [three x y 0])) → ∃ x y, (sCons m1 m2 [some (.ro (ns.map .int)), some (.dat (.int k)), none] S).toF = .ok (.obj S.length) (S ++ [three x y 0]) := by
    intro m1 m2 ρ1 e ⟨x, y, q⟩
    refine ⟨x, y, ?_⟩
    unfold sCons
    rw [e]
    dsimp only
    rw [q]
    rfl
  unfold boxB
  refine key _ _ [some (.ro (ns.map .int)), some (.dat (.int k)), some (.dat (.int (a * k + b)))] (by simp only [Pev.fnB, Pev.OutS.toF, Pev.sCons, Pev.sSet, Pev.sRet, Pev.sRetN, Pev.sIf, Pev.sSkip, Pev.sExpr, Pev.sTgt, Pev.sFor, Pev.sRaise, Pev.sPut, Pev.putAt, Pev.sPar2, Pev.sPar3, Pev.sTry, Pev.hRun, Pev.OutS.fade, Pev.OutS.calm, Pev.Out.toS, Pev.Out.bind, Pev.noX, Pev.eVar, Pev.eC, Pev.eBin, Pev.eUn, Pev.eArgs, Pev.aCons, Pev.aNil, Pev.needN, Pev.eAnd, Pev.eOr, Pev.eNot, Pev.eIf, Pev.mAnd, Pev.mOr, Pev.mNot, Pev.mB, Pev.mT, Pev.eChain, Pev.truth, Pev.ans, Pev.ofT, Pev.ofB, Pev.bAdd, Pev.bSub, Pev.bMul, Pev.bDiv, Pev.bMod, Pev.bLt, Pev.bLe, Pev.bGt, Pev.bGe, Pev.bIsN, Pev.isNone?, Pev.uNeg, Pev.bIx, Pev.lv, Pev.lvt, Pev.gLen, Pev.gAbs, Pev.gInt, Pev.gBool, Pev.gList, Pev.gTuple, Pev.gTup, Pev.gLst, Pev.newL, Pev.newT, Pev.datAll, Pev.R.d?, Pev.uIs, Pev.tyOf, Pev.eLc, Pev.iOf, Pev.itOf, Pev.iArgs, Pev.gRange1, Pev.gRange2, Pev.gN, Pev.gTp, Pev.gsCons, Pev.gsNil, Pev.tv, Pev.eBMl, Pev.gAppend, Pev.gPop, Pev.gExtend, Pev.cellOf, Pev.eFld, Pev.tYes', Pev.wipeR, Pev.permL, List.map_cons, List.map_nil, List.length_cons, List.length_nil, List.cons_append, List.nil_append, List.append_nil, List.replicate, List.getElem?_cons_zero, List.getElem?_cons_succ, List.getElem?_nil, List.set_cons_zero, List.set_cons_succ, List.set_nil, List.filterMap_cons, List.filterMap_nil, Option.map_some, Option.map_none, Option.bind_some, Option.bind_none, if_true, if_false, Bool.not_true, Bool.not_false, Nat.reduceSub, Nat.reduceAdd, Nat.reduceEqDiff, Nat.reduceLeDiff, reduceIte, ite_true, ite_false, Bool.true_eq_false, Bool.false_eq_true, ↓reduceIte, Nat.zero_add, Nat.add_zero, Nat.sub_zero, Pev.outD_dat, Pev.snap_dat, Pev.outX, List.any_cons, List.any_nil, List.all_cons, List.all_nil, id_eq, Bool.or_false, Bool.or_true, Bool.true_or, Bool.false_or, Bool.and_true, Bool.true_and, Bool.and_false, Bool.false_and, Bool.and_self, Bool.or_self, Int.cast_ofNat_Int, decide_true, decide_false, Pev.isa_self, Pev.isa_bi, Pev.isa_tl, Pev.isa_lt, Pev.isa_ti, Pev.isa_li, Pev.isa_it, Pev.gAll, Pev.gAny, Pev.gSum, Pev.bls?, Pev.ints?, Pev.eq_ints, Pev.datAll_map, Pev.map_dat, Pev.app_map, Pev.datAll_f, Pev.ints_f, Pev.bls_f, Pev.at0, Pev.at1, Pev.at2, Pev.atLast, Pev.two_small, Pev.three_small, Pev.one_small, Pev.nil_small, Pev.oPart, Pev.toI, Pev.eSl, Pev.gSl, Pev.uRev, List.isEmpty_cons, List.isEmpty_nil, mulL ha]) ?_
  suffices mid : ∃ cell : Int, (sIf (mB (eBin bLt (eVar 1) (eArgs gLen (aCons (eVar 0) aNil)))) (sSet 2 (eArgs gAbs (aCons (eBin bIx (eVar 0) (eVar 1)) aNil))) (sIf (mB (eBin bGt (eArgs gLen (aCons (eVar 0) aNil)) (eC (.int 0)))) (sSet 2 (eBin (bAdd false) (eVar 2) (eBin (bMul false) (eBin bMod (eArgs gInt (aCons (eArgs gAbs (aCons (eBin bIx (eVar 0) (eBin bMod (eArgs gInt (aCons (eVar 1) aNil)) (eArgs gLen (aCons (eVar 0) aNil)))) aNil)) aNil)) (eC (.int 2147483629))) (eC (.int m))))) sSkip))
      [some (.ro (ns.map .int)), some (.dat (.int k)), some (.dat (.int (a * k + b)))] S = .nx [some (.ro (ns.map .int)), some (.dat (.int k)), some (.dat (.int cell))] S by
    obtain ⟨cell, q⟩ := mid
    obtain ⟨x, y, z⟩ := fin cell
    refine ⟨x, y, ?_⟩
    unfold sCons
    rw [q]
    exact z
  have sz : (ns.length ≤ sizeLine) = True := eq_true (Nat.le_trans hl (by decide))
  by_cases h1 : (k : Int) < (ns.length : Int)
  · have hg : ns[k]? = some (ns[k]'(by omega)) := List.getElem?_eq_getElem (by omega)
    have hat := at_map (f := fun i => R.dat (.int i)) (xs := ns) (i := (k : Int)) (x := ns[k]'(by omega)) (by omega) (by simpa using hg)
    refine ⟨if ns[k]'(by omega) < 0 then -ns[k]'(by omega) else ns[k]'(by omega), ?_⟩
    simp only [Pev.fnB, Pev.OutS.toF, Pev.sCons, Pev.sSet, Pev.sRet, Pev.sRetN, Pev.sIf, Pev.sSkip, Pev.sExpr, Pev.sTgt, Pev.sFor, Pev.sRaise, Pev.sPut, Pev.putAt, Pev.sPar2, Pev.sPar3, Pev.sTry, Pev.hRun, Pev.OutS.fade, Pev.OutS.calm, Pev.Out.toS, Pev.Out.bind, Pev.noX, Pev.eVar, Pev.eC, Pev.eBin, Pev.eUn, Pev.eArgs, Pev.aCons, Pev.aNil, Pev.needN, Pev.eAnd, Pev.eOr, Pev.eNot, Pev.eIf, Pev.mAnd, Pev.mOr, Pev.mNot, Pev.mB, Pev.mT, Pev.eChain, Pev.truth, Pev.ans, Pev.ofT, Pev.ofB, Pev.bAdd, Pev.bSub, Pev.bMul, Pev.bDiv, Pev.bMod, Pev.bLt, Pev.bLe, Pev.bGt, Pev.bGe, Pev.bIsN, Pev.isNone?, Pev.uNeg, Pev.bIx, Pev.lv, Pev.lvt, Pev.gLen, Pev.gAbs, Pev.gInt, Pev.gBool, Pev.gList, Pev.gTuple, Pev.gTup, Pev.gLst, Pev.newL, Pev.newT, Pev.datAll, Pev.R.d?, Pev.uIs, Pev.tyOf, Pev.eLc, Pev.iOf, Pev.itOf, Pev.iArgs, Pev.gRange1, Pev.gRange2, Pev.gN, Pev.gTp, Pev.gsCons, Pev.gsNil, Pev.tv, Pev.eBMl, Pev.gAppend, Pev.gPop, Pev.gExtend, Pev.cellOf, Pev.eFld, Pev.tYes', Pev.wipeR, Pev.permL, List.map_cons, List.map_nil, List.length_cons, List.length_nil, List.cons_append, List.nil_append, List.append_nil, List.replicate, List.getElem?_cons_zero, List.getElem?_cons_succ, List.getElem?_nil, List.set_cons_zero, List.set_cons_succ, List.set_nil, List.filterMap_cons, List.filterMap_nil, Option.map_some, Option.map_none, Option.bind_some, Option.bind_none, if_true, if_false, Bool.not_true, Bool.not_false, Nat.reduceSub, Nat.reduceAdd, Nat.reduceEqDiff, Nat.reduceLeDiff, reduceIte, ite_true, ite_false, Bool.true_eq_false, Bool.false_eq_true, ↓reduceIte, Nat.zero_add, Nat.add_zero, Nat.sub_zero, Pev.outD_dat, Pev.snap_dat, Pev.outX, List.any_cons, List.any_nil, List.all_cons, List.all_nil, id_eq, Bool.or_false, Bool.or_true, Bool.true_or, Bool.false_or, Bool.and_true, Bool.true_and, Bool.and_false, Bool.false_and, Bool.and_self, Bool.or_self, Int.cast_ofNat_Int, decide_true, decide_false, Pev.isa_self, Pev.isa_bi, Pev.isa_tl, Pev.isa_lt, Pev.isa_ti, Pev.isa_li, Pev.isa_it, Pev.gAll, Pev.gAny, Pev.gSum, Pev.bls?, Pev.ints?, Pev.eq_ints, Pev.datAll_map, Pev.map_dat, Pev.app_map, Pev.datAll_f, Pev.ints_f, Pev.bls_f, Pev.at0, Pev.at1, Pev.at2, Pev.atLast, Pev.two_small, Pev.three_small, Pev.one_small, Pev.nil_small, Pev.oPart, Pev.toI, Pev.eSl, Pev.gSl, Pev.uRev, List.isEmpty_cons, List.isEmpty_nil, List.length_map, decide_eq_true h1, hat, sz]
  · rcases zr with z | z
    · refine ⟨a * k + b, ?_⟩
      have e0 : ns = [] := List.eq_nil_of_length_eq_zero z
      subst e0
      simp only [Pev.fnB, Pev.OutS.toF, Pev.sCons, Pev.sSet, Pev.sRet, Pev.sRetN, Pev.sIf, Pev.sSkip, Pev.sExpr, Pev.sTgt, Pev.sFor, Pev.sRaise, Pev.sPut, Pev.putAt, Pev.sPar2, Pev.sPar3, Pev.sTry, Pev.hRun, Pev.OutS.fade, Pev.OutS.calm, Pev.Out.toS, Pev.Out.bind, Pev.noX, Pev.eVar, Pev.eC, Pev.eBin, Pev.eUn, Pev.eArgs, Pev.aCons, Pev.aNil, Pev.needN, Pev.eAnd, Pev.eOr, Pev.eNot, Pev.eIf, Pev.mAnd, Pev.mOr, Pev.mNot, Pev.mB, Pev.mT, Pev.eChain, Pev.truth, Pev.ans, Pev.ofT, Pev.ofB, Pev.bAdd, Pev.bSub, Pev.bMul, Pev.bDiv, Pev.bMod, Pev.bLt, Pev.bLe, Pev.bGt, Pev.bGe, Pev.bIsN, Pev.isNone?, Pev.uNeg, Pev.bIx, Pev.lv, Pev.lvt, Pev.gLen, Pev.gAbs, Pev.gInt, Pev.gBool, Pev.gList, Pev.gTuple, Pev.gTup, Pev.gLst, Pev.newL, Pev.newT, Pev.datAll, Pev.R.d?, Pev.uIs, Pev.tyOf, Pev.eLc, Pev.iOf, Pev.itOf, Pev.iArgs, Pev.gRange1, Pev.gRange2, Pev.gN, Pev.gTp, Pev.gsCons, Pev.gsNil, Pev.tv, Pev.eBMl, Pev.gAppend, Pev.gPop, Pev.gExtend, Pev.cellOf, Pev.eFld, Pev.tYes', Pev.wipeR, Pev.permL, List.map_cons, List.map_nil, List.length_cons, List.length_nil, List.cons_append, List.nil_append, List.append_nil, List.replicate, List.getElem?_cons_zero, List.getElem?_cons_succ, List.getElem?_nil, List.set_cons_zero, List.set_cons_succ, List.set_nil, List.filterMap_cons, List.filterMap_nil, Option.map_some, Option.map_none, Option.bind_some, Option.bind_none, if_true, if_false, Bool.not_true, Bool.not_false, Nat.reduceSub, Nat.reduceAdd, Nat.reduceEqDiff, Nat.reduceLeDiff, reduceIte, ite_true, ite_false, Bool.true_eq_false, Bool.false_eq_true, ↓reduceIte, Nat.zero_add, Nat.add_zero, Nat.sub_zero, Pev.outD_dat, Pev.snap_dat, Pev.outX, List.any_cons, List.any_nil, List.all_cons, List.all_nil, id_eq, Bool.or_false, Bool.or_true, Bool.true_or, Bool.false_or, Bool.and_true, Bool.true_and, Bool.and_false, Bool.false_and, Bool.and_self, Bool.or_self, Int.cast_ofNat_Int, decide_true, decide_false, Pev.isa_self, Pev.isa_bi, Pev.isa_tl, Pev.isa_lt, Pev.isa_ti, Pev.isa_li, Pev.isa_it, Pev.gAll, Pev.gAny, Pev.gSum, Pev.bls?, Pev.ints?, Pev.eq_ints, Pev.datAll_map, Pev.map_dat, Pev.app_map, Pev.datAll_f, Pev.ints_f, Pev.bls_f, Pev.at0, Pev.at1, Pev.at2, Pev.atLast, Pev.two_small, Pev.three_small, Pev.one_small, Pev.nil_small, Pev.oPart, Pev.toI, Pev.eSl, Pev.gSl, Pev.uRev, List.isEmpty_cons, List.isEmpty_nil, List.length_map, decide_eq_false h1]
      all_goals rfl
    · have hp : (0 : Int) < (ns.length : Int) := by omega
      obtain ⟨g1, g2⟩ := fmod_in (x := (k : Int)) hp
      have hg : ns[((k : Int).fmod ns.length).toNat]? = some (ns[((k : Int).fmod ns.length).toNat]'(by omega)) := List.getElem?_eq_getElem (by omega)
      have hat := at_map (f := fun i => R.dat (.int i)) (xs := ns) (i := (k : Int).fmod ns.length) (x := ns[((k : Int).fmod ns.length).toNat]'(by omega)) g1 hg
      have nz : ((ns.length : Int) ≠ 0) = True := eq_true (by omega)
      refine ⟨a * k + b + (if ns[((k : Int).fmod ns.length).toNat]'(by omega) < 0 then -ns[((k : Int).fmod ns.length).toNat]'(by omega) else ns[((k : Int).fmod ns.length).toNat]'(by omega)).fmod 2147483629 * m, ?_⟩
      simp only [Pev.fnB, Pev.OutS.toF, Pev.sCons, Pev.sSet, Pev.sRet, Pev.sRetN, Pev.sIf, Pev.sSkip, Pev.sExpr, Pev.sTgt, Pev.sFor, Pev.sRaise, Pev.sPut, Pev.putAt, Pev.sPar2, Pev.sPar3, Pev.sTry, Pev.hRun, Pev.OutS.fade, Pev.OutS.calm, Pev.Out.toS, Pev.Out.bind, Pev.noX, Pev.eVar, Pev.eC, Pev.eBin, Pev.eUn, Pev.eArgs, Pev.aCons, Pev.aNil, Pev.needN, Pev.eAnd, Pev.eOr, Pev.eNot, Pev.eIf, Pev.mAnd, Pev.mOr, Pev.mNot, Pev.mB, Pev.mT, Pev.eChain, Pev.truth, Pev.ans, Pev.ofT, Pev.ofB, Pev.bAdd, Pev.bSub, Pev.bMul, Pev.bDiv, Pev.bMod, Pev.bLt, Pev.bLe, Pev.bGt, Pev.bGe, Pev.bIsN, Pev.isNone?, Pev.uNeg, Pev.bIx, Pev.lv, Pev.lvt, Pev.gLen, Pev.gAbs, Pev.gInt, Pev.gBool, Pev.gList, Pev.gTuple, Pev.gTup, Pev.gLst, Pev.newL, Pev.newT, Pev.datAll, Pev.R.d?, Pev.uIs, Pev.tyOf, Pev.eLc, Pev.iOf, Pev.itOf, Pev.iArgs, Pev.gRange1, Pev.gRange2, Pev.gN, Pev.gTp, Pev.gsCons, Pev.gsNil, Pev.tv, Pev.eBMl, Pev.gAppend, Pev.gPop, Pev.gExtend, Pev.cellOf, Pev.eFld, Pev.tYes', Pev.wipeR, Pev.permL, List.map_cons, List.map_nil, List.length_cons, List.length_nil, List.cons_append, List.nil_append, List.append_nil, List.replicate, List.getElem?_cons_zero, List.getElem?_cons_succ, List.getElem?_nil, List.set_cons_zero, List.set_cons_succ, List.set_nil, List.filterMap_cons, List.filterMap_nil, Option.map_some, Option.map_none, Option.bind_some, Option.bind_none, if_true, if_false, Bool.not_true, Bool.not_false, Nat.reduceSub, Nat.reduceAdd, Nat.reduceEqDiff, Nat.reduceLeDiff, reduceIte, ite_true, ite_false, Bool.true_eq_false, Bool.false_eq_true, ↓reduceIte, Nat.zero_add, Nat.add_zero, Nat.sub_zero, Pev.outD_dat, Pev.snap_dat, Pev.outX, List.any_cons, List.any_nil, List.all_cons, List.all_nil, id_eq, Bool.or_false, Bool.or_true, Bool.true_or, Bool.false_or, Bool.and_true, Bool.true_and, Bool.and_false, Bool.false_and, Bool.and_self, Bool.or_self, Int.cast_ofNat_Int, decide_true, decide_false, Pev.isa_self, Pev.isa_bi, Pev.isa_tl, Pev.isa_lt, Pev.isa_ti, Pev.isa_li, Pev.isa_it, Pev.gAll, Pev.gAny, Pev.gSum, Pev.bls?, Pev.ints?, Pev.eq_ints, Pev.datAll_map, Pev.map_dat, Pev.app_map, Pev.datAll_f, Pev.ints_f, Pev.bls_f, Pev.at0, Pev.at1, Pev.at2, Pev.atLast, Pev.two_small, Pev.three_small, Pev.one_small, Pev.nil_small, Pev.oPart, Pev.toI, Pev.eSl, Pev.gSl, Pev.uRev, List.isEmpty_cons, List.isEmpty_nil, List.length_map, decide_eq_false h1, decide_eq_true hp, hat, nz, nz2, mulR hm, sz]
def takeF (p q r s t : Int) : FM := fnB 4 (takeB p q r s t)
def pickB (p q r s t : Int) : SM := (sRet (eBin bIx (eVar 1) (eArgs (needN 2 (takeF p q r s t)) (aCons (eVar 0) (aCons (eArgs gLen (aCons (eVar 1) aNil)) aNil)))))
theorem pick_ok {p q r s t : Int} (hp : small p = true) (hq : small q = true) (hs : small s = true) {S : Sto} {k : Nat} {a b c : Int} (hS : S[k]? = some (three a b c)) {ds : List PyData} (h0 : 0 < ds.length) (hb : ds.length < 1000000) :
    ∃ d a' b' c', d ∈ ds ∧ fnB 2 (pickB p q r s t) [.obj k, .dat (.list ds)] S = .ok (.dat d) (S.set k (three a' b' c')) := by
  obtain ⟨x, a', b', c', x0, x1, e⟩ := take_ok (r := r) (t := t) hp hq hs hS (many := (ds.length : Int)) (by omega) (by omega)
  change takeF p q r s t _ _ = _ at e
  have sz : (ds.length ≤ sizeLine) = True := eq_true (Nat.le_trans (Nat.le_of_lt hb) (by decide))
  have hg : ds[x.toNat]? = some (ds[x.toNat]'(by omega)) := List.getElem?_eq_getElem (by omega)
  have hat := at_map (f := R.dat) (xs := ds) (i := x) x0 hg
  refine ⟨ds[x.toNat]'(by omega), a', b', c', List.getElem_mem _, ?_⟩
  unfold pickB
  simp only [Pev.fnB, Pev.OutS.toF, Pev.sCons, Pev.sSet, Pev.sRet, Pev.sRetN, Pev.sIf, Pev.sSkip, Pev.sExpr, Pev.sTgt, Pev.sFor, Pev.sRaise, Pev.sPut, Pev.putAt, Pev.sPar2, Pev.sPar3, Pev.sTry, Pev.hRun, Pev.OutS.fade, Pev.OutS.calm, Pev.Out.toS, Pev.Out.bind, Pev.noX, Pev.eVar, Pev.eC, Pev.eBin, Pev.eUn, Pev.eArgs, Pev.aCons, Pev.aNil, Pev.needN, Pev.eAnd, Pev.eOr, Pev.eNot, Pev.eIf, Pev.mAnd, Pev.mOr, Pev.mNot, Pev.mB, Pev.mT, Pev.eChain, Pev.truth, Pev.ans, Pev.ofT, Pev.ofB, Pev.bAdd, Pev.bSub, Pev.bMul, Pev.bDiv, Pev.bMod, Pev.bLt, Pev.bLe, Pev.bGt, Pev.bGe, Pev.bIsN, Pev.isNone?, Pev.uNeg, Pev.bIx, Pev.lv, Pev.lvt, Pev.gLen, Pev.gAbs, Pev.gInt, Pev.gBool, Pev.gList, Pev.gTuple, Pev.gTup, Pev.gLst, Pev.newL, Pev.newT, Pev.datAll, Pev.R.d?, Pev.uIs, Pev.tyOf, Pev.eLc, Pev.iOf, Pev.itOf, Pev.iArgs, Pev.gRange1, Pev.gRange2, Pev.gN, Pev.gTp, Pev.gsCons, Pev.gsNil, Pev.tv, Pev.eBMl, Pev.gAppend, Pev.gPop, Pev.gExtend, Pev.cellOf, Pev.eFld, Pev.tYes', Pev.wipeR, Pev.permL, List.map_cons, List.map_nil, List.length_cons, List.length_nil, List.cons_append, List.nil_append, List.append_nil, List.replicate, List.getElem?_cons_zero, List.getElem?_cons_succ, List.getElem?_nil, List.set_cons_zero, List.set_cons_succ, List.set_nil, List.filterMap_cons, List.filterMap_nil, Option.map_some, Option.map_none, Option.bind_some, Option.bind_none, if_true, if_false, Bool.not_true, Bool.not_false, Nat.reduceSub, Nat.reduceAdd, Nat.reduceEqDiff, Nat.reduceLeDiff, reduceIte, ite_true, ite_false, Bool.true_eq_false, Bool.false_eq_true, ↓reduceIte, Nat.zero_add, Nat.add_zero, Nat.sub_zero, Pev.outD_dat, Pev.snap_dat, Pev.outX, List.any_cons, List.any_nil, List.all_cons, List.all_nil, id_eq, Bool.or_false, Bool.or_true, Bool.true_or, Bool.false_or, Bool.and_true, Bool.true_and, Bool.and_false, Bool.false_and, Bool.and_self, Bool.or_self, Int.cast_ofNat_Int, decide_true, decide_false, Pev.isa_self, Pev.isa_bi, Pev.isa_tl, Pev.isa_lt, Pev.isa_ti, Pev.isa_li, Pev.isa_it, Pev.gAll, Pev.gAny, Pev.gSum, Pev.bls?, Pev.ints?, Pev.eq_ints, Pev.datAll_map, Pev.map_dat, Pev.app_map, Pev.datAll_f, Pev.ints_f, Pev.bls_f, Pev.at0, Pev.at1, Pev.at2, Pev.atLast, Pev.two_small, Pev.three_small, Pev.one_small, Pev.nil_small, Pev.oPart, Pev.toI, Pev.eSl, Pev.gSl, Pev.uRev, List.isEmpty_cons, List.isEmpty_nil, List.length_map, sz, e, hat]
end Pev
/-! Pev: the law's call, in a room in which no repr is under way. -/
namespace Pev
open PySem PySem.Spec
open PyProof.Rows L2
section
variable {P : Program} {w : World} {K : PySem.W.Frag} {h : Heap} {a : Addr} {us : List Value} {ns : List Int}
/-- the script as the only thing that may be tracked -/
theorem script_heap (KX : K.In h) (at_ : h.get? a = some { cls := .type "list", data := .seq us.toArray }) (hi : IntsAre us ns) (hl : ns.length ≤ sizeLine) :
    ∃ H : Hp, (∀ b u, H b = some u → b = a ∧ K.lookup a = none ∧ ∃ o xs, u = .frz o (.lst xs)) ∧ SqL K H a (ns.map V.int) ∧ HOk P w H h := by
  have rv := vals_ints hi
  cases hk : K.lookup a with
  | some o =>
    have e := KX a o hk
    rw [at_] at e
    cases e
    exact ⟨fun _ => none, fun b u z => (by cases z), .inr ⟨_, us.toArray, _, hk, rfl, rfl, rfl, by rw [List.size_toArray, hi.length]; exact hl, by simpa using rv⟩, fun b u z => (by cases z)⟩
  | none =>
    have one : ∀ b u, (if b = a then some (HO.frz { cls := .type "list", data := .seq us.toArray } (.lst (ns.map V.int))) else none) = some u → b = a ∧ u = HO.frz { cls := .type "list", data := .seq us.toArray } (.lst (ns.map V.int)) := fun b u z => by
      split at z
      · rename_i e
        exact ⟨e, (Option.some.inj z).symm⟩
      · cases z
    refine ⟨fun b => if b = a then some (.frz { cls := .type "list", data := .seq us.toArray } (.lst (ns.map V.int))) else none, fun b u z => ?_, .inl (.inr ⟨_, if_pos rfl⟩), fun b u z => ?_⟩
    · obtain ⟨rfl, rfl⟩ := one b u z
      exact ⟨rfl, rfl, _, _, rfl⟩
    · obtain ⟨rfl, rfl⟩ := one b u z
      exact ⟨at_, by rw [List.length_map]; exact hl, us, _, rv, at_⟩
end
end Pev
/-! Pev: bits, repr, str, three ints compared, join, list of a range. -/
namespace Pev
open PySem PySem.Spec
open PyProof.Rows L2
section
variable {T : Tb}
/-! ### bits -/
/-! ### min, max of three ints -/
/-! ### join -/
/-! ### repr, str -/
end
section
variable {K : PySem.W.Frag} {H : Hp}
mutual
theorem Dp.noDict : ∀ {v : V} {d : PyData}, Dp K H v d → d.hasDict = false
  | _, _, .non => by unfold PyData.hasDict; rfl
  | _, _, .bl _ => by unfold PyData.hasDict; rfl
  | _, _, .int _ => by unfold PyData.hasDict; rfl
  | _, _, .str _ => by unfold PyData.hasDict; rfl
  | _, _, .lst _ h => by unfold PyData.hasDict; exact DpAll.noDict h
  | _, _, .tup _ h => by unfold PyData.hasDict; exact DpAll.noDict h
theorem DpAll.noDict : ∀ {vs : List V} {ds : List PyData}, DpAll K H vs ds → PyData.hasDictAll ds = false
  | _, _, .nil => by unfold PyData.hasDictAll; rfl
  | _, _, .cons h t => by unfold PyData.hasDictAll; rw [Dp.noDict h, DpAll.noDict t]; rfl
end
end
section
variable {X : Cx} {k : Nat}
end
/-! ### list(range(..)) -/
def rgL (own : Bool) (i j : Int) (S : Sto) : Out R := if inR i && (inR j && decide ((j - i).toNat ≤ 16777216)) then newL own (rangeR i (j - i).toNat) S else .stuck
def gLR1 (own : Bool) (xs : List R) (S : Sto) : Out R := match xs with
  | [.dat (.int j)] => rgL own 0 j S
  | _ => .stuck
section
variable {X : Cx} {T : Tb} {W : WX} {a b : Expr} {ma mb : EM}
theorem vrs_rg {K : Tb} {β : List Addr} {α : List (Option Addr)} {H : Hp} (i j : Int) : Vrs K β α H (rangeR i (j - i).toNat) (rgV i j) := by
  unfold rangeR rgV
  generalize List.range (j - i).toNat = l
  induction l with
  | nil => exact .nil
  | cons n l ih => exact .cons (.int _) ih
theorem rgL_ok {β : List Addr} {α : List (Option Addr)} {S : Sto} {H : Hp} {σ : L2.St} {Q : VK} {own : Bool} {i j : Int} (Rr : Rl T β α S H) (h : PostG T β W (Vr T β) σ (rgL own i j S) α H Q) : RgOk i j ∧ ∀ q, H q = none → Q (.ref q) (upd H q (.lst (rgV i j))) := by
  unfold rgL at h
  split at h
  · rename_i hc
    obtain ⟨h1, h2⟩ := Bool.and_eq_true_iff.mp hc
    obtain ⟨h3, h4⟩ := Bool.and_eq_true_iff.mp h2
    have h1 := of_decide_eq_true h1
    have h3 := of_decide_eq_true h3
    have h4 := of_decide_eq_true h4
    exact ⟨⟨by omega, by omega, by omega, by omega, by omega⟩, fun q hq => newL_ok Rr hq (vrs_rg i j) h⟩
  · exact h.elim
theorem te_mono {m : EM} {σ : L2.St} {H : Hp} {Q Q2 : VK} (h : tE T W m σ H Q) (i : ∀ v H1, Q v H1 → Q2 v H1) : tE T W m σ H Q2 := by
  obtain ⟨β, α, S, ρ, hR, hE, h⟩ := h
  refine ⟨β, α, S, ρ, hR, hE, ?_⟩
  cases q : m ρ S with
  | ok x S1 => rw [q] at h; exact fun α1 H1 v e r z => i _ _ (h α1 H1 v e r z)
  | exc c f S1 => rw [q] at h; exact h
  | stuck => rw [q] at h; exact h
theorem anil_le {σ : L2.St} {H : Hp} {P : List V → Hp → Prop} (h : tA T W aNil σ H P) : P [] H := by
  obtain ⟨_, _, _, _, hR, _, h⟩ := h
  exact h _ H [] Ext.refl hR .nil
theorem tr_lr1 (own : Bool) {p p2 pos pos2 : Pos} (hc : X.calm = true) (hg : Gl X "list") (hm : X.mg "list" = none) (hg2 : Gl X "range") (hm2 : X.mg "range" = none) (ha : PE X a (tE T W ma)) (na : starEach [a] X.env = (false, eval a X.env) :: starEach [] X.env := by rfl)
    (nr : starEach [.Call (.Name "range" p) [a] [] pos] X.env = (false, eval (.Call (.Name "range" p) [a] [] pos) X.env) :: starEach [] X.env := by rfl) :
    PE X (.Call (.Name "list" p2) [.Call (.Name "range" p) [a] [] pos] [] pos2) (tE T W (eArgs (gLR1 own) (aCons ma aNil))) :=
  pe_le (pe_listRg hc hg hm (prg_1 hg2 hm2 ha na) nr) fun σ H Q h => by
    have h2 : tA T W (aCons ma aNil) σ H fun vs H1 => ∃ n, vs = [V.int n] ∧ RgOk 0 n ∧ ∀ q, H1 q = none → Q (.ref q) (upd H1 q (.lst (rgV 0 n))) := args_go h fun β α S rs vs H1 hR hV h1 => by
      unfold gLR1 at h1
      split at h1
      · obtain ⟨v, rfl, hv⟩ := vrs1 hV
        cases vr_int hv
        exact ⟨_, rfl, rgL_ok hR h1⟩
      · exact h1.elim
    exact te_mono (acons_le h2) fun v H1 z => by
      obtain ⟨n, e, z2⟩ := anil_le z
      cases e
      exact ⟨n, rfl, z2⟩
end
/-! ### two texts compared, whatever signs they have -/
end Pev
/-! Pev: enumerate of a text. -/
namespace Pev
open PySem PySem.Spec
open PyProof.Rows L2
/-- the signs of a text, in new pairs -/
def ItQ (z : Str) : It :=
  ⟨fun i _ => i < z.cps.size, fun i H v H2 => ∃ T c, v = .ref T ∧ H T = none ∧ H2 = upd H T (.tup [.int (i : Nat), .str ⟨#[c]⟩]) ∧ z.cps[i]? = some c, fun i _ => z.cps.size = i⟩
theorem turn_signs {P : Program} {w : World} {K : PySem.W.Frag} {elts : List Expr} {kk : Nat} {tpos : Pos} (e it : Addr) (z : Str) (t : Tok) :
    Turn P w K (.Tuple elts kk tpos) (ItQ z) [e, it] e (fun i h => (∃ old, IsEnum h e it ((i : Nat) : Int) old) ∧ h.IsStrIter it (strIterType z) z t i ∧ e ≠ it) where
  mem := by simp
  obj := fun i h st b hb => by
    obtain ⟨⟨old, q1⟩, ⟨o, q2, q3, q4⟩, _⟩ := st
    rcases (show b = e ∨ b = it by simpa using hb) with y | y
    · subst y
      exact ⟨_, q1, fun v q => nomatch q⟩
    · subst y
      exact ⟨o, q2, fun v q => by rw [q4] at q; cases q⟩
  keep := fun i h h2 st k => by
    obtain ⟨⟨old, q1⟩, ⟨o, q2, q3⟩, ne⟩ := st
    exact ⟨⟨old, k e (by simp) _ q1⟩, ⟨o, k it (by simp) o q2, q3⟩, ne⟩
  item := by
    intro X e1 e2 e3 hcalm i pn s σ H E I foot st lt
    subst e1 e2 e3
    obtain ⟨⟨old, q1⟩, q2, ne⟩ := st
    have le1 : e < s.heap.objs.size := Heap.lt_size q1
    have le2 : it < s.heap.objs.size := by obtain ⟨_, y, _⟩ := q2; exact Heap.lt_size y
    refine wpAny_pyNext_enum_itemC (Draws.text (A := X.A.in1) (by exact I.ok.hd hcalm) it z t) q1 q2 lt ne (by simpa using ne) fun y h1 tk sign out st1 tup _ kp => ?_
    obtain ⟨c, u, hc, rfl⟩ := sign
    refine ⟨_, rfl, wpAny_letOwnedTupleGo_enum (s := { s with heap := h1, toks := tk + 1 }) out fun h2 q3 same => ?_⟩
    have tup2 : h2.get? s.heap.objs.size = some { cls := .type "tuple", data := .seq #[.int i tk, .str ⟨#[c]⟩ u] } := (same.2 _ (Nat.ne_of_gt le1)).trans tup
    have obj : ObjOk X.prog X.w (upd H s.heap.objs.size (.tup [.int (i : Nat), .str ⟨#[c]⟩])) h2 s.heap.objs.size (.tup [.int (i : Nat), .str ⟨#[c]⟩]) :=
      ⟨by show 2 ≤ sizeLine; decide, [.int i tk, .str ⟨#[c]⟩ u], .cons ⟨_, rfl⟩ (.cons ⟨_, rfl⟩ .nil), ⟨_, tup2, rfl, _, rfl⟩⟩
    have J : Inv X pn σ (upd H s.heap.objs.size (.tup [.int (i : Nat), .str ⟨#[c]⟩])) { s with heap := h2, toks := tk + 1 } :=
      I.turnedNew (ch := [e, it]) (fun b ob hb q => by
        have n1 : b ≠ e := fun y => hb (by simp [y])
        have n2 : b ≠ it := fun y => hb (by simp [y])
        exact (same.2 b n1).trans (kp b ob n1 n2 q)) foot (Nat.le_refl _) obj
    have st2 : h2.IsStrIter it (strIterType z) z t (i + 1) := by
      obtain ⟨o, y1, y2⟩ := st1
      exact ⟨o, (same.2 it (Ne.symm ne)).trans y1, y2⟩
    refine ⟨.ref s.heap.objs.size, _, J, rfl, ⟨_, c, rfl, I.hok.fresh (Nat.le_refl _), rfl, hc⟩, ⟨⟨_, show IsEnum h2 e it (((i + 1 : Nat)) : Int) _ from by rw [show (((i + 1 : Nat)) : Int) = (i : Int) + 1 by omega]; exact q3⟩, st2, ne⟩, fun b hb => ?_⟩
    have lb : b < s.heap.objs.size := by
      rcases (show b = e ∨ b = it by simpa using hb) with y | y <;> rw [y] <;> assumption
    rw [upd_ne (Nat.ne_of_lt lb)]
    exact (foot b hb).1
  done := by
    intro X e1 e2 e3 hcalm i pn s σ H E I foot st en
    subst e1 e2 e3
    obtain ⟨⟨old, q1⟩, q2, ne⟩ := st
    obtain ⟨f0, f1, f2, f3, f4, f5⟩ := foot it (by simp)
    exact wpAny_pyNext_enum_endD (Draws.text (A := X.A.in1) (by exact I.ok.hd hcalm) it z t) q1 (by rw [show z.cps.size = i from en]; exact q2) fun h1 eb => ⟨rfl, I.turned (t' := s.toks) (fun b o hb q => eb b o hb q) f0 f1 f3 f4 f5⟩
  self := fun A i s Q E st h => by
    obtain ⟨⟨_, q1⟩, _⟩ := st
    exact wpAny_pyIter_enum q1 h
def iSigns (ta : TA) : TI := fun σ H R => ta σ H fun vs H1 => ∃ z, vs = [.str z] ∧ R (ItQ z) H1
theorem pi_signs {X : Cx} {e : Expr} {ta : TA} {p pos tpos : Pos} {elts : List Expr} {kk : Nat} (hg : Gl X "enumerate") (hm : X.mg "enumerate" = none) (ha : PA X [e] ta) (hs : starEach [e] X.env = [(false, eval e X.env)] := by rfl) :
    PI X (.Tuple elts kk tpos) (.Call (.Name "enumerate" p) [e] [] pos) (iSigns ta) := by
  refine ⟨fun pn s σ H R I h => Call_ (ld_blt I hg hm boot_enumerate (PyProof.Rows.callWith_type1 (thn (ha.run pos pn s σ H _ I h) fun us s1 hh => ?_) hs rfl))⟩
  obtain ⟨vs, H1, I1, r1, z, ez, q⟩ := hh
  subst ez
  cases r1 with
  | cons r rr =>
    cases rr
    obtain ⟨t, rfl⟩ := r
    refine pev_enum_call (begins_text z t) trivial fun h1 he hit kp => wpAny_pyIter_enum he ?_
    refine ⟨s1.heap.objs.size + 1, [s1.heap.objs.size + 1, s1.heap.objs.size], _, _, H1, rfl, I1.kept (t' := s1.toks) kp, turn_signs (s1.heap.objs.size + 1) s1.heap.objs.size z t, ⟨⟨.none, he⟩, ⟨_, hit, rfl, rfl⟩, Nat.succ_ne_self _⟩, fun b hb => ?_, q⟩
    have le : s1.heap.objs.size ≤ b := by
      rcases (show b = s1.heap.objs.size + 1 ∨ b = s1.heap.objs.size by simpa using hb) with y | y
      · rw [y]; exact Nat.le_succ _
      · rw [y]; exact Nat.le_refl _
    exact (I1.kept (t' := s1.toks) (h' := s1.heap) fun _ _ x => x).fpOk le (I1.hok.fresh le)
def signs (z : Str) : List PyData := z.cps.toList.map fun c => .str ⟨#[c]⟩
/-- enumerate(x), a text too -/
def gEnumU (xs : List R) (S : Sto) : Out Items := match xs with
  | [.dat (.str z)] => .ok ⟨(pairsF 0 (signs z)).map .dat, []⟩ S
  | xs => gEnum xs S
theorem walkR_signs {K : Tb} {β : List Addr} {α : List (Option Addr)} {H : Hp} {z : Str} : WalkR K β α H ⟨(pairsF 0 (signs z)).map .dat, []⟩ (ItQ z) := by
  refine ⟨fun _ => True, fun i H v H2 => ∃ T c, v = .ref T ∧ H T = none ∧ H2 = upd H T (.tup [.int (i : Nat), .str ⟨#[c]⟩]) ∧ z.cps[i]? = some c, ⟨fun i _ hi _ => ?_, fun _ _ => ?_, fun _ _ _ _ _ _ y => y⟩, fun β' α' S' H' l R' _ => ⟨trivial, fun i x H'' yy => ?_⟩⟩
  · rw [List.length_map, pairsF_len] at hi
    show i < z.cps.size
    simpa [signs] using hi
  · show z.cps.size = _
    rw [List.length_map, pairsF_len]
    simp [signs]
  · obtain ⟨T0, c, e1, e2, e3, e4⟩ := yy
    refine new_pair R' e1 e2 e3 fun d hd => ?_
    unfold signs at hd
    rw [List.getElem?_map, Array.getElem?_toList, e4] at hd
    cases hd
    exact .str _
theorem ti_enumU {X : Cx} {T : Tb} {W : WX} (hK : X.K = T.K) {e : Expr} {ms : EMs} {p pos tpos : Pos} {elts : List Expr} {kk : Nat} (hg : Gl X "enumerate") (hm : X.mg "enumerate" = none) (ha : PA X [e] (tA T W ms)) (hs : starEach [e] X.env = [(false, eval e X.env)] := by rfl) :
    PI X (.Tuple elts kk tpos) (.Call (.Name "enumerate" p) [e] [] pos) (tI T W (iArgs gEnumU ms)) := by
  refine pi_le (pi_or (pi_signs hg hm ha hs) (ti_enum hK hg hm ha hs)) fun σ H Rk ⟨β, α, S, ρ, hR, hE, hp⟩ => ?_
  have h1 := PostG.bind (rel := Vrs T β) (show PostG T β W (WalkR T β) σ ((ms ρ S).bind gEnumU) α H Rk from hp)
  cases q : ms ρ S with
  | stuck => rw [q] at h1; exact h1.elim
  | exc k f S1 => rw [q] at h1; exact .inl ⟨β, α, S, ρ, hR, hE, by rw [q]; exact h1⟩
  | ok x S1 =>
    by_cases ht : ∃ z, x = [.dat (.str z)]
    · obtain ⟨z, rfl⟩ := ht
      rw [q] at h1
      refine .inl ⟨β, α, S, ρ, hR, hE, ?_⟩
      rw [q]
      intro α1 H1 v e1 R1 V1
      obtain ⟨α2, S2, x2, ex, e2, R2, V2, h2⟩ := h1 α1 H1 v e1 R1 V1
      cases ex
      obtain ⟨u, rfl, hu⟩ := vrs1 V2
      cases vr_str hu
      exact ⟨z, rfl, h2 α2 H1 _ Ext.refl R2 walkR_signs⟩
    · refine .inr ⟨β, α, S, ρ, hR, hE, ?_⟩
      have same : gEnumU x = gEnum x := by
        funext S
        unfold gEnumU
        split
        · exact absurd ⟨_, rfl⟩ ht
        · rfl
      have e : iArgs gEnum ms ρ S = iArgs gEnumU ms ρ S := by
        unfold iArgs
        rw [q]
        show gEnum x S1 = gEnumU x S1
        rw [same]
      rw [e]
      exact hp
end Pev
/-! Pev: the end of a law over a head by facts. -/
namespace Pev
open PySem PySem.Spec
open PyProof.Rows L2 He
/-- a def's names bind -/
theorem Fun.bindsK {K : PySem.W.Frag} {x qual : Str} {st : Stmt} {f : Addr} {fd : FuncData} {ps ks : List Str} {π : List Nat} (F : L2.Fun K x qual st f fd)
    (h : ∀ (kV doc pm : Value) (an : Option Addr) (cdv ct : Value) (us : List Value), us.length = ks.length → bindArgs (PySem.W.fnOf x qual (defArgs st) (defBody st) (defScope st) .none kV doc pm an cdv ct) ⟨[], ks.zip us⟩ = pure (ps.zip (permL π us))) : BindsK K fd ps ks π := by
  obtain ⟨oc, od, kV, doc, pm, an, cdv, ct, osl, rfl, lk, hcd⟩ := F.ex
  exact fun s ws _ hl => .of_eq (h kV doc pm an cdv ct ws hl)
theorem clsB_ok {K : PySem.W.Frag} {C B : Addr} (h : clsB K C B = true) : ∃ nm q N bs sn sub ab col dd k0 k1 k2 k3 k5, K.lookup C = some (excClassObj nm q C N bs (.ref B :: PySem.ESX.exTail) true sn sub ab col dd k0 k1 k2 k3 k5 "Exception.__new__") := by
  unfold clsB at h
  split at h
  · rename_i dd cd sl ho
    split at h
    · rename_i C2 B2 k0 k1 k2 k3 n k5 hm hs
      obtain ⟨h1, h⟩ := ba h
      obtain ⟨h2, h⟩ := ba h
      obtain ⟨h3, h⟩ := ba h
      obtain ⟨h4, h5⟩ := ba h
      have e1 := of_decide_eq_true h1
      have e2 := of_decide_eq_true h2
      have e3 := of_decide_eq_true h3
      subst e1 e2 e3
      obtain ⟨nm, bs, mro, ns, qn, hd, sn, sub, ab, col, del⟩ := cd
      dsimp only at hm h4 h5
      subst hm h4
      have e5 : del = false := by simpa using h5
      subst e5
      have hsl : sl = #[k0, k1, k2, k3, some (.builtin "Exception.__new__"), k5] := by
        obtain ⟨l⟩ := sl
        simp only at hs
        rw [hs]
      subst hsl
      exact ⟨nm, qn, ns, bs, sn, sub, ab, col, dd, k0, k1, k2, k3, k5, ho⟩
    · cases h
  · cases h
section
variable {K : PySem.W.Frag} {P : Program} {B : Addr} {e : ErrD}
/-- what ErrD.ok says, in the form in which err_mkG asks -/
theorem err_cases (hv : fnE K e = e.val) (hb : e.ok P B K = true) : ∃ nm q2 N bs sn sub ab col dd k0 k1 k2 k3 k5 oc od kV doc pm an cda ct osl cc ccl cdd vs ccs file tf cl cld csl,
    PySem.W.nsIn K mainGlobals e.x = some (some (.ref (clA K e))) ∧ K.lookup (clA K e) = some (excClassObj nm q2 (clA K e) N bs (.ref B :: PySem.ESX.exTail) true sn sub ab col dd k0 k1 k2 k3 k5 "Exception.__new__") ∧ PySem.W.findIn K (.ref (clA K e)) "__init__" = some (some (.ref (inA K e))) ∧
    PySem.W.typeIn K (.ref (inA K e)) = some (.type "function") ∧ K.lookup (inA K e) = some ⟨oc, od, .func (PySem.W.fnX "__init__" e.q (defArgs e.st) (defBody e.st) (defScope e.st) [(("__class__" : Str), cc)] .none kV doc pm an (.ref cda) ct), osl⟩ ∧
    PySem.W.codeIn K (.ref cda) e.q = true ∧ K.lookup cda = some ⟨ccl, cdd, .fields vs, ccs⟩ ∧ vs[2]? = some (.str file tf) ∧ ((P.main.file : Str) == file) = true ∧ K.lookup cc = some ⟨cl, cld, .cell (some (.ref (clA K e))), csl⟩ ∧
    PySem.W.keepIn K (.ref (clA K e)) = true ∧ PySem.W.subIn K (.ref (clA K e)) (.type "BaseException") = some true ∧ PySem.W.typeIn K (.ref (clA K e)) = some (.type "type") ∧ PySem.W.ks_superIn K (clA K e) (clA K e) "__init__" = some (some (.builtin "Exception.__init__")) ∧ fldB K (clA K e) e.fld = true := by
  unfold ErrD.ok at hb
  obtain ⟨b1, hb⟩ := ba hb
  obtain ⟨b2, hb⟩ := ba hb
  obtain ⟨b3, hb⟩ := ba hb
  obtain ⟨b4, hb⟩ := ba hb
  obtain ⟨b5, hb⟩ := ba hb
  obtain ⟨b6, hb⟩ := ba hb
  obtain ⟨b7, hb⟩ := ba hb
  obtain ⟨b8, hb⟩ := ba hb
  obtain ⟨nm, q2, N, bs, sn, sub, ab, col, dd, k0, k1, k2, k3, k5, hC⟩ := clsB_ok b2
  obtain ⟨x1, x2⟩ := ba b6
  unfold fnE at hv
  cases q : K.lookup (inA K e) with
  | none => rw [q] at hb; cases hb
  | some o =>
    obtain ⟨oc, od, dt, osl⟩ := o
    rw [q] at hb hv
    cases dt with
    | func fd =>
      obtain ⟨n1, n2, n3, n4, n5, n6, n7, n8, n9, n10, n11, n12, n13, n14, n15⟩ := fd
      have hv2 : (some (n1, n2, n3, n4, n5, n6, n15) : FnE) = e.val := hv
      unfold ErrD.val at hv2
      simp only [Option.some.injEq, Prod.mk.injEq] at hv2
      obtain ⟨h1, h2, h3, h4, h5, h6, h7⟩ := hv2
      subst h1 h2 h3 h4 h5 h6 h7
      obtain ⟨c1, c2⟩ := ba (show (PySem.W.codeIn K n13 e.q && cellB K P (clA K e) _) = true from hb)
      unfold cellB at c2
      dsimp only at c2
      split at c2
      · rename_i n cc cda
        obtain ⟨d1, c2⟩ := ba c2
        obtain ⟨d2, d3⟩ := ba c2
        have d1 := of_decide_eq_true d1
        subst d1
        split at d2
        · rename_i C2 csl lk
          have d2 := of_decide_eq_true d2
          subst d2
          split at d3
          · rename_i vs ccs lk2
            split at d3
            · rename_i file tf hvs
              exact ⟨nm, q2, N, bs, sn, sub, ab, col, dd, k0, k1, k2, k3, k5, oc, od, _, _, _, _, cda, _, osl, cc, _, _, vs, ccs, file, tf, _, _, csl, eqO_ok b1, hC, eqO_ok b3, of_decide_eq_true b4, rfl, c1, lk2, hvs, d3, lk, b5, of_decide_eq_true x1, of_decide_eq_true x2, eqO_ok b7, b8⟩
            · cases d3
          · cases d3
        · cases d2
      · cases c2
    | _ => cases hb
theorem err_of {F : Str} (S : ErrSt e.st e.q F) (hf : e.fld = some F) (hv : fnE K e = e.val) (hb : e.ok P B K = true) (op : PySem.W.nsIn K cStatics "thirdparty.any" = some none) (top : (P.main.scope.names.lookup ("super" : Str)).isSome = false) :
    ∀ mg : Str → Option Value, mg "super" = none → ErrTxt K P mg (clA K e) B (inA K e) F := by
  obtain ⟨nm, q2, N, bs, sn, sub, ab, col, dd, k0, k1, k2, k3, k5, oc, od, kV, doc, pm, an, cda, ct, osl, cc, ccl, cdd, vs, ccs, file, tf, cl, cld, csl, z1, z2, z3, z4, z5, z6, z7, z8, z9, z10, z11, z12, z13, z14, z15⟩ := err_cases hv hb
  rw [hf] at z15
  obtain ⟨y1, y⟩ := ba z15
  obtain ⟨y2, y⟩ := ba y
  obtain ⟨y3, y⟩ := ba y
  obtain ⟨y4, y5⟩ := ba y
  exact err_mkG S z2 (eqO_ok y1) (eqO_ok y2) (eqO_ok y3) (eqO_ok y4) z3 z4 z5 z6 z7 z8 z9 z10 z11 z12 z13 y5 z14 op top
end
section
variable {P : Program} {fa : List Fa} {tp : List (Str × List Dv)} {fn : List DefD} {es : List ErrD} {ts : List TabP} {w : World} {K : PySem.W.Frag}
theorem SaysP.fact (c : SaysP P fa tp fn es ts w K) (i : Nat) {f : Fa} (h : fa[i]? = some f := by rfl) : f.ok K = true :=
  List.all_eq_true.mp (ba (ba (ba (congrArg (fun z : AlP => z.1) c)).1).1).1 f (List.mem_of_getElem? h)
/-- a tuple of the module -/
theorem SaysP.tup (c : SaysP P fa tp fn es ts w K) (i : Nat) {x : Str} {vs : List Dv} (h : tp[i]? = some (x, vs) := by rfl) (H : Hp) : SqT K H (ga K x) (vs.map (Dv.v K)) :=
  tupB_ok (List.all_eq_true.mp (ba (ba (ba (congrArg (fun z : AlP => z.1) c)).1).1).2 (x, vs) (List.mem_of_getElem? h)) H
/-- a written dict -/
theorem SaysP.tab (c : SaysP P fa tp fn es ts w K) (i : Nat) {t : TabP} (h : ts[i]? = some t := by rfl) : dicW K (ga K t.1) = some (keysIn w.params (t.2.map (·.1))) ∧ valsB K (ga K t.1) t.2 = true := by
  refine ⟨?_, List.all_eq_true.mp (ba (ba (congrArg (fun z : AlP => z.1) c)).1).2 t (List.mem_of_getElem? h)⟩
  have e : ts.map (fun t => dicW K (ga K t.1)) = ts.map fun t => some (keysIn w.params (t.2.map (·.1))) := congrArg (fun z : AlP => z.2.2.2) c
  have e2 : (ts.map fun t => dicW K (ga K t.1))[i]? = (ts.map fun t => some (keysIn w.params (t.2.map (·.1))))[i]? := by rw [e]
  rw [List.getElem?_map, List.getElem?_map, h] at e2
  exact Option.some.inj e2
theorem SaysP.def_ (c : SaysP P fa tp fn es ts w K) (i : Nat) {d : DefD} (h : fn[i]? = some d := by rfl) : ∃ fd, FunD K d.name d.qual d.params d.body d.scope (d.dvs K) (d.kws K) (fAd K d.at_) fd := by
  have c2 := (ba (ba (congrArg (fun z : AlP => z.1) c)).2).1
  have e : fn.map (fun d => fnW K d.at_) = fn.map DefD.val := congrArg (fun z : AlP => z.2.1) c
  have e2 : (fn.map fun d => fnW K d.at_)[i]? = (fn.map DefD.val)[i]? := by rw [e]
  rw [List.getElem?_map, List.getElem?_map, h] at e2
  exact DefD.funD (Option.some.inj e2) (List.all_eq_true.mp c2 d (List.mem_of_getElem? h))
/-- a def of no default -/
theorem SaysP.fun_ (c : SaysP P fa tp fn es ts w K) (i : Nat) {x : Str} {st : Stmt} (h : fn[i]? = some ⟨(x, none), x, x, defArgs st, defBody st, defScope st, [], []⟩ := by rfl) : ∃ fd, L2.Fun K x x st (ga K x) fd := by
  obtain ⟨fd, F⟩ := c.def_ i h
  obtain ⟨oc, od, dV, kV, doc, pm, an, cdv, ct, osl, e1, e2, e3, e4, e5⟩ := F.ex
  rcases e4 with ⟨_, rfl⟩ | ⟨z, _⟩
  · exact ⟨fd, ⟨oc, od, kV, doc, pm, an, cdv, ct, osl, e1, e2, e3⟩, F.kp⟩
  · exact absurd rfl z
theorem SaysP.ext (c : SaysP P fa tp fn es ts w K) (hne : es.isEmpty = false) : PySem.W.nsIn K cStatics "thirdparty.any" = some none ∧ PySem.W.nsIn K mainGlobals "WhoError" = some (some (.ref (ga K "WhoError"))) ∧ PySem.W.subIn K (.ref (ga K "WhoError")) (.type "BaseException") = some true ∧
    PySem.W.typeIn K (.ref (ga K "WhoError")) = some (.type "type") ∧ PySem.W.isClsIn K (ga K "WhoError") = true ∧ (es.map (clA K)).Nodup ∧ ga K "WhoError" ∉ es.map (clA K) ∧ ∀ e ∈ es, e.ok P (ga K "WhoError") K = true := by
  have c2 := (ba (ba (congrArg (fun z : AlP => z.1) c)).2).2
  unfold extB at c2
  rw [hne, Bool.false_or] at c2
  obtain ⟨a1, c2⟩ := ba c2
  obtain ⟨a2, c2⟩ := ba c2
  obtain ⟨a3, c2⟩ := ba c2
  obtain ⟨a4, c2⟩ := ba c2
  obtain ⟨a5, c2⟩ := ba c2
  obtain ⟨a6, a7⟩ := ba c2
  obtain ⟨a8, a9⟩ := ba a3
  exact ⟨eqO_ok a1, eqO_ok a2, of_decide_eq_true a8, of_decide_eq_true a9, a4, of_decide_eq_true a5, of_decide_eq_true a6, List.all_eq_true.mp a7⟩
theorem SaysP.val (c : SaysP P fa tp fn es ts w K) (i : Nat) {e : ErrD} (h : es[i]? = some e := by rfl) : fnE K e = e.val := by
  have e1 : es.map (fnE K) = es.map ErrD.val := congrArg (fun z : AlP => z.2.2.1) c
  have e2 : (es.map (fnE K))[i]? = (es.map ErrD.val)[i]? := by rw [e1]
  rw [List.getElem?_map, List.getElem?_map, h] at e2
  exact Option.some.inj e2
theorem ErrD.glo {B : Addr} {e : ErrD} (hb : e.ok P B K = true) : PySem.W.nsIn K mainGlobals e.x = some (some (.ref (clA K e))) := eqO_ok (ba hb).1
end
end Pev
/-! Pev: defs that call themselves, defaults, ord, name += e, a module's tuples. -/
namespace Pev
open PySem PySem.Spec
open PyProof.Rows L2 He
/-! ### a def with defaults -/
theorem fnG_ofD {P : Program} {w : World} {K : PySem.W.Frag} {mg : Str → Option Value} {base : Heap} {x qual : Str} {st : Stmt} {f : Addr} {fd : FuncData} {N ps : List Str} {k : Nat} {sp : Sp} {dvs : List V} {kws : List (Str × V)} (F : FunD K x qual (defArgs st) (defBody st) (defScope st) dvs kws f fd) (S : FnScope N ps (defScope st)) (len : ∀ vs H Q E, sp vs H Q E → vs.length = ps.length)
    (hbody : ∀ (cdv : Value) (A : Around) (fs : List Env) (s : Shared) (H : Hp) (vs : List V) (Q : VK) (E : XK), RoomG k (A.deeper (envOfC qual (defScope st) s.heap.objs.size f cdv)) → sp vs H Q E →
      ∃ t, PSs (cxOf (L2.CX P w) P w K mg base N qual (defScope st) f cdv A fs s H E) (defBody st) t ∧ t { nx := fun _ H' => Q .non H', rt := Q } (L2.start N vs) H) : FnG P w K mg base (k + 1) f fd ps sp := by
  obtain ⟨c1, c2, dV, kV, doc, pm, an, cdv, ct, sl, rfl, lk, hcode, _, _⟩ := F.ex
  refine ⟨len, fun A fs s H args us vs Q E hr e0 hb rv hsp => ?_⟩
  have up : ∀ b o, base.get? b = some o → s.heap.get? b = some o := fun b o e => (e0.bs b o e).1
  have KX : K.In s.heap := e0.mod.kin.keeps up
  have par : ∀ y ∈ ps.zip us, (defScope st).names.lookup y.1 = some .local ∨ ((defScope st).names.lookup y.1 = some .cell ∧ ((cellsFrom (s.heap.objs.size + 1) (defScope st).names []).lookup y.1).isSome = true) := fun y hy =>
    (S.par y.1 (List.of_mem_zip hy).1).imp id fun q => ⟨q, PySem.W.cellsFrom_some _ _ _ (.inl q)⟩
  refine codeAny_call_function hr.toRoom.depth (KX _ _ lk) rfl S.co S.gen rfl (PySem.W.codeRec_of KX hcode) (hb _ _ _ _ (wpAny_newFunctionEnv_cells S.kind par fun env he s1 z => ?_))
  subst he
  obtain ⟨t, ht, hq⟩ := hbody cdv A fs s H vs Q E (hr.deeper _) hsp
  refine ⟨(e0.mod.nolimit.keeps up).keeps z.toInCall.keep, codeAny_func (wpAny_mono (ht.run [] s1 (L2.start N vs) H _ (inv_start S hr.hd e0 (len _ _ _ _ hsp) rv z) hq) (fun fl s2 hs => ?_) fun _ _ hs => hs)⟩
  have q := flow_end hs
  cases fl with
  | ret u => exact q
  | next => exact q
  | brk => exact q.elim
  | cont => exact q.elim
theorem fn_okD {P : Program} {w : World} {T : Tb} {mg : Str → Option Value} {base : Heap} {x qual : Str} {st : Stmt} {f : Addr} {fd : FuncData} {N ps : List Str} {k nN np : Nat} {b : SM} {dvs : List V} {kws : List (Str × V)} (F : FunD T.K x qual (defArgs st) (defBody st) (defScope st) dvs kws f fd) (S : FnScope N ps (defScope st)) (eN : N.length = nN) (ep : ps.length = np)
    (hb : ∀ (cdv : Value) (A : Around) (outer : List Env) (s : Shared) (H : Hp) (E : XK), RoomG k (A.deeper (envOfC qual (defScope st) s.heap.objs.size f cdv)) →
      PSs (cxOf (L2.CX P w) P w T.K mg base N qual (defScope st) f cdv A outer s H E) (defBody st) (tS T (fun cls d _ H' => E cls d H') b)) :
    FnG P w T.K mg base (k + 1) f fd ps (spF T np (fnB nN b)) := by
  subst eN ep
  refine fnG_ofD F S (fun vs H Q E h => h.1) fun cdv A outer s H vs Q E hr h => ⟨_, hb cdv A outer s H E hr, ?_⟩
  obtain ⟨_, β, α, S0, rs, hR, hV, h⟩ := h
  refine ⟨β, α, S0, _, hR, er_start hV, ?_⟩
  unfold fnB at h
  generalize hq : b (rs.map some ++ List.replicate (N.length - rs.length) none) S0 = o at h ⊢
  cases o with
  | nx ρ S => exact fun α' H' σ' e r _ => h α' H' .non e r .non
  | rt r S => exact h
  | bk ρ S => exact h.elim
  | ct ρ S => exact h.elim
  | exc c f ρ S => exact fun α' H' σ' cls d e r _ q => h α' H' cls d e r q
  | stuck => exact h.elim
/-! ### ord -/
/-! ### name += e, of ints -/
section
variable {X : Cx} {T : Tb} {W : WX} {e : Expr} {m : EM} {pos : Pos}
end
/-! ### o[i], p[j] = e, f -/
section
variable {X : Cx} {T : Tb} {W : WX} {e o i o' i' : Expr} {me mo mi mo' mi' : EM} {pos p2 p3 pt : Pos} {kt : Nat}
end
/-! ### a, b, c, d = .. (a tuple is built, then taken apart) -/
section
variable {X : Cx} {T : Tb} {W : WX} {a b c d : Expr} {ms : EMs} {pos px py pz pu pt pt2 : Pos} {kt k2 : Nat} {x y z u : Str}
end
/-! ### sum of a tuple -/
/-! ### // by a positive divisor of any size; draws with such bounds -/
/-! ### a tuple at a call's end: all of the call's own lists are looked at for the last time -/
end Pev
/-! Pev: a text or a tuple so many times. -/
namespace Pev
open PySem PySem.Spec PyProof.Rows L2
end Pev
/-! Pev: data compared, sorted. -/
namespace Pev
open PySem PySem.Spec PyProof.Rows L2
/-! ### a < b and so on of data that are alike -/
section
variable {X : Cx} {T : Tb}
end
/-! ### sorted of data -/
def isTup1 : PyData → Bool
  | .tuple (_ :: _) => true
  | _ => false
def isOth : PyData → Bool
  | .tuple _ => false
  | .none => false
  | _ => true
def sortOk (ds : List PyData) : Bool := (ds.all fun d => ds.all fun e => PySem.W.alike d e) && (ds.all isTup1 || ds.all isOth) && ds.all (fun d => decide (d.depth ≤ 60))
theorem sortOk_al {ds : List PyData} (h : sortOk ds = true) : PySem.W.AllAlike ds := by
  unfold sortOk at h
  rw [Bool.and_eq_true, Bool.and_eq_true] at h
  exact fun d hd e he => List.all_eq_true.mp (List.all_eq_true.mp h.1.1 d hd) e he
theorem sortOk_dep {ds : List PyData} (h : sortOk ds = true) : ∀ d ∈ ds, d.depth ≤ 60 := by
  unfold sortOk at h
  rw [Bool.and_eq_true] at h
  exact fun d hd => of_decide_eq_true (List.all_eq_true.mp h.2 d hd)
theorem dp_len {K : PySem.W.Frag} {H : Hp} : ∀ {vs : List V} {ds : List PyData}, DpAll K H vs ds → vs.length = ds.length
  | _, _, .nil => rfl
  | _, _, .cons _ t => by rw [List.length_cons, List.length_cons, dp_len t]
end Pev
/-! Pev: zip of two lists or of two tuples of data. -/
namespace Pev
open PySem PySem.Spec PyProof.Rows L2
section
variable {K : Tb} {β : List Addr} {α : List (Option Addr)} {H : Hp} {S : Sto}
end
end Pev
/-! Pev: min and max of two data, o[i] += e, get of a written dict. -/
namespace Pev
open PySem PySem.Spec PyProof.Rows L2
/-! ### min(a, b), max(a, b) of data -/
section
variable {prog : Program} {w : World} {A : Around} {E : Value → Shared → Prop} {s : Shared} {a b : Value} {x y : PyData} {as bs : List Addr} {Q : Value → Shared → Prop}
end
section
variable {X : Cx} {T : Tb}
/-! ### o[i] op= e of ints -/
/-- the int at a place of an own list -/
def slotI (o i : R) (S : Sto) : Option Int := match o, i with
  | .obj k, .dat (.int n) => match S[k]? with
    | some (.lst rs) => match atI rs n with
      | some (.dat (.int a)) => some a
      | _ => none
    | _ => none
  | _, _ => none
def sAugS (f : Int → Int → Int) (mo mi me : EM) : SM := fun ρ S => (mo ρ S).toS ρ fun o S1 => (mi ρ S1).toS ρ fun i S2 => match slotI o i S2 with
  | some a => (me ρ S2).toS ρ fun y S3 => match y with
    | .dat (.int b) => (putAt o i (.dat (.int (f a b))) S3).toS ρ fun _ S4 => .nx ρ S4
    | _ => .stuck
  | none => .stuck
variable {W : WX} {o i e : Expr} {mo mi me : EM} {pos tpos : Pos} {op : Operator}
end
end Pev
/-! Pev: a written dict of the module with text keys: get, in, []. -/
namespace Pev
open PySem PySem.Spec PyProof.Rows L2
def kvAt (kvs : List (Str × PyData)) (z : Str) : Option PyData := (kvs.find? fun p => decide (p.1 = z)).map (·.2)
/-- at a: the written dict of these keys and values -/
structure TabOk (K : PySem.W.Frag) (w : World) (a : Addr) (kvs : List (Str × PyData)) : Prop where
  kd : ∃ es n, KDict K w a es n
  at_ : ∀ z, match kvAt kvs z with
    | some d => ∃ v u, PySem.W.nsIn K a z = some (some u) ∧ RelV v u ∧ ∀ H, Dq K H v d
    | none => PySem.W.nsIn K a z = some none
section
variable {X : Cx} {T : Tb} {W : WX} {e f : Expr} {pos p apos cpos : Pos} {a : Addr} {kvs : List (Str × PyData)} {x : Str} {ta : TA} {ms : EMs}
end
end Pev
/-! Pev: a tuple built of own lists; just these lists go. -/
namespace Pev
open PySem PySem.Spec PyProof.Rows L2
def reach (S : Sto) : Nat → R → List Nat
  | n + 1, .obj k => k :: (match S[k]? with
    | some (.lst rs) => rs.flatMap (reach S n)
    | _ => [])
  | _, _ => []
def killS (D : List Nat) (S : Sto) : Sto := D.foldl (fun S k => S.set k .dead) S
def killA (D : List Nat) (α : List (Option Addr)) : List (Option Addr) := D.foldl (fun S k => S.set k none) α
theorem killS_len : ∀ (D : List Nat) (S : Sto), (killS D S).length = S.length
  | [], _ => rfl
  | k :: D, S => (killS_len D _).trans (List.length_set ..)
theorem killA_len : ∀ (D : List Nat) (S : List (Option Addr)), (killA D S).length = S.length
  | [], _ => rfl
  | k :: D, S => (killA_len D _).trans (List.length_set ..)
theorem killS_at {i : Nat} {rs : List R} : ∀ {D : List Nat} {S : Sto}, (killS D S)[i]? = some (.lst rs) → i ∉ D ∧ S[i]? = some (.lst rs)
  | [], _, h => ⟨List.not_mem_nil, h⟩
  | k :: D, S, h => by
    obtain ⟨h1, h2⟩ := killS_at (D := D) (S := S.set k .dead) h
    by_cases e : k = i
    · subst e
      rw [List.getElem?_set_self'] at h2
      cases q : S[k]? with
      | none => rw [q] at h2; cases h2
      | some c => rw [q] at h2; cases h2
    · rw [List.getElem?_set_ne e] at h2
      exact ⟨fun m => (List.mem_cons.mp m).elim (fun z => e z.symm) h1, h2⟩
theorem killA_at {i : Nat} {a : Addr} : ∀ {D : List Nat} {S : List (Option Addr)}, (killA D S)[i]? = some (some a) → i ∉ D ∧ S[i]? = some (some a)
  | [], _, h => ⟨List.not_mem_nil, h⟩
  | k :: D, S, h => by
    obtain ⟨h1, h2⟩ := killA_at (D := D) (S := S.set k none) h
    by_cases e : k = i
    · subst e
      rw [List.getElem?_set_self'] at h2
      cases q : S[k]? with
      | none => rw [q] at h2; cases h2
      | some c => rw [q] at h2; cases h2
    · rw [List.getElem?_set_ne e] at h2
      exact ⟨fun m => (List.mem_cons.mp m).elim (fun z => e z.symm) h1, h2⟩
theorem killA_not {i : Nat} : ∀ {D : List Nat} {S : List (Option Addr)}, i ∉ D → (killA D S)[i]? = S[i]?
  | [], _, _ => rfl
  | k :: D, S, h => by
    have e : k ≠ i := fun z => h (z ▸ List.mem_cons_self)
    exact (killA_not (D := D) (S := S.set k none) fun m => h (List.mem_cons_of_mem _ m)).trans (List.getElem?_set_ne e)
section
variable {K : Tb} {β : List Addr} {α : List (Option Addr)} {H : Hp} {S : Sto} {D : List Nat}
theorem live_kill {a : Addr} (h : a ∈ live (killA D α)) : a ∈ live α := by
  obtain ⟨k, e⟩ := mem_live.mp h
  exact mem_live.mpr ⟨k, (killA_at e).2⟩
theorem kill_sub : Same (hid (blk β α) H) (hid (blk β (killA D α)) H) := fun a o h => by
  obtain ⟨n, q, nt⟩ := hid_some.mp h
  refine hid_some.mpr ⟨fun z => n ?_, q, nt⟩
  rcases List.mem_append.mp z with z | z
  · exact List.mem_append_left _ z
  · exact List.mem_append_right _ (live_kill z)
theorem mapM_allK {n : Nat} (ih : ∀ (r : R) (v : V) (d : PyData), Vr K β α H r v → snap S n r = some d → (∀ k ∈ reach S n r, k ∈ D) → Dq K (hid (blk β (killA D α)) H) v d) :
    ∀ {rs : List R} {vs : List V} {ds : List PyData}, Vrs K β α H rs vs → rs.mapM (snap S n) = some ds → (∀ k ∈ rs.flatMap (reach S n), k ∈ D) → DqAll K (hid (blk β (killA D α)) H) vs ds
  | [], _, ds, h, e, _ => by
    cases h
    rw [List.mapM_nil] at e
    cases e
    exact .nil
  | r :: rs, _, ds, h, e, hk => by
    cases h with
    | cons h t =>
      rw [List.mapM_cons] at e
      cases e1 : snap S n r with
      | none => rw [e1] at e; cases e
      | some d =>
        rw [e1] at e
        cases e2 : rs.mapM (snap S n) with
        | none =>
          rw [e2] at e
          cases e
        | some ds' =>
          rw [e2] at e
          cases e
          rw [List.flatMap_cons] at hk
          exact .cons (ih r _ d h e1 fun k m => hk k (List.mem_append_left _ m)) (mapM_allK ih t e2 fun k m => hk k (List.mem_append_right _ m))
theorem snap_kill (Rr : Rl K β α S H) : ∀ (n : Nat) (r : R) (v : V) (d : PyData), Vr K β α H r v → snap S n r = some d → (∀ k ∈ reach S n r, k ∈ D) → Dq K (hid (blk β (killA D α)) H) v d := by
  intro n
  induction n with
  | zero =>
    intro r v d h e _
    cases r with
    | dat d' => cases e; exact Dq.same kill_sub h
    | obj k => cases e
    | ro l => cases e
    | err _ _ => cases e
    | lam _ _ => cases e
  | succ n ih =>
    intro r v d h e hk
    cases r with
    | dat d' => cases e; exact Dq.same kill_sub h
    | ro l => cases e
    | err _ _ => cases e
    | lam _ _ => cases e
    | obj k =>
      unfold snap at e
      unfold reach at hk
      split at e
      · rename_i rs q
        cases e2 : rs.mapM (snap S n) with
        | none => rw [e2] at e; cases e
        | some ds =>
          rw [e2] at e
          cases e
          rw [q] at hk
          obtain ⟨a, vs, e1, e3, e4⟩ := Rr.cell k _ q
          have ev := h.2 a e1
          subst ev
          refine .lst (hid_some.mpr ⟨fun z => ?_, e3, trivial⟩) (mapM_allK (fun r v d => ih r v d) e4 e2 fun j m => hk j (List.mem_cons_of_mem _ m))
          rcases List.mem_append.mp z with z | z
          · exact Rr.off a (mem_live.mpr ⟨k, e1⟩) z
          · obtain ⟨j, ej⟩ := mem_live.mp z
            obtain ⟨j1, j2⟩ := killA_at ej
            cases Rr.inj j k a j2 e1
            exact j1 (hk k List.mem_cons_self)
      · cases e
end
def gTupG (xs : List R) (S : Sto) : Out R := if xs.length ≤ sizeLine then (match xs.mapM (snap S depS) with
  | some ds => .ok (.dat (.tuple ds)) (killS (xs.flatMap (reach S depS)) S)
  | none => .stuck) else .stuck
theorem newG_ok {T : Tb} {β : List Addr} {W : WX} {σ : L2.St} {α : List (Option Addr)} {H : Hp} {S : Sto} (Rr : Rl T β α S H) {rs : List R} {vs : List V} {p : Addr} {Q : V → Hp → Prop} (hp : H p = none) (hv : Vrs T β α H rs vs)
    (h : PostG T β W (Vr T β) σ (gTupG rs S) α H Q) : Q (.ref p) (upd H p (.tup vs)) := by
  unfold gTupG at h
  split at h
  · cases e : rs.mapM (snap S depS) with
    | none => rw [e] at h; exact h.elim
    | some ds =>
      rw [e] at h
      generalize hD : rs.flatMap (reach S depS) = D at h
      have sm : Same H (upd H p (.tup vs)) := same_new hp
      have dq : DqAll T.K (hid (blk β (killA D α)) H) vs ds := mapM_allK (fun r v d => snap_kill Rr depS r v d) hv e fun k m => hD ▸ m
      have st : ∀ b, H b ≠ none → upd H p (.tup vs) b ≠ none := fun b q => by
        cases z : H b with
        | none => exact absurd z q
        | some o => rw [sm b o z]; exact fun y => nomatch y
      have ex : Ext α H (killA D α) (upd H p (.tup vs)) := { len := by rw [killA_len]; exact Nat.le_refl _, old := fun k a _ z => (killA_at z).2, new := fun k a hk z => absurd (List.getElem?_eq_some_iff.mp (killA_at z).2).1 (Nat.not_lt.mpr hk), keep := fun b o _ _ z => sm b o z, stay := st }
      have pl : ∀ a, a ∈ live (killA D α) → a ≠ p := fun a m q => mut_some (Rr.mt a (live_kill m)).mut (q ▸ hp)
      have cl : ∀ (k : Nat) (rs : List R), (killS D S)[k]? = some (.lst rs) → ∃ a ws, (killA D α)[k]? = some (some a) ∧ upd H p (.tup vs) a = some (.lst ws) ∧ Vrs T β (killA D α) (upd H p (.tup vs)) rs ws := fun k rs z => by
        obtain ⟨k1, k2⟩ := killS_at z
        obtain ⟨a, ws, e1, e2, e3⟩ := Rr.cell k rs k2
        exact ⟨a, ws, (killA_not k1).trans e1, sm a _ e2, Vrs.ext ex e3⟩
      have rl : Rl T β (killA D α) (killS D S) (upd H p (.tup vs)) := ⟨by rw [killA_len, killS_len]; exact Rr.len, fun k j a z y => Rr.inj k j a (killA_at z).2 (killA_at y).2, fun a z => Rr.off a (live_kill z), fun b z => (by rw [upd_ne (fun y => (Rr.bt b z).has (by rw [y]; exact hp))]; exact Rr.bt b z), fun a z => by rw [same_at sm (mut_some (Rr.mt a (live_kill z)).mut)]; exact Rr.mt a (live_kill z), cl, Rr.tab.ext sm⟩
      refine h _ _ _ ex rl ?_
      show Dq T.K (hid (blk β (killA D α)) (upd H p (.tup vs))) (.ref p) (.tuple ds)
      refine .tup (.inl (.inl (hid_some.mpr ⟨fun z => ?_, upd_same, trivial⟩))) (DqAll.same (fun b o z => ?_) dq)
      · rcases List.mem_append.mp z with z | z
        · exact (Rr.bt p z).has hp
        · exact pl p z rfl
      · have z' := hid_some.mp z
        exact hid_some.mpr ⟨z'.1, sm b o z'.2.1, z'.2.2⟩
  · exact h.elim
theorem tr_tupG {X : Cx} {T : Tb} {W : WX} {es : List Expr} {ms : EMs} {pos : Pos} {x1 : Nat} (h : PA X es (tA T W ms)) : PE X (.Tuple es x1 pos) (tE T W (eArgs gTupG ms)) :=
  pe_le (pe_tup h) fun σ H Q h => args_le (r := fun xs H1 Q => xs.length ≤ sizeLine ∧ ∀ p, H1 p = none → Q (.ref p) (upd H1 p (.tup xs))) (g := gTupG) (by
    intro β W σ α S H xs vs Q Rr hx h
    have hz : xs.length ≤ sizeLine := by
      unfold gTupG at h
      split at h
      · assumption
      · exact h.elim
    exact ⟨by rw [← hx.length]; exact hz, fun p hp => newG_ok Rr hp hx h⟩) h
/-! ### two or three names at once, one of them a cell -/
section
variable {X : Cx} {T : Tb} {W : WX} {a b c d : Expr} {ms : EMs} {pos px py pz pu pt pt2 : Pos} {kt k2 : Nat} {x y z u : Str}
theorem ts_par2n (i j : Nat) (hc : X.calm = true) (hN : X.N.Nodup) (hi : X.N[i]? = some x) (hj : X.N[j]? = some y) (hx : Loc X.env.scope x) (hy : Loc X.env.scope y) (ha : PA X [a, b] (tA T W ms))
    (hs : swapsWithSole [.Tuple [.Name x px, .Name y py] kt pt] (.Tuple [a, b] k2 pt2) pos.line X.env = pure false := by rfl) (hw : swappedStores [.Tuple [.Name x px, .Name y py] kt pt] (.Tuple [a, b] k2 pt2) X.env = pure none := by rfl)
    (h1 : (assignEach [.Tuple [.Name x px, .Name y py] kt pt] X.env).map (·.2) = [assign (.Tuple [.Name x px, .Name y py] kt pt) X.env] := by rfl)
    (hf0 : X.fn x = true ∨ X.env.scope.names.lookup x = some .local := by first | exact .inl rfl | exact .inr rfl)
    (hf1 : X.fn y = true ∨ X.env.scope.names.lookup y = some .local := by first | exact .inl rfl | exact .inr rfl)
    (hlen : (assignEach [.Name x px, .Name y py] X.env).length = 2 := by rfl) (hst : (assignEach [.Name x px, .Name y py] X.env).findIdx? (·.1) = none := by rfl)
    (g0 : (assignEach [.Name x px, .Name y py] X.env).map (·.2) = assign (.Name x px) X.env :: (assignEach [.Name y py] X.env).map (·.2) := by rfl)
    (g1 : (assignEach [.Name y py] X.env).map (·.2) = assign (.Name y py) X.env :: (assignEach [] X.env).map (·.2) := by rfl)
    : PS X (.Assign [.Tuple [.Name x px, .Name y py] kt pt] (.Tuple [a, b] k2 pt2) pos) (tS T W (sPar2 i j ms)) :=
  ps_le (ps_asg (pe_tup ha) (pg_tup hc (pgs_cons (pg_name hN hi hx hf0) (pgs_cons (pg_name hN hj hy hf1) pgs_nil g1) g0) hlen hst) hs hw h1) fun D σ H h =>
  args_then (k := fun ρ xs S1 => match xs with
    | [x, y] => .nx ((ρ.set i (some x)).set j (some y)) S1
    | _ => .stuck) h fun β α S ρ r v H1 R1 E1 V1 p => by
    split at p
    · obtain ⟨v1, v2, rfl, g1, g2⟩ := vrs2 V1
      refine ⟨by show 2 ≤ sizeLine; decide, fun q hq => ⟨q, _, rfl, .inl (.inl upd_same), rfl, ?_⟩⟩
      refine ⟨_, _, rfl, _, _, rfl, rfl, p α _ _ (Ext.same (same_new hq)) (R1.same (same_new hq)) ?_⟩
      exact ((E1.set g1).set g2).ext (Ext.same (same_new hq))
    · exact p.elim
end
end Pev
/-! Pev: plain facts of data: equality, shape, order. -/
namespace Pev
open PySem
mutual
def nb : PyData → Bool
  | .bool _ => false
  | .dict _ => false
  | .list ds => nbAll ds
  | .tuple ds => nbAll ds
  | _ => true
def nbAll : List PyData → Bool
  | [] => true
  | d :: ds => nb d && nbAll ds
end
mutual
theorem eqv_iff : ∀ {d e : PyData}, nb d = true → nb e = true → (PyData.eqv d e = true ↔ d = e)
  | .none, e, _, h => by cases e <;> simp [PyData.eqv]
  | .bool b, e, h, _ => by unfold nb at h; cases h
  | .dict b, e, h, _ => by unfold nb at h; cases h
  | .int i, e, _, h => by cases e <;> first | (unfold nb at h; cases h; done) | simp [PyData.eqv]
  | .str i, e, _, h => by cases e <;> simp [PyData.eqv]
  | .list xs, e, h1, h2 => by
    cases e with
    | list ys =>
      unfold nb at h1 h2
      unfold PyData.eqv
      rw [eqvAll_iff h1 h2]
      simp
    | _ => simp [PyData.eqv]
  | .tuple xs, e, h1, h2 => by
    cases e with
    | tuple ys =>
      unfold nb at h1 h2
      unfold PyData.eqv
      rw [eqvAll_iff h1 h2]
      simp
    | _ => simp [PyData.eqv]
theorem eqvAll_iff : ∀ {ds es : List PyData}, nbAll ds = true → nbAll es = true → (PyData.eqvAll ds es = true ↔ ds = es)
  | [], [], _, _ => by simp [PyData.eqvAll]
  | [], _ :: _, _, _ => by simp [PyData.eqvAll]
  | _ :: _, [], _, _ => by simp [PyData.eqvAll]
  | d :: ds, e :: es, h1, h2 => by
    unfold nbAll at h1 h2
    rw [Bool.and_eq_true] at h1 h2
    unfold PyData.eqvAll
    rw [Bool.and_eq_true, eqv_iff h1.1 h2.1, eqvAll_iff h1.2 h2.2]
    simp
end
mutual
theorem eqv_self : ∀ {d : PyData}, d.canLay0 = true → PyData.eqv d d = true
  | .none, _ => by unfold PyData.eqv; rfl
  | .bool b, _ => by unfold PyData.eqv; simp
  | .dict b, h => by unfold PyData.canLay0 at h; cases h
  | .int i, _ => by unfold PyData.eqv; simp
  | .str i, _ => by unfold PyData.eqv; simp
  | .list xs, h => by unfold PyData.canLay0 at h; unfold PyData.eqv; exact eqvAll_self h
  | .tuple xs, h => by unfold PyData.canLay0 at h; unfold PyData.eqv; exact eqvAll_self h
theorem eqvAll_self : ∀ {ds : List PyData}, PyData.canLayAll0 ds = true → PyData.eqvAll ds ds = true
  | [], _ => by unfold PyData.eqvAll; rfl
  | d :: ds, h => by
    unfold PyData.canLayAll0 at h
    rw [Bool.and_eq_true] at h
    unfold PyData.eqvAll
    rw [eqv_self h.1, eqvAll_self h.2]
    rfl
end
/-- may be laid, of depth k at most -/
def Fit (k : Nat) (d : PyData) : Prop := d.canLay0 = true ∧ d.depth ≤ k
theorem Fit.shaped {k : Nat} {d : PyData} (h : Fit k d) (hk : k ≤ 64 := by omega) : SeqAt.shaped d = true := by
  unfold SeqAt.shaped
  rw [h.1, decide_eq_true (show d.depth ≤ 64 from Nat.le_trans h.2 hk)]
  rfl
theorem fit_int (k : Nat) (i : Int) : Fit k (.int i) := ⟨by unfold PyData.canLay0; rfl, Nat.zero_le _⟩
theorem fit_none (k : Nat) : Fit k .none := ⟨by unfold PyData.canLay0; rfl, Nat.zero_le _⟩
theorem fit_all {k : Nat} : ∀ {ds : List PyData}, (∀ d ∈ ds, Fit k d) → PyData.canLayAll0 ds = true ∧ PyData.depthAll ds ≤ k
  | [], _ => ⟨by unfold PyData.canLayAll0; rfl, Nat.zero_le _⟩
  | d :: ds, h => by
    obtain ⟨h1, h2⟩ := fit_all fun e he => h e (List.mem_cons_of_mem _ he)
    obtain ⟨h3, h4⟩ := h d List.mem_cons_self
    refine ⟨by unfold PyData.canLayAll0; rw [h1, h3]; rfl, ?_⟩
    unfold PyData.depthAll
    exact Nat.max_le.mpr ⟨h4, h2⟩
theorem fit_tup {k : Nat} {ds : List PyData} (h : ∀ d ∈ ds, Fit k d) : Fit (k + 1) (.tuple ds) := by
  obtain ⟨h1, h2⟩ := fit_all h
  refine ⟨by unfold PyData.canLay0; exact h1, ?_⟩
  unfold PyData.depth
  omega
theorem fit_lst {k : Nat} {ds : List PyData} (h : ∀ d ∈ ds, Fit k d) : Fit (k + 1) (.list ds) := by
  obtain ⟨h1, h2⟩ := fit_all h
  refine ⟨by unfold PyData.canLay0; exact h1, ?_⟩
  unfold PyData.depth
  omega
theorem Fit.up {k m : Nat} {d : PyData} (h : Fit k d) (hk : k ≤ m) : Fit m d := ⟨h.1, Nat.le_trans h.2 hk⟩
theorem beq_dat {neg : Bool} {d e : PyData} {S : Sto} (h1 : SeqAt.shaped d = true) (h2 : SeqAt.shaped e = true) : bEq neg (.dat d) (.dat e) S = .ok (.dat (.bool (if neg then !PyData.eqv d e else PyData.eqv d e))) S := by
  unfold bEq
  rw [snap_dat, snap_dat]
  dsimp only
  rw [h1, h2]
  rfl
theorem beq_same {neg : Bool} {k : Nat} {d : PyData} {S : Sto} (h : Fit k d) (hk : k ≤ 64 := by omega) : bEq neg (.dat d) (.dat d) S = .ok (.dat (.bool (!neg))) S := by
  rw [beq_dat (h.shaped hk) (h.shaped hk), eqv_self h.1]
  cases neg <;> rfl
theorem bin_list {neg : Bool} {k : Nat} {d : PyData} {ds : List PyData} {S : Sto} (h1 : Fit k d) (h2 : Fit k (.list ds)) (hk : k ≤ 64 := by omega) : bIn neg (.dat d) (.dat (.list ds)) S = .ok (.dat (.bool (if neg then !(ds.any fun z => PyData.eqv z d) else ds.any fun z => PyData.eqv z d))) S := by
  unfold bIn
  rw [snap_dat, snap_dat]
  dsimp only
  rw [h1.shaped hk, h2.shaped hk]
  rfl
theorem any_eqv {α : Type} (f : α → PyData) (g : α → Bool) {d : PyData} {xs : List α} (h : ∀ x ∈ xs, PyData.eqv (f x) d = g x) : (xs.map f).any (fun z => PyData.eqv z d) = xs.any g := by
  induction xs with
  | nil => rfl
  | cons x xs ih =>
    rw [List.map_cons, List.any_cons, List.any_cons, h x List.mem_cons_self, ih fun y hy => h y (List.mem_cons_of_mem _ hy)]
theorem newL_f {α : Type} (f : α → PyData) (xs : List α) (S : Sto) : newL false (xs.map fun a => R.dat (f a)) S = .ok (.dat (.list (xs.map f))) S := by
  unfold newL
  rw [datAll_f]
theorem one_arg {d : PyData} (S : Sto) : [R.dat d].mapM (snap S depS) = some [d] := by rw [List.mapM_cons, snap_dat]; rfl
theorem two_args {d e : PyData} (S : Sto) : [R.dat d, .dat e].mapM (snap S depS) = some [d, e] := by rw [List.mapM_cons, snap_dat, List.mapM_cons, snap_dat]; rfl
theorem three_args {d e f : PyData} (S : Sto) : [R.dat d, .dat e, .dat f].mapM (snap S depS) = some [d, e, f] := by rw [List.mapM_cons, snap_dat, List.mapM_cons, snap_dat, List.mapM_cons, snap_dat]; rfl
theorem one_call {m : FM} {d e : PyData} (h : Gv m [d] e) (S : Sto) : pureF m [.dat d] S = .ok (.dat e) S := pure_gives h (one_arg S) rfl
theorem two_call {m : FM} {d e f : PyData} (h : Gv m [d, e] f) (S : Sto) : pureF m [.dat d, .dat e] S = .ok (.dat f) S := pure_gives h (two_args S) rfl
theorem three_call {m : FM} {d e f g : PyData} (h : Gv m [d, e, f] g) (S : Sto) : pureF m [.dat d, .dat e, .dat f] S = .ok (.dat g) S := pure_gives h (three_args S) rfl
theorem one_throw {m : FM} {d : PyData} {c : Nat} {f : PyData} (h : Tw m [d] c f) (S : Sto) : pureF m [.dat d] S = .exc c (some f) S := pure_throws h (one_arg S) rfl
theorem two_throw {m : FM} {d e : PyData} {c : Nat} {f : PyData} (h : Tw m [d, e] c f) (S : Sto) : pureF m [.dat d, .dat e] S = .exc c (some f) S := pure_throws h (two_args S) rfl
theorem sz_of {n : Nat} (h : n ≤ 10000) : (n ≤ sizeLine) = True := eq_true (Nat.le_trans h (by decide))
theorem sz_lt {n : Nat} (h : n ≤ 10000) : (n < sizeLine) = True := eq_true (Nat.lt_of_le_of_lt h (by decide))
theorem rangeR_0 (n : Nat) : rangeR 0 ((n : Int)).toNat = (List.range n).map fun i : Nat => R.dat (.int (i : Nat)) := by
  unfold rangeR
  rw [Int.toNat_natCast]
  apply List.map_congr_left
  intro i _
  rw [Int.zero_add]
theorem inR_small {n : Nat} (h : n ≤ 10000) : inR (n : Nat) = true := by unfold inR; exact decide_eq_true (by omega)
theorem pairs_f {α : Type} (f : α → PyData) : ∀ (l : List α) (k : Nat), (pairsF k (l.map f)).map R.dat = (l.zipIdx k).map fun p => R.dat (.tuple [.int (p.2 : Nat), f p.1])
  | [], _ => rfl
  | c :: l, k => by
    rw [List.map_cons, List.zipIdx_cons, List.map_cons, ← pairs_f f l (k + 1)]
    rfl
theorem zipIdx_at {α : Type} {l : List α} {p : α × Nat} (h : p ∈ l.zipIdx 0) : l[p.2]? = some p.1 := List.mem_zipIdx_iff_getElem?.mp h
mutual
theorem same_lay : ∀ {d : PyData}, d.canLay0 = true → same d d = true
  | .none, _ => by unfold same; rfl
  | .bool b, _ => by unfold same; simp
  | .dict b, h => by unfold PyData.canLay0 at h; cases h
  | .int i, _ => by unfold same; simp
  | .str i, _ => by unfold same; simp
  | .list xs, h => by unfold PyData.canLay0 at h; unfold same; exact sameAll_lay h
  | .tuple xs, h => by unfold PyData.canLay0 at h; unfold same; exact sameAll_lay h
theorem sameAll_lay : ∀ {ds : List PyData}, PyData.canLayAll0 ds = true → sameAll ds ds = true
  | [], _ => by unfold sameAll; rfl
  | d :: ds, h => by
    unfold PyData.canLayAll0 at h
    rw [Bool.and_eq_true] at h
    unfold sameAll
    rw [same_lay h.1, sameAll_lay h.2]
    rfl
end
/-- a comprehension over data whose every item stays -/
theorem lc_all {α : Type} {g : GM} {elt : EM} {ρ : Rho} {S : Sto} (enc : α → R) (f : α → R) (xs : List α) (h : ∀ a ∈ xs, ∃ ρ1, g (enc a) ρ = some ρ1 ∧ elt ρ1 S = .ok (f a) S) : lcLoop [] g tYes' elt ρ (xs.map enc) S = .ok (xs.map f) S := by
  have key := lc_pure (keep := []) (t := tYes') enc (fun _ => true) f stands_nil xs fun a ha => by
    obtain ⟨ρ1, h1, h2⟩ := h a ha
    exact ⟨ρ1, h1, rfl, fun _ => h2⟩
  rw [List.filter_eq_self.mpr fun _ _ => rfl] at key
  exact key
end Pev
/-! Pev: a tuple once: itself; how arguments are told. -/
namespace Pev
open PySem PySem.Spec PyProof.Rows L2
theorem cons_nx {m1 m2 : SM} {ρ ρ1 : Rho} {S S1 : Sto} (h : m1 ρ S = .nx ρ1 S1) : sCons m1 m2 ρ S = m2 ρ1 S1 := by
  unfold sCons
  rw [h]
end Pev
/-! Pev: sorted by a key that is called. -/
namespace Pev
open PySem PySem.Spec PyProof.Rows L2
section
variable {X : Cx} {pins : List (Addr × Obj)} {σ : L2.St} {H : Hp} {s : Shared}
/-- a new object of ours, laid after s was -/
structure Ours (X : Cx) (pins : List (Addr × Obj)) (a : Addr) : Prop where
  lo : X.s_0.heap.objs.size ≤ a
  loc : a ≠ X.env.locals
  cel : ∀ x c, X.env.cells.lookup x = some c → c ≠ a
  pin : ∀ p ∈ X.pn ++ pins, p.1 ≠ a
theorem Ours.of (I : Inv X pins σ H s) {a : Addr} (h : s.heap.objs.size ≤ a) : Ours X pins a where
  lo := Nat.le_trans I.sz h
  loc := Nat.ne_of_gt (Nat.lt_of_lt_of_le I.lt h)
  cel := fun x c e => by
    obtain ⟨v, o, ho, _⟩ := I.cell x c e
    exact Nat.ne_of_lt (Nat.lt_of_lt_of_le (Heap.lt_size ho) h)
  pin := fun p hp => Nat.ne_of_lt (Nat.lt_of_lt_of_le (Heap.lt_size (I.pin p hp).1) h)
end
end Pev
/-! Pev: a lambda of one parameter: it is made, it is called. -/
namespace Pev
open PySem PySem.Spec PyProof.Rows L2
open LamX (CodeO TabS Tabs ExtN TabB inv_table codeO_ne among_app lamEnv)
theorem RoomG.in1 {k : Nat} {A : Around} (r : RoomG (k + 1) A) : RoomG k A.in1 := ⟨r.toRoom.in1, r.gd⟩
section
variable {X : Cx} {pins : List (Addr × Obj)} {σ : L2.St} {H : Hp} {s : Shared}
/-! ### its names: one parameter, captured names, globals -/
structure LamS1 (sc scope : Scope) (p : Str) : Prop where
  kind : scope.kind = .function
  co : scope.isCoroutine = false
  gen : scope.isGenerator = false
  own : ∀ y ∈ scope.names, y.2 ≠ .cell ∧ (y.2 = .local → y.1 = p)
  par : scope.names.lookup p = some .local
  free : ∀ y ∈ scope.names, y.2 = .free → sc.names.lookup y.1 = some .cell ∨ sc.names.lookup y.1 = some .free
end
end Pev
/-! Pev: sorted(xs, key=f): its mirror. -/
namespace Pev
open PySem PySem.Spec PyProof.Rows L2
open LamX (CodeO TabB)
section
variable {X : Cx} {T : Tb} {pins : List (Addr × Obj)} {σ : L2.St} {β : List Addr}
/-- the key's value at f does what m says, while C is true -/
def KOk (X : Cx) (T : Tb) (σ : L2.St) (pins : List (Addr × Obj)) (f : Value) (β : List Addr) (C : List (Option Addr) → Hp → Prop) (m : R → Sto → Out R) : Prop :=
  ∀ (α : List (Option Addr)) (S S1 : Sto) (H : Hp) (s : Shared) (more : List (Addr × Obj)) (r : R) (x : V) (v : Value) (d : PyData), Inv X (more ++ pins) σ H s → Rl T β α S H → C α H → Vr T β α H r x → RelV x v → m r S = .ok (.dat d) S1 →
    wpAny (model X.prog X.w) X.A.in1.in1 (call f [v]) (fun u s' => ∃ k α' H', Inv X (more ++ pins) σ H' s' ∧ RelV k u ∧ Ext α H α' H' ∧ Rl T β α' S1 H' ∧ Dq T.K (hid (blk β α') H') k d) (fun _ _ => False) s
/-- the key's expression: it is read, then does what m says -/
structure KeyR (X : Cx) (T : Tb) (ke : Expr) (m : Rho → R → Sto → Out R) : Prop where
  run : ∀ (pins : List (Addr × Obj)) (s : Shared) (σ : L2.St) (H : Hp) (β : List Addr) (α : List (Option Addr)) (S : Sto) (ρ : Rho), Inv X pins σ H s → Rl T β α S H → Er T β α H σ ρ →
    wpAny (model X.prog X.w) X.A (eval ke X.env) (fun u s' => (∀ x, Builtin.«list.sort» ⟨[.ref x], [(Str.ofString "key", u)]⟩ = ksk_tree x u false) ∧ ∃ (H' : Hp) (more : List (Addr × Obj)) (C : List (Option Addr) → Hp → Prop),
      Inv X (more ++ pins) σ H' s' ∧ SmN H H' ∧ Rl T β α S H' ∧ C α H' ∧ (∀ α H α' H', C α H → Ext α H α' H' → C α' H') ∧ KOk X T σ (more ++ pins) u β C (m ρ)) X.xe s
end
end Pev
/-! Pev: keys: a def, a built-in, a lambda. -/
namespace Pev
open PySem PySem.Spec PyProof.Rows L2
open LamX (CodeO TabB Tabs lamEnv)
theorem SmN.refl {H : Hp} : SmN H H := ⟨fun _ _ _ e => e, fun _ e => e⟩
section
variable {X : Cx} {T : Tb}
end
end Pev
/-! Pev: the end of a law whose defs make lambdas. -/
namespace Pev
open PySem PySem.Spec
open PyProof.Rows L2 He
open LamX (TabB Tabs TabS)
section
variable {P : Program} {w : World} {K : PySem.W.Frag} {a : Addr} {us : List Value} {ns : List Int}
theorem law_callL {mg mb : Str → Option Value} {k : Nat} {fa : Addr} {fd : FuncData} {x : Str} {s : Shared} {cs : List (Addr × Addr)} {tabs : List (Addr × Str)} (KX : K.In s.heap) (hns : s.heap.Ns mainGlobals mg) (hb : s.heap.Ns builtinsNs mb) (hbb : ∀ x : Str, x ≠ "__name__" → mb x = bootBuiltins x)
    (hlim : s.heap.NoLimit) (hg : s.gens = #[]) (at_ : s.heap.get? a = some { cls := .type "list", data := .seq us.toArray }) (hi : IntsAre us ns) (hl : ns.length ≤ 63) (hr : Room k callerA)
    (tC : ∀ p ∈ cs, PySem.W.CodeHd s.heap p.1 p.2) (tT : ∀ p ∈ cs, s.heap.get? p.2 = some { cls := .none, data := .fields #[] }) (tK : ∀ p ∈ cs, K.lookup p.2 = none) (tt : ∀ t ∈ tabs, t.1 ∈ cs.map (·.2))
    (hbm : ∃ (bm : Addr) (ob : Obj), mg "__builtins__" = some (.ref bm) ∧ bm ≠ builtinsNs ∧ s.heap.get? bm = some ob ∧ ob.cls = .type "module" ∧ ob.dict = some builtinsNs ∧ ob.data = .plain)
    (F : ∀ base : Heap, K.In base → base.Ns mainGlobals mg → (∀ p ∈ cs, TabB base mg p.1 p.2) → FnG P w K mg base k fa fd [x] (spLaw K tabs)) (hbind : ∀ (s : Shared) (u : Value), BindsTo s fd ⟨[u], []⟩ [(x, u)]) :
    codeAny (model P w) callerA (.call (.ref fa) ⟨[.ref a], []⟩) (fun r s2 => r = .ok (.ret (.bool true)) ∧ OldK s.heap s2.heap ∧ s2.os = s.os ∧ AllBare s2.gens) s := by
  obtain ⟨H0, only, sq0, hok0⟩ := script_heap (P := P) (w := w) KX at_ hi (Nat.le_trans hl (by decide))
  have tIn : ∀ b, b ∈ cs.map (·.2) → s.heap.get? b = some { cls := .none, data := .fields #[] } := fun b hb => by
    obtain ⟨p, hp, rfl⟩ := List.mem_map.mp hb
    exact tT p hp
  have aN : a ∉ cs.map (·.2) := fun z => by
    have q := tIn a z
    rw [at_] at q
    cases (show Data.seq us.toArray _ = Data.fields #[] from congrArg Obj.data (Option.some.inj q))
  have n0 : ∀ b, b ∈ cs.map (·.2) → H0 b = none := fun b hb => by
    cases q : H0 b with
    | none => rfl
    | some u =>
      obtain ⟨rfl, _⟩ := only b u q
      exact absurd hb aN
  obtain ⟨H, hH⟩ : ∃ H : Hp, H = fun b => if b ∈ cs.map (·.2) then some (.tbl #[]) else H0 b := ⟨_, rfl⟩
  have hT : ∀ b, b ∈ cs.map (·.2) → H b = some (.tbl #[]) := fun b hb => by rw [hH]; exact if_pos hb
  have hN : ∀ b, b ∉ cs.map (·.2) → H b = H0 b := fun b hb => by rw [hH]; exact if_neg hb
  have sm : Same H0 H := fun b u e => by
    rw [hN b (fun z => by rw [n0 b z] at e; cases e)]
    exact e
  have sq := sm.seq sq0
  -- who is tracked
  have who : ∀ b u, H b = some u → b = a ∨ b ∈ cs.map (·.2) := fun b u e => by
    by_cases z : b ∈ cs.map (·.2)
    · exact .inr z
    · rw [hN b z] at e
      exact .inl (only b u e).1
  have hok : HOk P w H s.heap := fun b u e => by
    by_cases z : b ∈ cs.map (·.2)
    · rw [hT b z] at e
      cases e
      exact tIn b z
    · rw [hN b z] at e
      exact (hok0 b u e).stay (fun c v _ q => q) (fun c q => sm _ _ q) fun c xs q => sm _ _ q
  have see : ∀ {b : Addr} {o : Obj}, s.heap.get? b = some o → H b = none → (hidT s.heap H).get? b = some o := fun e n => hidT_get e n
  have free : ∀ {b : Addr} {o : Obj}, s.heap.get? b = some o → (∀ es n, o.data ≠ .seq es n) → o.data ≠ .fields #[] → H b = none := fun {b o} e d1 d2 => by
    cases q : H b with
    | none => rfl
    | some u =>
      rcases who b u q with z | z
      · subst z
        rw [at_] at e
        cases e
        exact absurd rfl (d1 _ _)
      · rw [tIn b z] at e
        cases e
        exact absurd rfl d2
  have ns_ : ∀ {b : Addr} {m : Str → Option Value}, s.heap.Ns b m → (hidT s.heap H).Ns b m := fun ⟨o, es, n, e, d, r⟩ => ⟨o, es, n, see e (free e (fun es n z => by rw [d] at z; cases z) fun z => by rw [d] at z; cases z), d, r⟩
  have KB : K.In (hidT s.heap H) := fun b o e => see (KX b o e) (by
    cases q : H b with
    | none => rfl
    | some u =>
      by_cases z : b ∈ cs.map (·.2)
      · obtain ⟨p, hp, rfl⟩ := List.mem_map.mp z
        rw [tK p hp] at e
        cases e
      · rw [hN b z] at q
        obtain ⟨rfl, z2, _⟩ := only b u q
        rw [z2] at e
        cases e)
  have md : Mod K mg (hidT s.heap H) := ⟨KB, ns_ hns, ⟨mb, ns_ hb, hbb⟩, let ⟨mc, h1, h2⟩ := hlim; ⟨mc, ns_ h1, h2⟩⟩
  have TB : ∀ p ∈ cs, TabB (hidT s.heap H) mg p.1 p.2 := fun p hp => by
    have pT := tT p hp
    obtain ⟨oG, eG, nG, atG, dG, _⟩ := id hns
    refine ⟨?_, ?_, fun z => ?_⟩
    · obtain ⟨o, vs, file, tf, flags, tg, inF, text, tx, e1, c1, c2, c3, r⟩ := tC p hp
      refine ⟨o, vs, file, tf, flags, tg, inF, text, tx, see e1 (free e1 (fun es n z => by rw [c2] at z; cases z) fun z => ?_), c1, c2, c3, r⟩
      rw [c2] at z
      cases z
      cases c3
    · obtain ⟨bm, ob, b1, b2, b3, b4, b5, b6⟩ := hbm
      refine ⟨bm, ob, b1, b2, fun z => ?_, fun z => ?_, see b3 (free b3 (fun es n z => by rw [b6] at z; cases z) fun z => by rw [b6] at z; cases z), b4, b5, b6⟩
      · rw [z, atG] at b3
        cases b3
        rw [dG] at b6
        cases b6
      · rw [z, pT] at b3
        cases b3
        cases b6
    · rw [z, pT] at atG
      cases atG
      cases dG
  have e0 : Env0 P w K mg (hidT s.heap H) callerA [] s H := ⟨rfl, md, fun b o e => of_hidT e, Nat.le_of_eq (hidT_size _ _), trivial, fun b hb => (List.not_mem_nil hb).elim, hok, .of_eq hg⟩
  have tabs0 : Tabs tabs H := fun t ht => TabS.nil (hT _ (tt t ht))
  refine codeAny_mono ((F _ KB (ns_ hns) TB).go callerA [] s H ⟨[.ref a], []⟩ [.ref a] [.ref a] (fun v _ => v = .bl true) (fun _ _ _ => False) ⟨hr, rfl⟩ e0 (hbind s (.ref a)) (.cons rfl .nil) ⟨a, ns, rfl, sq, hl, tabs0, fun _ => rfl⟩) fun r s2 q => ?_
  match r, q with
  | .error e, q => exact (cx_false q).elim
  | .ok (.ret u), ⟨v, H2, os, bare, un, ok2, rv, ev⟩ =>
    subst ev
    obtain rfl : u = Value.bool true := rv
    have old : ∀ b o, b ∉ cs.map (·.2) → s.heap.get? b = some o → s2.heap.get? b = some o := fun b o z e => by
      cases q2 : H b with
      | none => exact un.keep b o e q2 (fun z => (List.not_mem_nil z).elim) (by simp)
      | some u =>
        rw [hN b z] at q2
        obtain ⟨rfl, _, ob, xs, rfl⟩ := only b u q2
        obtain ⟨z1, _⟩ := hok b _ (sm _ _ q2)
        obtain ⟨z2, _⟩ := ok2 b _ (un.frzs b ob _ (sm _ _ q2))
        rw [e] at z1
        cases z1
        exact z2
    have new : ∀ p ∈ cs, ∃ more : Array Value, s2.heap.get? p.2 = some { cls := .none, data := .fields more } := fun p hp => by
      obtain ⟨more, z⟩ := un.tbls p.2 #[] (hT _ (List.mem_map.mpr ⟨p, hp, rfl⟩))
      exact ⟨_, ok2 p.2 _ z⟩
    refine ⟨rfl, ⟨fun b o e => ?_, fun b o e => ?_⟩, os, bare⟩
    · by_cases z : b ∈ cs.map (·.2)
      · obtain ⟨p, hp, rfl⟩ := List.mem_map.mp z
        obtain ⟨more, hm⟩ := new p hp
        rw [tT p hp] at e
        cases e
        exact .inr (.inl ⟨((tC p hp).tab (tT p hp)).isCodeTable, rfl, #[], more, rfl, by rw [Array.empty_append]; exact hm⟩)
      · exact .inl (old b o z e)
    · by_cases z : b ∈ cs.map (·.2)
      · obtain ⟨p, hp, rfl⟩ := List.mem_map.mp z
        exact ⟨_, (new p hp).choose_spec⟩
      · exact ⟨o, old b o z e⟩
end
theorem walk_ofL {l : PySem.W.OpenLaw} {k : Nat} {q : Program} {loose : List Str} {XP : (Str → Option Value) → Heap → Prop} {YP : World → Heap → Prop} {d : DefRec} {x : Str}
    (hn : l.most = some 63) (hdf : d.params.defaults = []) (hr : Room k callerA)
    (F : ∀ (w : World) (mg : Str → Option Value) (fa : Addr) (h : Heap), YP w h → h.Ns mainGlobals mg → mg d.name = some (.ref fa) →
      ∃ (K : PySem.W.Frag) (fd : FuncData) (cs : List (Addr × Addr)) (tabs : List (Addr × Str)), K.In h ∧ (∀ p ∈ cs, PySem.W.CodeHd h p.1 p.2) ∧ (∀ p ∈ cs, h.get? p.2 = some { cls := .none, data := .fields #[] }) ∧ (∀ p ∈ cs, K.lookup p.2 = none) ∧ (∀ t ∈ tabs, t.1 ∈ cs.map (·.2)) ∧
        (∀ (s : Shared) (u : Value), BindsTo s fd ⟨[u], []⟩ [(x, u)]) ∧ ∀ base : Heap, K.In base → base.Ns mainGlobals mg → (∀ p ∈ cs, TabB base mg p.1 p.2) → FnG l.prog w K mg base k fa fd [x] (spLaw K tabs)) :
    PySem.W.WalkO q loose XP YP l.row.toRowW d [] (fun f vs => PySem.call f vs) :=
  Att.attach_call hn hdf fun w s₀ s₁ mg mb fa o pm cd doc a vs ns G Y ho hd hcd hmg hobj hints hlen hg => by
    obtain ⟨K, fd, cs, tabs, KX, t1, t2, t3, t4, hb, hF⟩ := F w mg fa _ Y G.T.g hmg
    exact law_callL KX G.T.g G.T.b G.T.builtins G.T.nolimit hg hobj hints hlen hr t1 t2 t3 t4 G.T.bmain hF hb
/-! ### the facts of the makers -/
/-- the tables, by the makers' names -/
def tabsOf (cs : List (Addr × Addr)) (lm : List Str) : List (Addr × Str) := (cs.map (·.2)).zip (lm.map (· ++ ".<locals>.<lambda>"))
theorem tabsOf_in {cs : List (Addr × Addr)} {lm : List Str} : ∀ t ∈ tabsOf cs lm, t.1 ∈ cs.map (·.2) := fun t ht => (List.of_mem_zip (show (t.1, t.2) ∈ _ from ht)).1
theorem tabsOf_at {cs : List (Addr × Addr)} {lm : List Str} {i : Nat} {x : Str} {p : Addr × Addr} (h1 : lm[i]? = some x) (h2 : cs[i]? = some p) : (p.2, x ++ ".<locals>.<lambda>") ∈ tabsOf cs lm := by
  refine List.mem_of_getElem? (i := i) ?_
  unfold tabsOf
  rw [List.getElem?_zip_eq_some]
  exact ⟨by rw [List.getElem?_map, h2]; rfl, by rw [List.getElem?_map, h1]; rfl⟩
theorem tabsOf_one {cs : List (Addr × Addr)} {lm : List Str} {i : Nat} {x : Str} {p : Addr × Addr} (nd : (cs.map (·.2)).Nodup) (h1 : lm[i]? = some x) (h2 : cs[i]? = some p) : ∀ t ∈ tabsOf cs lm, t.1 = p.2 → t.2 = x ++ ".<locals>.<lambda>" := fun t ht e => by
  obtain ⟨j, hj⟩ := List.mem_iff_getElem?.mp ht
  unfold tabsOf at hj
  rw [List.getElem?_zip_eq_some] at hj
  obtain ⟨j1, j2⟩ := hj
  have i1 : (cs.map (·.2))[i]? = some p.2 := by rw [List.getElem?_map, h2]; rfl
  obtain ⟨li, gi⟩ := List.getElem?_eq_some_iff.mp i1
  obtain ⟨lj, gj⟩ := List.getElem?_eq_some_iff.mp j1
  have : i = j := (List.getElem_inj nd).mp (gi.trans (e.symm.trans gj.symm))
  subst this
  rw [List.getElem?_map, h1] at j2
  exact (Option.some.inj j2).symm
theorem codeOf_fun {K : PySem.W.Frag} {x qual : Str} {st : Stmt} {fd : FuncData} {c : Addr} (F : L2.Fun K x qual st (ga K x) fd) (h : codeOf K x = some c) : fd.code = .ref c := by
  obtain ⟨oc, od, kV, doc, pm, an, cdv, ct, osl, rfl, lk, hcd⟩ := F.ex
  unfold codeOf at h
  rw [lk] at h
  dsimp only at h
  split at h
  · cases h
    rfl
  · cases h
end Pev
/-! Pev: small things for lambdas. -/
namespace Pev
open PySem PySem.Spec PyProof.Rows L2 He
theorem LamsAt.all {h : Heap} {K : PySem.W.Frag} {lm : List Str} (x : LamsAt h K lm) : ∃ cs : List (Addr × Addr), (∀ p ∈ cs, PySem.W.CodeHd h p.1 p.2) ∧ (∀ p ∈ cs, h.get? p.2 = some { cls := .none, data := .fields #[] }) ∧ (∀ p ∈ cs, K.lookup p.2 = none) ∧ (cs.map (·.2)).Nodup ∧
    ∀ (i : Nat) (y : Str), lm[i]? = some y → ∃ p, cs[i]? = some p ∧ codeOf K y = some p.1 := by
  obtain ⟨cs, l1, l2, l3⟩ := x
  have one : ∀ p ∈ cs, ∃ y, LamAt h K y p.1 p.2 := fun p hp => by
    obtain ⟨i, hi⟩ := List.mem_iff_getElem?.mp hp
    obtain ⟨li, _⟩ := List.getElem?_eq_some_iff.mp hi
    exact ⟨lm[i]'(by omega), l2 i _ p (List.getElem?_eq_getElem _) hi⟩
  refine ⟨cs, fun p hp => let ⟨_, z⟩ := one p hp; z.hd, fun p hp => let ⟨_, z⟩ := one p hp; z.tab, fun p hp => let ⟨_, z⟩ := one p hp; z.out, l3, fun i y hy => ?_⟩
  obtain ⟨li, _⟩ := List.getElem?_eq_some_iff.mp hy
  have lc : i < cs.length := by omega
  exact ⟨cs[i], List.getElem?_eq_getElem lc, (l2 i y _ hy (List.getElem?_eq_getElem lc)).code⟩
theorem tabsOf_at2 {cs : List (Addr × Addr)} {lm : List Str} {i : Nat} {x q : Str} {p : Addr × Addr} (h1 : lm[i]? = some x) (h2 : cs[i]? = some p) (e : x ++ ".<locals>.<lambda>" = q) : (p.2, q) ∈ tabsOf cs lm := e ▸ tabsOf_at h1 h2
theorem tabsOf_one2 {cs : List (Addr × Addr)} {lm : List Str} {i : Nat} {x q : Str} {p : Addr × Addr} (nd : (cs.map (·.2)).Nodup) (h1 : lm[i]? = some x) (h2 : cs[i]? = some p) (e : x ++ ".<locals>.<lambda>" = q) : ∀ t ∈ tabsOf cs lm, t.1 = p.2 → t.2 = q := e ▸ tabsOf_one nd h1 h2
end Pev
/-! Pev: plain facts about sorting with keys. -/
namespace Pev
open PySem PySem.Spec PyProof.Rows L2
end Pev
/-! Pev: plain facts about a list of own lists. -/
namespace Pev
open PySem PySem.Spec PyProof.Rows L2
/-- numbers in a cell -/
def nr (v : List Nat) : List R := v.map fun m => R.dat (.int (m : Nat))
theorem ixR {S : Sto} {k : Nat} {rs : List R} {i : Nat} {r : R} (h : S[k]? = some (.lst rs)) (hr : rs[i]? = some r) : bIx (.obj k) (.dat (.int (i : Nat))) S = .ok r S := by
  unfold bIx
  dsimp only
  rw [show lv S (.obj k) = some rs by unfold lv; dsimp only; rw [h]]
  dsimp only
  rw [atI_of (by omega) (by have := (List.getElem?_eq_some_iff.mp hr).1; omega)]
  dsimp only
  have e : rs[((i : Nat) : Int).toNat]? = some r := by rw [Int.toNat_natCast]; exact hr
  rw [List.getElem?_eq_getElem (by have := (List.getElem?_eq_some_iff.mp e).1; exact this)] at e
  rw [Option.some.inj e]
theorem st_ne {X : Sto} {j k : Nat} {c d : Cell} (h : X[k]? = some c) (e : j ≠ k) : (X.set j d)[k]? = some c := by rw [List.getElem?_set_ne e]; exact h
/-- cell o is a list of the lists ks, which hold these rows -/
structure Mx (X : Sto) (o : Nat) (rows : List (List R)) (ks : List Nat) : Prop where
  kl : ks.length = rows.length
  out : X[o]? = some (.lst (ks.map R.obj))
  row : ∀ (h : Nat) (v : List R), rows[h]? = some v → ∃ k, ks[h]? = some k ∧ X[k]? = some (.lst v)
  ne : o ∉ ks
  nd : ks.Nodup
section
variable {X : Sto} {o : Nat} {rows : List (List R)} {ks : List Nat}
theorem Mx.at (h : Mx X o rows ks) {i : Nat} {v : List R} (hv : rows[i]? = some v) : ∃ k, ks[i]? = some k ∧ X[k]? = some (.lst v) ∧ bIx (.obj o) (.dat (.int (i : Nat))) X = .ok (.obj k) X := by
  obtain ⟨k, e1, e2⟩ := h.row i v hv
  exact ⟨k, e1, e2, ixR h.out (by rw [List.getElem?_map, e1]; rfl)⟩
theorem snap_nr {S : Sto} {n k : Nat} {v : List Nat} (h : S[k]? = some (.lst (nr v))) : snap S (n + 1) (.obj k) = some (.list (v.map fun m => .int (m : Nat))) := snap_obj (fun m : Nat => PyData.int (m : Nat)) v h
theorem Mx.snap {vs : List (List Nat)} {n : Nat} (h : Mx X o (vs.map nr) ks) : snap X (n + 2) (.obj o) = some (.list (vs.map fun v => .list (v.map fun m => .int (m : Nat)))) := by
  show (match X[o]? with
    | some (.lst rs) => (rs.mapM (Pev.snap X (n + 1))).map PyData.list
    | _ => none) = _
  rw [h.out]
  dsimp only
  have key : ∀ (ks : List Nat) (vs : List (List Nat)), ks.length = vs.length → (∀ (i : Nat) (v : List Nat), vs[i]? = some v → ∃ k, ks[i]? = some k ∧ X[k]? = some (.lst (nr v))) → (ks.map R.obj).mapM (Pev.snap X (n + 1)) = some (vs.map fun v => .list (v.map fun m => .int (m : Nat))) := by
    intro ks
    induction ks with
    | nil =>
      intro vs hl _
      cases vs with
      | nil => rfl
      | cons => cases hl
    | cons k ks ih =>
      intro vs hl hr
      cases vs with
      | nil => cases hl
      | cons v vs =>
        obtain ⟨k', e1, e2⟩ := hr 0 v rfl
        cases e1
        rw [List.map_cons, List.mapM_cons, snap_nr e2, ih vs (by simpa using hl) fun i u hu => by
          obtain ⟨k', e1, e2⟩ := hr (i + 1) u (by simpa using hu)
          exact ⟨k', by simpa using e1, e2⟩]
        rfl
  rw [key ks vs (by rw [h.kl, List.length_map]) fun i v hv => h.row i _ (by rw [List.getElem?_map, hv]; rfl)]
  rfl
end
-- the steps alone: what values do is told by the rules that are handed in
end Pev
/-! Pev: is, is not of bools. -/
namespace Pev
open PySem PySem.Spec PyProof.Rows L2
section
variable {T : Tb}
end
end Pev
/-! Pev: plain facts: lists of own lists are made and walked; cells grow. -/
namespace Pev
open PySem PySem.Spec PyProof.Rows L2
theorem same_objL (l : List Nat) : sameRs (l.map R.obj) (l.map R.obj) = true := by
  induction l with
  | nil => rfl
  | cons a l ih =>
    rw [List.map_cons]
    unfold sameRs
    rw [ih]
    simp [sameR]
section
variable {X : Sto} {o : Nat} {rows : List (List R)} {ks : List Nat}
theorem Mx.stands (h : Mx X o rows ks) : stands X [(o, ks.map R.obj)] = true := stands_one h.out (same_objL ks)
theorem Mx.it (h : Mx X o rows ks) : itOf (.obj o) X = .ok ⟨ks.map R.obj, [(o, ks.map R.obj)]⟩ X := by
  unfold itOf
  dsimp only
  rw [h.out]
/-- the lists are walked; each turn leaves the store -/
theorem Mx.lc (h : Mx X o rows ks) {g : GM} {elt : EM} {ρ : Rho} (f : List R → R) (hh : ∀ (i k : Nat) (v : List R), rows[i]? = some v → X[k]? = some (.lst v) → ∃ ρ1, g (.obj k) ρ = some ρ1 ∧ elt ρ1 X = .ok (f v) X) : lcLoop [(o, ks.map R.obj)] g tYes' elt ρ (ks.map R.obj) X = .ok (rows.map f) X := by
  have key := lc_pure (keep := [(o, ks.map R.obj)]) (g := g) (t := tYes') (elt := elt) (ρ := ρ) (S := X) (fun p : Nat × List R => R.obj p.1) (fun _ => true) (fun p => f p.2) h.stands (ks.zip rows) fun p hp => by
    obtain ⟨i, hi⟩ := List.mem_iff_getElem?.mp hp
    rw [List.getElem?_zip_eq_some] at hi
    obtain ⟨k, e1, e2⟩ := h.row i _ hi.2
    rw [hi.1] at e1
    cases e1
    obtain ⟨ρ1, q1, q2⟩ := hh i p.1 p.2 hi.2 e2
    exact ⟨ρ1, q1, rfl, fun _ => q2⟩
  rw [List.filter_eq_self.mpr fun _ _ => rfl] at key
  have e1 : (ks.zip rows).map (fun p => R.obj p.1) = ks.map R.obj := by
    rw [show (fun p : Nat × List R => R.obj p.1) = R.obj ∘ Prod.fst from rfl, ← List.map_map, List.map_fst_zip (by rw [h.kl]; exact Nat.le_refl _)]
  have e2 : (ks.zip rows).map (fun p => f p.2) = rows.map f := by
    rw [show (fun p : Nat × List R => f p.2) = f ∘ Prod.snd from rfl, ← List.map_map, List.map_snd_zip (by rw [h.kl]; exact Nat.le_refl _)]
  rw [e1, e2] at key
  exact key
theorem Mx.lt (h : Mx X o rows ks) {k : Nat} (hk : k ∈ ks) : k < X.length := by
  obtain ⟨i, hi⟩ := List.mem_iff_getElem?.mp hk
  have hl : i < rows.length := by rw [← h.kl]; exact (List.getElem?_eq_some_iff.mp hi).1
  obtain ⟨k', e1, e2⟩ := h.row i _ (List.getElem?_eq_getElem hl)
  rw [hi] at e1
  cases e1
  exact (List.getElem?_eq_some_iff.mp e2).1
/-- another cell is written -/
theorem Mx.other (h : Mx X o rows ks) {l : Nat} (c : Cell) (h1 : l ≠ o) (h2 : l ∉ ks) : Mx (X.set l c) o rows ks := ⟨h.kl, st_ne h.out h1, fun i v hv => by
  obtain ⟨k, e1, e2⟩ := h.row i v hv
  exact ⟨k, e1, st_ne e2 fun z => h2 (z ▸ List.mem_of_getElem? e1)⟩, h.ne, h.nd⟩
end
theorem lenO {S : Sto} {k : Nat} {rs : List R} (h : S[k]? = some (.lst rs)) (hl : rs.length ≤ 10000) : gLen [.obj k] S = .ok (.dat (.int (rs.length : Nat))) S := by
  have sz := sz_of hl
  simp only [Pev.fnB, Pev.OutS.toF, Pev.sCons, Pev.sSet, Pev.sRet, Pev.sRetN, Pev.sIf, Pev.sSkip, Pev.sExpr, Pev.sTgt, Pev.sFor, Pev.sRaise, Pev.sPut, Pev.putAt, Pev.sPar2, Pev.sPar3, Pev.sTry, Pev.hRun, Pev.OutS.fade, Pev.OutS.calm, Pev.Out.toS, Pev.Out.bind, Pev.noX, Pev.eVar, Pev.eC, Pev.eBin, Pev.eUn, Pev.eArgs, Pev.aCons, Pev.aNil, Pev.needN, Pev.eAnd, Pev.eOr, Pev.eNot, Pev.eIf, Pev.mAnd, Pev.mOr, Pev.mNot, Pev.mB, Pev.mT, Pev.eChain, Pev.truth, Pev.ans, Pev.ofT, Pev.ofB, Pev.bAdd, Pev.bSub, Pev.bMul, Pev.bDiv, Pev.bMod, Pev.bLt, Pev.bLe, Pev.bGt, Pev.bGe, Pev.bIsN, Pev.isNone?, Pev.uNeg, Pev.bIx, Pev.lv, Pev.lvt, Pev.gLen, Pev.gAbs, Pev.gInt, Pev.gBool, Pev.gList, Pev.gTuple, Pev.gTup, Pev.gLst, Pev.newL, Pev.newT, Pev.datAll, Pev.R.d?, Pev.uIs, Pev.tyOf, Pev.eLc, Pev.iOf, Pev.itOf, Pev.iArgs, Pev.gRange1, Pev.gRange2, Pev.gN, Pev.gTp, Pev.gsCons, Pev.gsNil, Pev.tv, Pev.eBMl, Pev.gAppend, Pev.gPop, Pev.gExtend, Pev.cellOf, Pev.eFld, Pev.tYes', Pev.wipeR, Pev.permL, List.map_cons, List.map_nil, List.length_cons, List.length_nil, List.cons_append, List.nil_append, List.append_nil, List.replicate, List.getElem?_cons_zero, List.getElem?_cons_succ, List.getElem?_nil, List.set_cons_zero, List.set_cons_succ, List.set_nil, List.filterMap_cons, List.filterMap_nil, Option.map_some, Option.map_none, Option.bind_some, Option.bind_none, if_true, if_false, Bool.not_true, Bool.not_false, Nat.reduceSub, Nat.reduceAdd, Nat.reduceEqDiff, Nat.reduceLeDiff, reduceIte, ite_true, ite_false, Bool.true_eq_false, Bool.false_eq_true, ↓reduceIte, Nat.zero_add, Nat.add_zero, Nat.sub_zero, Pev.outD_dat, Pev.snap_dat, Pev.outX, List.any_cons, List.any_nil, List.all_cons, List.all_nil, id_eq, Bool.or_false, Bool.or_true, Bool.true_or, Bool.false_or, Bool.and_true, Bool.true_and, Bool.and_false, Bool.false_and, Bool.and_self, Bool.or_self, Int.cast_ofNat_Int, decide_true, decide_false, Pev.isa_self, Pev.isa_bi, Pev.isa_tl, Pev.isa_lt, Pev.isa_ti, Pev.isa_li, Pev.isa_it, Pev.gAll, Pev.gAny, Pev.gSum, Pev.bls?, Pev.ints?, Pev.eq_ints, Pev.datAll_map, Pev.map_dat, Pev.app_map, Pev.datAll_f, Pev.ints_f, Pev.bls_f, Pev.at0, Pev.at1, Pev.at2, Pev.atLast, Pev.two_small, Pev.three_small, Pev.one_small, Pev.nil_small, Pev.oPart, Pev.toI, Pev.eSl, Pev.gSl, Pev.uRev, List.isEmpty_cons, List.isEmpty_nil, h, sz]
/-- a cell's list grows -/
theorem appO {S : Sto} {k : Nat} {rs : List R} {mo me : EM} {ρ : Rho} {y : R} (ho : mo ρ S = .ok (.obj k) S) (hk : S[k]? = some (.lst rs)) (hy : me ρ S = .ok y S) (hl : rs.length < 10000) : sExpr (eBMl gAppend mo (aCons me aNil)) ρ S = .nx ρ (S.set k (.lst (rs ++ [y]))) := by
  have sz := sz_lt (show rs.length ≤ 10000 by omega)
  have l0 : lv S (.obj k) = some rs := by
    unfold lv
    dsimp only
    rw [hk]
  show ((eBMl gAppend mo (aCons me aNil)) ρ S).toS ρ _ = _
  unfold eBMl
  rw [ho]
  show ((match lv S (.obj k) with
    | some _ => ((aCons me aNil) ρ S).bind fun xs S2 => gAppend (.obj k) xs S2
    | none => .stuck) : Out R).toS ρ _ = _
  rw [l0]
  have a1 : (aCons me aNil) ρ S = .ok [y] S := by
    unfold aCons
    rw [hy]
    rfl
  dsimp only
  rw [a1]
  show (gAppend (.obj k) [y] S).toS ρ _ = _
  unfold gAppend cellOf
  dsimp only
  rw [hk]
  dsimp only
  rw [if_pos (of_eq_true sz)]
  rfl
end Pev
/-! Pev: pop at a place; comprehensions that change the store, turn by turn. -/
namespace Pev
open PySem PySem.Spec PyProof.Rows L2
def gPopI (x : R) (xs : List R) (S : Sto) : Out R := match cellOf S x, xs with
  | some (k, rs), [.dat (.int i)] => if -(2 ^ 63) ≤ i ∧ i < 2 ^ 63 then (match seqIndex? i rs.length with
    | some j => (match rs[j]? with
      | some y => .ok y (S.set k (.lst (rs.eraseIdx j)))
      | none => .stuck)
    | none => .stuck) else .stuck
  | _, _ => .stuck
theorem snd_popI {T : Tb} : SndM T rPopAt gPopI := by
  intro β W σ α S H x xs v vs Q Rr hx hxs h
  unfold gPopI at h
  split at h
  · rename_i k rs i e
    split at h
    · rename_i hi
      split at h
      · rename_i j hj
        split at h
        · rename_i y hy
          obtain ⟨q, a, us, rfl, e1, e2, e3⟩ := cellOf_ok Rr hx e
          obtain ⟨w, rfl, hw⟩ := vrs1 hxs
          cases vr_int hw
          obtain ⟨z, z1, z2⟩ := e3.get hy
          obtain ⟨R4, x4⟩ := Rr.write q e1 (e3.eraseIdx j)
          exact ⟨a, us, i, j, z, rfl, rfl, e2, hi.1, hi.2, by rw [← e3.length]; exact hj, z1, h α _ z x4 R4 (z2.ext x4)⟩
        · exact h.elim
      · exact h.elim
    · exact h.elim
  · exact h.elim
theorem seqIx {n j : Nat} (h : j < n) : seqIndex? (j : Int) n = some j := by
  unfold seqIndex?
  have h0 : ¬ ((j : Int) < 0) := by omega
  simp only [h0, if_false]
  simp [h]
/-- an item is popped from a cell's list -/
theorem popI_ok {S : Sto} {k j : Nat} {rs : List R} {y : R} (hk : S[k]? = some (.lst rs)) (hy : rs[j]? = some y) (hl : rs.length ≤ 10000) : gPopI (.obj k) [.dat (.int (j : Nat))] S = .ok y (S.set k (.lst (rs.eraseIdx j))) := by
  have hj := (List.getElem?_eq_some_iff.mp hy).1
  unfold gPopI cellOf
  dsimp only
  rw [hk]
  dsimp only
  rw [if_pos ⟨by omega, by omega⟩, seqIx hj]
  dsimp only
  rw [hy]
end Pev
/-! Pev: max, min of a list or a tuple of data. -/
namespace Pev
open PySem PySem.Spec PyProof.Rows L2
/-- the place of the best -/
def bestMax (ds : List PyData) : Nat := argBest (fun i j => PySem.W.dataLt (ds.getD j .none) (ds.getD i .none)) (ds.length - 1)
theorem argBest_le (bt : Nat → Nat → Bool) : ∀ n, argBest bt n ≤ n
  | 0 => Nat.le_refl _
  | n + 1 => by
    have := argBest_le bt n
    unfold argBest
    split <;> omega
theorem depAll_le {k : Nat} : ∀ {ds : List PyData}, (∀ d ∈ ds, d.depth ≤ k) → PyData.depthAll ds ≤ k
  | [], _ => Nat.zero_le _
  | d :: ds, h => by
    show max d.depth (PyData.depthAll ds) ≤ k
    exact Nat.max_le.mpr ⟨h d List.mem_cons_self, depAll_le fun e he => h e (List.mem_cons_of_mem _ he)⟩
theorem sortOk_ne {ds : List PyData} (h : sortOk ds = true) : ∀ d ∈ ds, d ≠ .none := fun d hd e => by
  subst e
  unfold sortOk at h
  rw [Bool.and_eq_true, Bool.and_eq_true, Bool.or_eq_true] at h
  rcases h.1.2 with q | q
  · have := List.all_eq_true.mp q _ hd
    cases this
  · have := List.all_eq_true.mp q _ hd
    cases this
theorem reads_all {X : Cx} {pins : List (Addr × Obj)} {σ : L2.St} {H : Hp} {s : Shared} (I : Inv X pins σ H s) : ∀ {xs : List V} {ds : List PyData} {us : List Value}, DpAll X.K H xs ds → Vals xs us → ∃ as, ReadsAll s.heap us ds as
  | _, _, _, .nil, .nil => ⟨[], .nil⟩
  | _, _, _, .cons h t, .cons r rs => by
    obtain ⟨as, e1⟩ := Dp.reads I _ _ _ h r
    obtain ⟨bs, e2⟩ := reads_all I t rs
    exact ⟨as ++ bs, .cons e1 e2⟩
def rBest (K : PySem.W.Frag) (f : List PyData → Nat) : List V → Hp → VK → Prop := fun vs H Q => ∃ (a : Addr) (xs : List V) (ds : List PyData) (v : V), vs = [V.ref a] ∧ (SqL K H a xs ∨ SqT K H a xs) ∧ DpAll K H xs ds ∧ sortOk ds = true ∧ 0 < ds.length ∧ xs[f ds]? = some v ∧ Q v H
section
variable {X : Cx}
theorem cr_bestMax (hc : X.calm = true) (hu : X.A.units + 65 < cLine) : CallR X (.builtin "max") (rBest X.K bestMax) := by
  intro pins s σ H vs us Q I r h
  obtain ⟨a, xs, ds, v, rfl, hs, hd, ok, hn, hv, q⟩ := h
  have al : PySem.W.AlikeAll ds := ⟨fun x hx y hy => sortOk_al ok x hx y hy, sortOk_ne ok⟩
  have dp := depAll_le (sortOk_dep ok)
  have hh : X.A.in1.handled = none := I.ok.hd hc
  have fin : ∀ {its : List Value} (rv : Vals xs its) (u : Value) (s₂ s' : Shared) (o : Obj), s₂ = { s with heap := s.heap.push o } → its.toArray[bestMax ds]? = some u → Moved [s.heap.objs.size] (fun a b => b = a) s₂ s' → EP X pins σ Q u s' := by
    intro its rv u s₂ s' o e hP m
    obtain ⟨h', tk, rfl, hk⟩ := PySem.W.moved_old e rfl m
    obtain ⟨w, hw, rw'⟩ := rv.get hv
    rw [List.getElem?_toArray, hw] at hP
    cases hP
    exact ⟨v, H, I.kept hk, rw', q⟩
  rw [Vals.ref1 r]
  rcases hs with hs | hs
  · obtain ⟨its, rv, hl, _⟩ := I.list hs
    obtain ⟨as, hr⟩ := reads_all I hd rv
    have hsz : its.toArray.size = ds.length := by rw [List.size_toArray, ← rv.length, dp_len hd]
    refine call_max_walkH (PySem.W.iter_listW (A := X.A.in1) hh hl.isList fun s₂ e W st hfp hw hk => ⟨_, _, _, _, _, _, _, s.heap, _, rfl, W, st, hfp, by rw [hsz]; exact hn, hw, hk, PySem.W.cmpIn_gt (A := X.A.in1) hr al (by show X.A.units + 1 + _ < _; omega), fun u s' hP m => ?_⟩)
    rw [hsz] at hP
    exact fin rv u s₂ s' _ e hP m
  · obtain ⟨its, rv, hl, _⟩ := I.tuple hs
    obtain ⟨as, hr⟩ := reads_all I hd rv
    have hsz : its.toArray.size = ds.length := by rw [List.size_toArray, ← rv.length, dp_len hd]
    refine call_max_walkH (PySem.W.iter_tupleW (A := X.A.in1) hh hl fun s₂ e W st hfp hw hk => ⟨_, _, _, _, _, _, _, s.heap, _, rfl, W, st, hfp, by rw [hsz]; exact hn, hw, hk, PySem.W.cmpIn_gt (A := X.A.in1) hr al (by show X.A.units + 1 + _ < _; omega), fun u s' hP m => ?_⟩)
    rw [hsz] at hP
    exact fin rv u s₂ s' _ e hP m
end
/-- max(xs), min(xs) -/
def gBest (f : List PyData → Nat) (xs : List R) (S : Sto) : Out R := match xs with
  | [x] => (match tv x with
    | some ds => if sortOk ds && decide (0 < ds.length) then (match ds[f ds]? with
      | some d => .ok (.dat d) S
      | none => .stuck) else .stuck
    | none => (match lv S x with
      | some rs => (match rs.mapM (snap S 4) with
        | some ds => if sortOk ds && decide (0 < ds.length) then (match rs[f ds]? with
          | some r => .ok r S
          | none => .stuck) else .stuck
        | none => .stuck)
      | none => .stuck))
  | _ => .stuck
theorem snaps_dp {T : Tb} {β : List Addr} {α : List (Option Addr)} {H : Hp} {S : Sto} (Rr : Rl T β α S H) : ∀ {rs : List R} {vs : List V} {ds : List PyData}, Vrs T β α H rs vs → rs.mapM (snap S 4) = some ds → DpAll T.K H vs ds
  | [], _, _, .nil, e => by
    rw [List.mapM_nil] at e
    cases e
    exact .nil
  | r :: rs, _, ds, .cons h t, e => by
    rw [List.mapM_cons] at e
    cases q : snap S 4 r with
    | none => rw [q] at e; cases e
    | some d =>
      rw [q] at e
      cases q2 : rs.mapM (snap S 4) with
      | none => rw [q2] at e; cases e
      | some es =>
        rw [q2] at e
        cases e
        exact .cons (snap_dp Rr h q) (snaps_dp Rr t q2)
theorem snd_best {T : Tb} (f : List PyData → Nat) : SndA T (rBest T.K f) (gBest f) := by
  intro β W σ α S H xs vs Q Rr hx h
  unfold gBest at h
  split at h
  · rename_i x
    obtain ⟨w, rfl, hw⟩ := vrs1 hx
    split at h
    · rename_i ds et
      split at h
      · rename_i hc
        rw [Bool.and_eq_true, decide_eq_true_eq] at hc
        split at h
        · rename_i d hd
          unfold tv at et
          split at et
          · cases et
            cases hw with
            | @tup c us _ z1 z2 =>
              obtain ⟨u, hu, qu⟩ := z2.get hd
              exact ⟨c, us, ds, u, rfl, .inr (sqT_same hid_le z1), DqAll.dp (DqAll.same hid_le z2), hc.1, hc.2, hu, old_ok Rr h qu⟩
          · cases et
        · exact h.elim
      · exact h.elim
    · split at h
      · rename_i rs el
        obtain ⟨a, us, rfl, h1, h2⟩ := lv_ok Rr hw el
        split at h
        · rename_i ds em
          split at h
          · rename_i hc
            rw [Bool.and_eq_true, decide_eq_true_eq] at hc
            split at h
            · rename_i r hr
              obtain ⟨u, hu, qu⟩ := h2.get hr
              exact ⟨a, us, ds, u, rfl, .inl h1, snaps_dp Rr h2 em, hc.1, hc.2, hu, old_ok Rr h qu⟩
            · exact h.elim
          · exact h.elim
        · exact h.elim
      · exact h.elim
  · exact h.elim
end Pev
/-! Pev: zip of lists and tuples in any mix; the target may be one name, so that the pair stays. -/
namespace Pev
open PySem PySem.Spec PyProof.Rows L2 RZ
/-- a list or (t) a tuple; what walks it -/
def ItX (t : Bool) (h : Heap) (j l : Addr) (i : Nat) : Prop := match t with
  | true => h.IsTupleIter j l i
  | false => h.IsListIter j l i
def SqX (t : Bool) (h : Heap) (l : Addr) (xs : Array Value) : Prop := match t with
  | true => h.IsTuple l xs
  | false => h.IsList l xs
theorem ItX.extBut {t : Bool} {h h' : Heap} {a b l : Addr} {i : Nat} (x : ItX t h a l i) (hs : Heap.ExtBut b h h') (hab : a ≠ b) : ItX t h' a l i := match t, x with
  | true, x => Heap.IsTupleIter.extBut x hs hab
  | false, x => Heap.IsListIter.extBut x hs hab
theorem ItX.at {t : Bool} {h h' : Heap} {a l : Addr} {i : Nat} (x : ItX t h a l i) (e : ∀ o, h.get? a = some o → h'.get? a = some o) : ItX t h' a l i := match t, x with
  | true, x => Heap.IsTupleIter.at x e
  | false, x => Heap.IsListIter.at x e
theorem SqX.extBut {t : Bool} {h h' : Heap} {a b : Addr} {xs : Array Value} (x : SqX t h a xs) (hs : Heap.ExtBut b h h') (hab : a ≠ b) : SqX t h' a xs := match t, x with
  | true, x => Heap.IsTuple.extBut x hs hab
  | false, x => Heap.IsList.extBut x hs hab
theorem ItX.obj {t : Bool} {h : Heap} {a l : Addr} {i : Nat} (x : ItX t h a l i) : ∃ o, h.get? a = some o ∧ ∀ v, o.data ≠ .cell v := match t, x with
  | true, ⟨o, e, _, d⟩ => ⟨o, e, fun v q => by rw [d] at q; cases q⟩
  | false, ⟨o, e, _, d⟩ => ⟨o, e, fun v q => by rw [d] at q; cases q⟩
section
variable {prog : Program} {w : World} {A : Around} {E : Value → Shared → Prop} {s : Shared}
end
/-- a zip; f0: what it gave out and has not got back -/
abbrev ZipS (h : Heap) (zz tI tO : Addr) (f0 : Value) (f : Bool) : Prop :=
  h.get? zz = some { cls := .type "zip", dict := none, data := .fields #[f0, .bool f, .bool false, .ref tI, .ref tO], slots := #[] }
/-- what it may be between two turns -/
def ZipA (h : Heap) (zz tI tO : Addr) : Prop := ∃ f0 f, ZipS h zz tI tO f0 f ∧ (f0 = .none ∨ ∃ g : Addr, f0 = rawInt g)
section
variable {prog : Program} {w : World} {A : Around} {E : Value → Shared → Prop} {s : Shared}
variable {zz tI tO j1 j2 l1 l2 : Addr} {k1 k2 : Nat} {t u : Bool} {xs ys : Array Value} {x y a b : Value}
end
end Pev
/-! Pev: zip of two, lists or tuples, walked. -/
namespace Pev
open PySem PySem.Spec PyProof.Rows L2 RZ
section
variable {prog : Program} {w : World} {A : Around} {E : Value → Shared → Prop} {s : Shared} {zz tI tO j1 j2 l1 l2 : Addr} {k1 k2 : Nat} {t u : Bool} {xs ys : Array Value} {x y a b : Value}
end
theorem ZipA.keep {h h' : Heap} {zz tI tO : Addr} (hz : ZipA h zz tI tO) (k : ∀ o, h.get? zz = some o → h'.get? zz = some o) : ZipA h' zz tI tO := by
  obtain ⟨f0, f, z, q⟩ := hz
  exact ⟨f0, f, k _ z, q⟩
/-- a sequence of values, as it is told -/
def SqV (t : Bool) (K : PySem.W.Frag) (H : Hp) (a : Addr) (xs : List V) : Prop := match t with
  | true => SqT K H a xs
  | false => SqL K H a xs
theorem SqV.get {X : Cx} {pins : List (Addr × Obj)} {σ : L2.St} {H : Hp} {s : Shared} {t : Bool} {a : Addr} {xs : List V} (I : Inv X pins σ H s) (h : SqV t X.K H a xs) : ∃ its : List Value, Vals xs its ∧ SqX t s.heap a its.toArray ∧ a < s.heap.objs.size := match t, h with
  | true, h => by
    obtain ⟨its, r, p, _⟩ := I.tuple h
    obtain ⟨o, e, _⟩ := id p
    exact ⟨its, r, p, Heap.lt_size e⟩
  | false, h => by
    obtain ⟨its, r, p, _⟩ := I.list h
    exact ⟨its, r, p.isList, p.lt⟩
theorem SqV.inj {X : Cx} {pins : List (Addr × Obj)} {σ : L2.St} {H : Hp} {s : Shared} {t : Bool} {a : Addr} {xs ys : List V} (I : Inv X pins σ H s) (h : SqV t X.K H a xs) (h' : SqV t X.K H a ys) : xs = ys := match t, h, h' with
  | true, h, h' => I.tuple_inj h h'
  | false, h, h' => I.list_inj h h'
/-- what a zip between two turns is -/
structure ZipT (h : Heap) (t u : Bool) (zz tI tO j1 j2 a b : Addr) (i : Nat) : Prop where
  z : ZipA h zz tI tO
  pI : IsPair h tI (.ref j1) (.ref j2)
  pO : ∃ x y, IsPair h tO x y
  i1 : ItX t h j1 a i
  i2 : ItX u h j2 b i
theorem ZipT.obj {h : Heap} {t1 t2 : Bool} {zz tI tO j1 j2 a b : Addr} {i : Nat} (t : ZipT h t1 t2 zz tI tO j1 j2 a b i) : ∀ c ∈ [zz, tI, tO, j1, j2], ∃ o, h.get? c = some o ∧ ∀ v, o.data ≠ .cell v := by
  intro c hc
  obtain ⟨f0, f, z, _⟩ := t.z
  obtain ⟨x, y, po⟩ := t.pO
  have hc : c = zz ∨ c = tI ∨ c = tO ∨ c = j1 ∨ c = j2 := by simpa using hc
  rcases hc with q | q | q | q | q
  · rw [q]; exact ⟨_, z, fun v q => nomatch q⟩
  · rw [q]; exact ⟨_, t.pI, fun v q => nomatch q⟩
  · rw [q]; exact ⟨_, po, fun v q => nomatch q⟩
  · rw [q]; exact t.i1.obj
  · rw [q]; exact t.i2.obj
theorem ZipT.keep {h h' : Heap} {t1 t2 : Bool} {zz tI tO j1 j2 a b : Addr} {i : Nat} (t : ZipT h t1 t2 zz tI tO j1 j2 a b i) (k : ∀ c ∈ [zz, tI, tO, j1, j2], ∀ o, h.get? c = some o → h'.get? c = some o) : ZipT h' t1 t2 zz tI tO j1 j2 a b i :=
  ⟨t.z.keep (k zz (by simp)), k tI (by simp) _ t.pI, let ⟨x, y, p⟩ := t.pO; ⟨x, y, k tO (by simp) _ p⟩, t.i1.at fun o q => k j1 (by simp) o q, t.i2.at fun o q => k j2 (by simp) o q⟩
/-! ### a zip is made -/
end Pev
/-! Pev: zip of two, lists or tuples, any target: what is walked. -/
namespace Pev
open PySem PySem.Spec PyProof.Rows L2
section
variable {K : Tb} {β : List Addr} {α : List (Option Addr)} {H : Hp} {S : Sto}
end
end Pev
/-! Pev: sorted(t, key=f) of a tuple. -/
namespace Pev
open PySem PySem.Spec PyProof.Rows L2
open LamX (CodeO TabB)
section
variable {prog : Program} {w : World} {A : Around} {E : Value → Shared → Prop} {s : Shared}
theorem collect_tup {l : Addr} {vs : List Value} {Q : List Value → Shared → Prop} (tl : s.heap.IsTuple l vs.toArray) (h : Q vs { s with heap := (s.heap.push (seqObj "list" #[] 0)).update s.heap.objs.size (Obj.mapSeq (· ++ vs.toArray)) }) (hsz : vs.length ≤ sizeLine) :
    wpAny (model prog w) A (collect (.ref l)) Q E s := by
  obtain ⟨o, qo, qc, n, qd⟩ := id tl
  unfold collect
  refine wpAny_bind (wpAny_runValue (codeAny_builtin entry_proto_collect' ?_))
  show wpAny _ _ (do again (.builtin "list.__iadd__" ⟨[← newList [], .ref l], []⟩)) _ _ s
  refine wpAny_bind (wpAny_newList (wpAny_pure ⟨Code.quiet_builtin _ (by decide +kernel), codeAny_builtin entry_list_iadd' ?_⟩))
  show wpAny _ _ (Builtin.List.listExtendWith (.ref s.heap.objs.size) (.ref l) (.ref s.heap.objs.size)) _ _ { s with heap := s.heap.push (seqObj "list" #[] 0) }
  unfold Builtin.List.listExtendWith
  have qo' : (s.heap.push (seqObj "list" #[] 0)).get? l = some o := Heap.get?_push_of_some _ qo
  refine wpAny_bind (wpAny_typeOf (T := "tuple") ⟨o, qo', qc⟩ ?_)
  have e2 : (Value.type "tuple" == Value.type "tuple") = true := by rfl
  rw [if_pos (by rw [e2]; simp)]
  refine wpAny_bind (listItems_at qo' qd ?_)
  refine wpAny_bind (listItems_at (n := 0) (xs := #[]) (Heap.get?_push_size _ rfl) rfl ?_)
  rw [if_neg (by simp)]
  refine wpAny_bind (listUpdate_at (n := 0) (xs := #[]) (Heap.get?_push_size _ rfl) rfl ?_ (Nat.zero_le _) (by show (#[] ++ vs.toArray).size ≤ sizeLine + 1; simp only [List.size_toArray, Array.size_append, List.length_nil]; omega))
  refine wpAny_pure ?_
  show wpAny (model prog w) A (do
      let o ← load s.heap.objs.size
      match o.data with
      | .seq xs _ => pure xs.toList
      | _ => unsupported "internal:collect") Q E { s with heap := (s.heap.push (seqObj "list" #[] 0)).update s.heap.objs.size (Obj.mapSeq (· ++ vs.toArray)) }
  refine wpAny_bind (wpAny_load (get?_update_seq (Heap.get?_push_size _ rfl) _) ?_)
  have e3 : ((#[] : Array Value) ++ vs.toArray).toList = vs := by simp
  show wpAny _ _ (pure ((#[] : Array Value) ++ vs.toArray).toList) Q E _
  rw [e3]
  exact wpAny_pure h
theorem sorted_tup {l : Addr} {vs : List Value} {kw : List (Str × Value)} {Q : Value → Shared → Prop} (tl : s.heap.IsTuple l vs.toArray) (hL : vs.length ≤ sizeLine) (ha1 : argsOk "sorted" ⟨[.ref l], kw⟩) (ha2 : ∀ x, argsOk "list.sort" ⟨[.ref x], kw⟩)
    (body : ∀ E' : Value → Shared → Prop, wpAny (model prog w) A.in1.in1 (Builtin.«list.sort» ⟨[.ref (s.heap.objs.size + 1)], kw⟩) (fun f s' => f = .done (.ret .none) ∧ Q (.ref (s.heap.objs.size + 1)) s') E' { s with heap := PySem.W.copyHeap s.heap vs }) :
    wpAny (model prog w) A (call (.builtin "sorted") [.ref l] kw) Q E s := by
  refine call_function_entry_kw kind_sorted plain_sorted entry_sorted ha1 ?_
  unfold Builtin.«sorted»
  refine wpAny_bind (m := checkCount "sorted" 1 1 _) (wpAny_pure ?_)
  refine wpAny_bind (collect_tup tl ?_ hL)
  refine wpAny_bind (wpAny_newList ?_ hL)
  have e1 : ((s.heap.push (seqObj "list" #[] 0)).update s.heap.objs.size (Obj.mapSeq (· ++ vs.toArray))).objs.size = s.heap.objs.size + 1 := by rw [Heap.size_update, size_push']
  show wpAny _ _ _ _ _ { s with heap := PySem.W.copyHeap s.heap vs }
  rw [e1]
  refine wpAny_bind (wpAny_holding (wpAny_call_entry_kw slot_list_sort ⟨_, PySem.W.copyHeap_at s.heap vs, rfl⟩ entry_list_sort ?body (ha2 _)))
  case body =>
    show wpAny (model prog w) A.in1.in1 (Builtin.«list.sort» ⟨[.ref (s.heap.objs.size + 1)], kw⟩) _ _ _
    refine wpAny_mono (body _) (fun f s' hf => ?_) fun _ _ e => e
    obtain ⟨rfl, q⟩ := hf
    exact ⟨_, rfl, wpAny_pure ⟨_, rfl, q⟩⟩
end
section
variable {X : Cx} {pins : List (Addr × Obj)} {σ : L2.St} {H : Hp} {s : Shared}
end
section
variable {X : Cx} {T : Tb} {pins : List (Addr × Obj)} {σ : L2.St} {β : List Addr}
end
end Pev
/-! Pev: enumerate over a zip of two, lists or tuples. -/
namespace Pev
open PySem PySem.Spec PyProof.Rows L2 RZ
section
variable {prog : Program} {w : World} {A : Around} {E : Value → Shared → Prop} {s : Shared}
variable {zz tI tO j1 j2 l1 l2 : Addr} {k1 k2 : Nat} {t u : Bool} {xs ys : Array Value} {x y a b : Value}
end
end Pev
/-! Pev: enumerate over a zip of two, lists or tuples: how it begins, what is walked. -/
namespace PySem
open Sem (wp)
end PySem
namespace Pev
open PySem PySem.Spec PyProof.Rows L2 RZ
section
variable {K : Tb} {β : List Addr} {α : List (Option Addr)} {H : Hp} {S : Sto}
end
end Pev
namespace Pev
open PySem PySem.Spec PyProof.Rows L2 RZ
section
variable {K : Tb} {β : List Addr} {α : List (Option Addr)} {H : Hp} {S : Sto}
end
end Pev
/-! Pev: the items of a list of data to several names. -/
namespace Pev
open PySem PySem.Spec PyProof.Rows L2
section
variable {X : Cx} {T : Tb} {vs : List Nat} {pos : Pos} {es : List Expr} {gs : GsM}
end
end Pev
/-! Pev: a tuple no times. -/
namespace Pev
open PySem PySem.Spec PyProof.Rows L2
end Pev
/-! Pev: lambdas without parameters: made, in a tuple with what is due, unpacked. -/
namespace Pev
open PySem PySem.Spec PyProof.Rows L2
open LamX (CodeO TabS Tabs ExtN TabB inv_table codeO_ne among_app lamEnv LamS)
/-- X's lambda -/
abbrev lamI (X : Cx) (params : Arguments) (body : Expr) (scope : Scope) : LamI := ⟨X.env.qual ++ "<lambda>", params, body, scope, cloFrom X.env.cells scope.names []⟩
theorem lamOb_nt {a : Addr} {L : LamI} {pm : Value} {c' : Addr} {ctv : Value} : NT (LamOb a L pm c' ctv) := by unfold LamOb; trivial
theorem codeO_nt {c : Addr} {q : Str} : NT (CodeO c q) := by unfold CodeO; trivial
section
variable {X : Cx} {pins : List (Addr × Obj)} {σ : L2.St} {H : Hp} {s : Shared}
theorem lam_newO {T : List (Addr × Str)} {c P : Addr} {params : Arguments} {body : Expr} {scope : Scope} {pos : Pos} {E : Value → Shared → Prop} {Q : Value → Shared → Prop} (I : Inv X pins σ H s) (B : TabB X.base X.mg c P) (hc : X.env.code = .ref c)
    (hm : (P, X.env.qual ++ "<lambda>") ∈ T) (one : ∀ t ∈ T, t.1 = P → t.2 = X.env.qual ++ "<lambda>") (hT : Tabs T H) (nd : defaultsOf params X.env = ([], [])) (fr : ∀ y ∈ scope.names, y.2 = .free → ∃ c, X.env.cells.lookup y.1 = some c)
    (h : ∀ (f c' : Addr) (pm ctv : Value) (H1 : Hp) (s1 : Shared), Inv X pins σ H1 s1 → SmN H H1 → Tabs T H1 → H f = none → (H c' = none ∨ H c' = some (CodeO c' (X.env.qual ++ "<lambda>"))) → H1 f = some (LamOb f (lamI X params body scope) pm c' ctv) → H1 c' = some (CodeO c' (X.env.qual ++ "<lambda>")) → Q (.ref f) s1) :
    wpAny (model X.prog X.w) X.A (eval (.Lambda params body scope pos) X.env) Q E s := by
  obtain ⟨ps, tP, t3, tc⟩ := hT _ hm
  have oP : s.heap.get? P = some { cls := .none, data := .fields ps } := I.hok P _ tP
  have bP : s.heap.BuiltinsAt X.mg P := B.bm.keeps I.bk
  have gl := I.mod.glob.keeps I.bk
  have cl := closure_ok (scope := scope) (env := X.env) fr
  refine PySem.W.kla_eval nd ?_
  cases q : codeAmong pos ps.toList with
  | some cv =>
    obtain ⟨c', rfl, hco⟩ := tc pos cv q
    refine PySem.W.kla_makeFunctionHit cl I.ok.glob gl hc (B.code.keeps I.bk) oP t3 q bP fun ctv h1 tk k1 z1 => ?_
    have nf : H h1.objs.size = none := I.hok.fresh z1
    refine h h1.objs.size c' ((X.mg "__name__").getD .none) ctv _ _ (I.laid (t' := tk) (a := h1.objs.size) (o := LamOb h1.objs.size (lamI X params body scope) ((X.mg "__name__").getD .none) c' ctv) (fun b o e => Heap.get?_push_of_some _ (k1 b o e)) z1 ?_) ⟨fun b o _ e => by rw [upd_ne (ne_of_none e nf)]; exact e, fun b e => by
      by_cases z : b = h1.objs.size
      · rw [z, upd_same]; simp
      · rw [upd_ne z]; exact e⟩ (hT.ext (same_new nf)) nf (.inr hco) upd_same (by rw [upd_ne (ne_of_none hco nf)]; exact hco)
    exact ⟨Heap.get?_push_size _ rfl, ⟨_, Heap.get?_push_size _ rfl⟩, fun h1 h2 e st => st _ e⟩
  | none =>
    refine PySem.W.kla_makeFunction cl I.ok.glob gl hc (B.code.keeps I.bk) oP t3 q B.gP bP fun c' ctv h1 tk k1 g1 g2 g3 g4 => ?_
    obtain ⟨c2, oc, vs, t, e0, eo, ed, ev⟩ := g3
    cases e0
    have nc : H c' = none := I.hok.fresh g1
    have z1 : s.heap.objs.size ≤ h1.objs.size := Nat.le_trans g1 (Nat.le_of_lt g2)
    have pc : P ≠ c' := ne_of_none tP nc
    have I1 := inv_table (t' := tk) (more := #[rawInt pos.line, rawInt pos.col, .ref c']) (h' := h1) I tP (fun b o hb e => k1 b o hb e) g4 g1 ⟨oc, vs, t, eo, ed, ev⟩
    generalize hH : upd (upd H P (.tbl (ps ++ #[rawInt pos.line, rawInt pos.col, .ref c']))) c' (CodeO c' (X.env.qual ++ "<lambda>")) = H1 at I1
    have atC : H1 c' = some (CodeO c' (X.env.qual ++ "<lambda>")) := by rw [← hH, upd_same]
    have atP : H1 P = some (.tbl (ps ++ #[rawInt pos.line, rawInt pos.col, .ref c'])) := by rw [← hH, upd_ne pc, upd_same]
    have els : ∀ b, b ≠ P → b ≠ c' → H1 b = H b := fun b h1 h2 => by rw [← hH, upd_ne h2, upd_ne h1]
    have sm : SmN H H1 := ⟨fun b o n e => by
      rw [els b (fun z => by rw [z, tP] at e; cases e; exact n) (ne_of_none e nc)]
      exact e, fun b hb z => by
      by_cases h1 : b = P
      · rw [h1, atP] at z; cases z
      · by_cases h2 : b = c'
        · rw [h2, atC] at z; cases z
        · rw [els b h1 h2] at z; exact hb z⟩
    have nf0 : H h1.objs.size = none := I.hok.fresh z1
    have nf : H1 h1.objs.size = none := by
      rw [els _ (Nat.ne_of_gt (Nat.lt_of_lt_of_le (Heap.lt_size oP) z1)) (Nat.ne_of_gt g2)]
      exact nf0
    have T1 : Tabs T H1 := fun t' ht => by
      by_cases hb : t'.1 = P
      · rw [one t' ht hb, hb]
        have el : (ps ++ #[rawInt pos.line, rawInt pos.col, .ref c']).toList = ps.toList ++ [rawInt pos.line, rawInt pos.col, .ref c'] := by simp
        refine ⟨_, atP, by rw [el]; exact PySem.TriplesOk_snoc _ _ _ _ t3, fun p2 cv hcv => ?_⟩
        rw [el] at hcv
        rcases among_app _ t3 hcv with z | z
        · obtain ⟨c0, a1, a2⟩ := tc p2 cv z
          exact ⟨c0, a1, sm.keep _ _ codeO_nt a2⟩
        · exact ⟨c', z, atC⟩
      · obtain ⟨ps2, a1, a2, a3⟩ := hT t' ht
        refine ⟨ps2, by rw [els _ hb (ne_of_none a1 nc)]; exact a1, a2, fun p2 cv hcv => ?_⟩
        obtain ⟨c0, b1, b2⟩ := a3 p2 cv hcv
        exact ⟨c0, b1, sm.keep _ _ codeO_nt b2⟩
    refine h h1.objs.size c' ((X.mg "__name__").getD .none) ctv _ _ (I1.laid (t' := tk) (a := h1.objs.size) (o := LamOb h1.objs.size (lamI X params body scope) ((X.mg "__name__").getD .none) c' ctv) (fun b o e => Heap.get?_push_of_some _ e) (Nat.le_refl _) ?_) ⟨fun b o n e => by
      rw [upd_ne (ne_of_none e nf0)]; exact sm.keep b o n e, fun b e => by
      by_cases z : b = h1.objs.size
      · rw [z, upd_same]; simp
      · rw [upd_ne z]; exact sm.stay b e⟩ (T1.ext (same_new nf)) nf0 (.inl nc) upd_same (by rw [upd_ne (ne_of_none atC nf)]; exact atC)
    exact ⟨Heap.get?_push_size _ rfl, ⟨_, Heap.get?_push_size _ rfl⟩, fun h1 h2 e st => st _ e⟩
end
section
variable {X : Cx} {T : Tb} {W : WX} {vs : List Nat}
def eLam (i : Nat) : EM := fun _ S => .ok (.lam i none) S
theorem lam_vr {β : List Addr} {α : List (Option Addr)} {H H1 : Hp} {S : Sto} {L : LamI} {i : Nat} {f c' : Addr} {pm ctv : Value} (hR : Rl T β α S H) (hi : T.lams[i]? = some L) (nf : H f = none) (hc : H c' = none ∨ H c' = some (CodeO c' L.q)) (of : H1 f = some (LamOb f L pm c' ctv)) (oc : H1 c' = some (CodeO c' L.q)) (hx : T.ctx β α H1) :
    Vr T β α H1 (.lam i none) (.ref f) := by
  have nc : c' ∉ blk β α := fun z => by
    rcases hc with e | e
    · exact hR.newOff e z
    · rcases List.mem_append.mp z with z | z
      · have b := hR.bt c' z
        rw [e] at b
        unfold CodeO at b
        exact b
      · have b := hR.mt c' z
        rw [e] at b
        unfold CodeO at b
        exact b
  exact ⟨⟨f, rfl, L, pm, c', ctv, hi, hid_some.mpr ⟨hR.newOff nf, of, lamOb_nt⟩, hid_some.mpr ⟨nc, oc, codeO_nt⟩⟩, hx⟩
/-- lambda: body -/
theorem tr_lam0 {c P : Addr} {params : Arguments} {body : Expr} {scope : Scope} {pos : Pos} (i : Nat) (hi : T.lams[i]? = some (lamI X params body scope)) (hx : ∀ β α H, T.ctx β α H) (B : TabB X.base X.mg c P) (hc : X.env.code = .ref c) (hm : (P, X.env.qual ++ "<lambda>") ∈ T.tabs)
    (one : ∀ t ∈ T.tabs, t.1 = P → t.2 = X.env.qual ++ "<lambda>") (L : LamS X.env.scope scope) (nd : defaultsOf params X.env = ([], []) := by rfl) : PE X (.Lambda params body scope pos) (tE T W (eLam i)) := by
  refine ⟨fun pins s σ H Q I h => ?_⟩
  obtain ⟨β, α, S, ρ, hR, hE, h⟩ := h
  exact lam_newO I B hc hm one hR.tab nd (L.has I.ok) fun f c' pm ctv H1 s1 I1 sm T1 nf hc' of oc => ⟨.ref f, H1, I1, rfl, h α H1 _ (Ext.sm sm) (hR.sm sm T1) (lam_vr hR hi nf hc' of oc (hx _ _ _))⟩
/-- (lambda, what is due) -/
def gTupL (xs : List R) (S : Sto) : Out R := match xs with
  | [.lam i none, .dat d] => .ok (.lam i (some d)) S
  | _ => .stuck
theorem tr_tupL {es : List Expr} {ms : EMs} {pos : Pos} {x1 : Nat} (h : PA X es (tA T W ms)) : PE X (.Tuple es x1 pos) (tE T W (eArgs gTupL ms)) :=
  pe_le (pe_tup h) fun σ H Q h => args_le (r := fun xs H1 Q => xs.length ≤ sizeLine ∧ ∀ p, H1 p = none → Q (.ref p) (upd H1 p (.tup xs))) (g := gTupL) (by
    intro β W σ α S H xs vs Q Rr hx h
    unfold gTupL at h
    split at h
    · rename_i i d
      cases hx with
      | cons h1 t => cases t with
        | cons h2 t => cases t with
          | nil =>
            rename_i b
            refine ⟨by show 2 ≤ sizeLine; decide, fun p hp => ?_⟩
            obtain ⟨⟨a, rfl, hl⟩, hcx⟩ := h1
            have sm : Same H (upd H p (.tup [.ref a, b])) := same_new hp
            have ex : Ext α H α (upd H p (.tup [.ref a, b])) := Ext.same sm
            exact h α _ _ ex (Rr.same sm) ⟨⟨p, a, _, rfl, .inl (.inl (Rr.hidNew hp)), hl.same ex.hid, Dq.same ex.hid h2⟩, T.ctxS _ _ _ _ _ _ ex.len ex.old ex.hid hcx⟩
    · exact h.elim) h
/-- for work, due in .. -/
def gW2 (a b : Nat) : GM := fun r ρ => match r with
  | .lam i (some d) => some ((ρ.set a (some (.lam i none))).set b (some (.dat d)))
  | _ => none
end
end Pev
/-! Pev: lambdas without parameters: unpacked, about for a while, called by the def that got them. -/
namespace Pev
open PySem PySem.Spec PyProof.Rows L2
open LamX (CodeO TabS Tabs ExtN TabB lamEnv LamS lamCx lam_start2)
section
variable {X : Cx} {T : Tb} {vs : List Nat}
theorem tg_w2 {k : Nat} {pos p1 p2 : Pos} {x y : Str} (i j : Nat) (hK : X.K = T.K) (hc : X.calm = true) (hN : X.N.Nodup) (hi : X.N[i]? = some x) (hj : X.N[j]? = some y) (hx : Loc X.env.scope x) (hy : Loc X.env.scope y) (vi : i ∈ vs := by decide) (vj : j ∈ vs := by decide)
    (fx : X.fn x = true ∨ X.env.scope.names.lookup x = some .local := by first | exact .inl rfl | exact .inr rfl | assumption) (fy : X.fn y = true ∨ X.env.scope.names.lookup y = some .local := by first | exact .inl rfl | exact .inr rfl | assumption)
    (hn : (assignEach [Expr.Name x p1, Expr.Name y p2] X.env).length = 2 := by rfl) (hst : (assignEach [Expr.Name x p1, Expr.Name y p2] X.env).findIdx? (·.1) = none := by rfl) : PG X (.Tuple [.Name x p1, .Name y p2] k pos) (tG T vs (gW2 i j)) := by
  refine pg_le (pg_tup (n := 2) hc (pgs_cons (pg_name hN hi hx fx) (pgs_cons (pg_name hN hj hy fy) pgs_nil)) hn hst) fun v σ H Q ⟨β, α, S, ρ, r, ρ', hR, hE, hr, hg, q⟩ => ?_
  unfold gW2 at hg
  split at hg
  · rename_i l d
    cases hg
    obtain ⟨⟨a, f, w, rfl, h1, h2, h3⟩, hcx⟩ := hr
    have vf : Vr T β α H (.lam l none) (.ref f) := ⟨⟨f, rfl, h2⟩, hcx⟩
    have vw : Vr T β α H (.dat d) w := h3
    refine ⟨a, [.ref f, w], rfl, by rw [hK]; exact sqT_same hid_le h1, rfl, .ref f, [w], rfl, ?_⟩
    show gCons _ _ [w] (σ.set i (some (.ref f))) H Q
    refine ⟨w, [], rfl, ?_⟩
    show gNil [] ((σ.set i (some (.ref f))).set j (some w)) H Q
    exact ⟨rfl, q _ ((hE.set vf).set vw) ((wipe_set_in vj).trans (wipe_set_in vi))⟩
  · cases hg
end
/-! ### about for a while -/
def Tb.lam (T : Tb) (ls : List LamI) : Tb := { T with lams := ls }
def noLam : R → Bool
  | .lam _ _ => false
  | _ => true
def killC : Cell → Cell
  | .lst rs => if rs.all noLam then .lst rs else .dead
  | .dead => .dead
def killL (S : Sto) : Sto := S.map killC
def killR (ρ : Rho) : Rho := ρ.map fun o => o.bind fun r => if noLam r then some r else none
section
variable {T : Tb} {ls : List LamI} {β : List Addr} {α : List (Option Addr)} {H : Hp} {S : Sto} {σ : L2.St} {ρ : Rho} {W : WX}
theorem vr_lam (hl : T.lams = []) {r : R} {v : V} (h : Vr T β α H r v) : Vr (T.lam ls) β α H r v := by
  cases r with
  | lam i f =>
    exfalso
    cases f with
    | none =>
      obtain ⟨⟨a, _, L, _, _, _, e, _⟩, _⟩ := h
      rw [hl] at e
      simp at e
    | some d =>
      obtain ⟨⟨a, f, w, _, _, ⟨L, _, _, _, e, _⟩, _⟩, _⟩ := h
      rw [hl] at e
      simp at e
  | dat _ => exact h
  | obj _ => exact h
  | ro _ => exact h
  | err _ _ => exact h
theorem vr_unlam {r : R} {v : V} (n : noLam r = true) (h : Vr (T.lam ls) β α H r v) : Vr T β α H r v := by
  cases r with
  | lam i f => cases n
  | dat _ => exact h
  | obj _ => exact h
  | ro _ => exact h
  | err _ _ => exact h
theorem rl_lam (hl : T.lams = []) (h : Rl T β α S H) : Rl (T.lam ls) β α S H := ⟨h.len, h.inj, h.off, h.bt, h.mt, fun k rs q => by
  obtain ⟨a, vs, e1, e2, e3⟩ := h.cell k rs q
  exact ⟨a, vs, e1, e2, Paired.mapP e3 fun _ _ z => vr_lam hl z⟩, h.tab⟩
theorem er_lam (hl : T.lams = []) (h : Er T β α H σ ρ) : Er (T.lam ls) β α H σ ρ := ⟨h.1, fun i r q => by
  have w := h.2 i r q
  cases r with
  | err c f => exact w
  | dat _ => exact w
  | obj _ => exact w
  | ro _ => exact w
  | lam i f => obtain ⟨u, h1, h2⟩ := w; exact ⟨u, h1, vr_lam hl h2⟩⟩
theorem rl_unlam (h : Rl (T.lam ls) β α S H) : Rl T β α (killL S) H where
  len := by unfold killL; rw [List.length_map]; exact h.len
  inj := h.inj
  off := h.off
  bt := h.bt
  mt := h.mt
  tab := h.tab
  cell := fun k rs q => by
    unfold killL at q
    rw [List.getElem?_map] at q
    obtain ⟨c, hc, e⟩ := Option.map_eq_some_iff.mp q
    cases c with
    | dead => cases e
    | lst ts =>
      unfold killC at e
      dsimp only at e
      split at e
      · rename_i z
        cases e
        obtain ⟨a, vs, e1, e2, e3⟩ := h.cell k rs hc
        refine ⟨a, vs, e1, e2, ?_⟩
        clear hc q e1 e2
        induction e3 with
        | nil => exact .nil
        | cons h1 t ih =>
          rw [List.all_cons, Bool.and_eq_true] at z
          exact .cons (vr_unlam z.1 h1) (ih z.2)
      · cases e
theorem er_unlam (h : Er (T.lam ls) β α H σ ρ) : Er T β α H σ (killR ρ) := ⟨by unfold killR; rw [List.length_map]; exact h.1, fun i r q => by
  unfold killR at q
  rw [List.getElem?_map] at q
  obtain ⟨o, ho, e⟩ := Option.map_eq_some_iff.mp q
  cases o with
  | none => cases e
  | some r' =>
    have e : (if noLam r' then some r' else none) = some r := e
    split at e
    · rename_i z
      cases e
      have w := h.2 i r ho
      cases r with
      | err c f => exact w
      | dat _ => exact w
      | obj _ => exact w
      | ro _ => exact w
      | lam i f => cases z
    · cases e⟩
def sLamO (o : OutS) : OutS := match o with
  | .nx ρ S => .nx (killR ρ) (killL S)
  | .rt r S => if noLam r then .rt r (killL S) else .stuck
  | .bk ρ S => .bk (killR ρ) (killL S)
  | .ct ρ S => .ct (killR ρ) (killL S)
  | .exc c f ρ S => .exc c f (killR ρ) (killL S)
  | .stuck => .stuck
def sLam (b : SM) : SM := fun ρ S => sLamO (b ρ S)
theorem ts_lams {X : Cx} {sts : List Stmt} {b : SM} (hl : T.lams = []) (ls : List LamI) (h : PSs X sts (tS (T.lam ls) W b)) : PSs X sts (tS T W (sLam b)) :=
  pss_le h fun D σ H ⟨β, α, S, ρ, hR, hE, hp⟩ => ⟨β, α, S, ρ, rl_lam hl hR, er_lam hl hE, by
    unfold sLam at hp
    cases q : b ρ S with
    | nx ρ1 S1 => rw [q] at hp; exact fun α' H' σ' e r y => hp α' H' σ' e (rl_unlam r) (er_unlam y)
    | bk ρ1 S1 => rw [q] at hp; exact fun α' H' σ' e r y => hp α' H' σ' e (rl_unlam r) (er_unlam y)
    | ct ρ1 S1 => rw [q] at hp; exact fun α' H' σ' e r y => hp α' H' σ' e (rl_unlam r) (er_unlam y)
    | rt r S1 =>
      rw [q] at hp
      unfold sLamO at hp
      dsimp only at hp
      split at hp
      · rename_i n
        exact fun α' H' v e R y => hp α' H' v e (rl_unlam R) (vr_unlam n y)
      · exact hp.elim
    | exc c f ρ1 S1 => rw [q] at hp; exact fun α' H' σ' cls d e r y x => hp α' H' σ' cls d e (rl_unlam r) (er_unlam y) x
    | stuck => rw [q] at hp; exact hp.elim⟩
/-- a def of data, meanwhile -/
theorem fnG_lam {P : Program} {w : World} {mg : Str → Option Value} {base : Heap} {k : Nat} {f : Addr} {fd : FuncData} {ps : List Str} {n : Nat} {m : FM} (hl : T.lams = []) (F : FnG P w T.K mg base k f fd ps (spF T n m)) : FnG P w T.K mg base k f fd ps (spF (T.lam ls) n (pureF m)) :=
  F.imp fun vs H Q E ⟨h1, β, α, S, rs, hR, hV, hp⟩ => by
    refine ⟨h1, ?_⟩
    obtain ⟨β', ds, R', V', hp'⟩ := pure_ok (W := fun cls d _ H' => E cls d H') hR hV hp
    refine ⟨β', [], [], ds.map .dat, ⟨R'.len, R'.inj, R'.off, R'.bt, R'.mt, fun k rs q => by simp at q, R'.tab⟩, DqAll.vrs (Vrs.dq (K := T.lam ls) V'), ?_⟩
    cases q : m (ds.map .dat) [] with
    | ok r S1 => rw [q] at hp'; exact fun α' H' v e R y => hp' α' H' v e (rl_lam hl R) (vr_lam hl y)
    | exc c f S1 => rw [q] at hp'; exact fun α' H' cls d e R x => hp' α' H' cls d e (rl_lam hl R) x
    | stuck => rw [q] at hp'; exact hp'.elim
end
end Pev
/-! Pev: a lambda without parameters is handed to a def, that calls it. -/
namespace Pev
open PySem PySem.Spec PyProof.Rows L2
open LamX (CodeO TabS Tabs ExtN TabB lamEnv LamS lamCx lam_start2)
/-- what a lambda needs, from now on -/
def Tb.at (T : Tb) (c : List Addr → List (Option Addr) → Hp → Prop) (cs : ∀ (β : List Addr) (α : List (Option Addr)) (H : Hp) (β' : List Addr) (α' : List (Option Addr)) (H' : Hp), α.length ≤ α'.length → (∀ (k : Nat) (a : Addr), k < α.length → α'[k]? = some (some a) → α[k]? = some (some a)) →
    Same (hid (β ++ live α) H) (hid (β' ++ live α') H') → c β α H → c β' α' H') : Tb := { T with ctx := c, ctxS := cs }
section
variable {T : Tb} {c : List Addr → List (Option Addr) → Hp → Prop} {cs : ∀ (β : List Addr) (α : List (Option Addr)) (H : Hp) (β' : List Addr) (α' : List (Option Addr)) (H' : Hp), α.length ≤ α'.length → (∀ (k : Nat) (a : Addr), k < α.length → α'[k]? = some (some a) → α[k]? = some (some a)) →
    Same (hid (β ++ live α) H) (hid (β' ++ live α') H') → c β α H → c β' α' H'} {β : List Addr} {α : List (Option Addr)} {H : Hp} {S : Sto}
theorem vr_at (hc : c β α H) {r : R} {v : V} (h : Vr T β α H r v) : Vr (T.at c cs) β α H r v := by
  cases r with
  | lam i f =>
    cases f with
    | none => obtain ⟨h1, _⟩ := h; exact ⟨h1, hc⟩
    | some d => obtain ⟨h1, _⟩ := h; exact ⟨h1, hc⟩
  | dat _ => exact h
  | obj _ => exact h
  | ro _ => exact h
  | err _ _ => exact h
theorem vr_unat (hx : ∀ β α H, T.ctx β α H) {r : R} {v : V} (h : Vr (T.at c cs) β α H r v) : Vr T β α H r v := by
  cases r with
  | lam i f =>
    cases f with
    | none => obtain ⟨h1, _⟩ := h; exact ⟨h1, hx _ _ _⟩
    | some d => obtain ⟨h1, _⟩ := h; exact ⟨h1, hx _ _ _⟩
  | dat _ => exact h
  | obj _ => exact h
  | ro _ => exact h
  | err _ _ => exact h
theorem rl_at (hc : c β α H) (h : Rl T β α S H) : Rl (T.at c cs) β α S H := ⟨h.len, h.inj, h.off, h.bt, h.mt, fun k rs q => by
  obtain ⟨a, vs, e1, e2, e3⟩ := h.cell k rs q
  exact ⟨a, vs, e1, e2, Paired.mapP e3 fun _ _ z => vr_at hc z⟩, h.tab⟩
theorem rl_unat (hx : ∀ β α H, T.ctx β α H) (h : Rl (T.at c cs) β α S H) : Rl T β α S H := ⟨h.len, h.inj, h.off, h.bt, h.mt, fun k rs q => by
  obtain ⟨a, vs, e1, e2, e3⟩ := h.cell k rs q
  exact ⟨a, vs, e1, e2, Paired.mapP e3 fun _ _ z => vr_unat hx z⟩, h.tab⟩
end
def eWork (a : Nat) (hl : Nat → Sto → Out R) : EM := fun ρ S => match ρ[a]? with
  | some (some (.lam i none)) => hl i S
  | _ => .stuck
def oNo (o : Out R) : Out R := match o with
  | .ok r S => if noLam r then .ok r S else .stuck
  | .exc c f S => .exc c f S
  | .stuck => .stuck
def hlOf (mbs : List EM) (ρ : Rho) : Nat → Sto → Out R := fun i S => match mbs[i]? with
  | some mb => oNo (mb ρ S)
  | none => .stuck
/-- a lambda's body, read -/
def LamB (X : Cx) (T : Tb) (k : Nat) (L : LamI) (mb : EM) : Prop := ∃ (params : Arguments) (body : Expr) (scope : Scope), L = lamI X params body scope ∧ LamS X.env.scope scope ∧
  (∀ (q : Str) (cl : List (Str × Addr)) (pm cv ctv : Value), bindArgs (PySem.W.kla_fn "<lambda>" q params body scope cl pm cv ctv) ⟨[], []⟩ = pure []) ∧
  ∀ (A : Around) (outer : List Env) (s : Shared) (H : Hp) (E : XK) (f c' : Addr), RoomG k (A.deeper (lamEnv X scope s.heap.objs.size f c')) → PE (lamCx X A outer s H E scope f c') body (tE T (fun cls d _ H' => E cls d H') mb)
inductive LamBs (X : Cx) (T : Tb) (k : Nat) : List LamI → List EM → Prop
  | nil : LamBs X T k [] []
  | cons {L : LamI} {ls : List LamI} {mb : EM} {mbs : List EM} : LamB X T k L mb → LamBs X T k ls mbs → LamBs X T k (L :: ls) (mb :: mbs)
theorem LamBs.get {X : Cx} {T : Tb} {k : Nat} : ∀ {ls : List LamI} {mbs : List EM} {i : Nat} {L : LamI}, LamBs X T k ls mbs → ls[i]? = some L → ∃ mb, mbs[i]? = some mb ∧ LamB X T k L mb
  | _, _, _, _, .nil, e => by simp at e
  | _, _, 0, _, .cons h _, e => by cases e; exact ⟨_, rfl, h⟩
  | _, _, i + 1, _, .cons _ t, e => by
    obtain ⟨mb, h1, h2⟩ := LamBs.get (i := i) t (by simpa using e)
    exact ⟨mb, by simpa using h1, h2⟩
section
variable {X : Cx} {T : Tb}
abbrev erS (T : Tb) (σ : L2.St) (ρ : Rho) : ∀ (β : List Addr) (α : List (Option Addr)) (H : Hp) (β' : List Addr) (α' : List (Option Addr)) (H' : Hp), α.length ≤ α'.length → (∀ (k : Nat) (a : Addr), k < α.length → α'[k]? = some (some a) → α[k]? = some (some a)) →
    Same (hid (β ++ live α) H) (hid (β' ++ live α') H') → Er T β α H σ ρ → Er T β' α' H' σ ρ := fun _ _ _ _ _ _ h1 h2 h3 h => h.lt ⟨h1, h2, h3⟩
abbrev Tb.er (T : Tb) (σ : L2.St) (ρ : Rho) : Tb := T.at (fun β α H => Er T β α H σ ρ) (erS T σ ρ)
end
end Pev
/-! Pev: G(work), G(lambda: ..). -/
namespace Pev
open PySem PySem.Spec PyProof.Rows L2
open LamX (CodeO TabS Tabs ExtN TabB lamEnv LamS lamCx lam_start2)
theorem call_at {P : Program} {w : World} {K : PySem.W.Frag} {mg : Str → Option Value} {base : Heap} {x qual : Str} {st : Stmt} {f : Addr} {fd : FuncData} {N ps : List Str} {k : Nat} (F : L2.Fun K x qual st f fd) (S : FnScope N ps (defScope st))
    {A : Around} {fs : List Env} {s : Shared} {H : Hp} {args : Args} {us : List Value} {vs : List V} {Q : VK} {E : XK} (hr : RoomG (k + 1) A) (e0 : Env0 P w K mg base A fs s H) (hb : BindsTo s fd args (ps.zip us)) (rv : Vals vs us) (hl : vs.length = ps.length)
    (hbody : ∀ (cdv : Value) (_ : fd.code = cdv), RoomG k (A.deeper (envOfC qual (defScope st) s.heap.objs.size f cdv)) → ∃ t, PSs (cxOf (L2.CX P w) P w K mg base N qual (defScope st) f cdv A fs s H E) (defBody st) t ∧ t { nx := fun _ H' => Q .non H', rt := Q } (L2.start N vs) H) :
    codeAny (model P w) A (.call (.ref f) args) (CR (L2.CX P w) fs P w H s Q E) s := by
  obtain ⟨c1, c2, kV, doc, pm, an, cdv, ct, sl, rfl, lk, hcode⟩ := F.ex
  have up : ∀ b o, base.get? b = some o → s.heap.get? b = some o := fun b o e => (e0.bs b o e).1
  have KX : K.In s.heap := e0.mod.kin.keeps up
  have par : ∀ y ∈ ps.zip us, (defScope st).names.lookup y.1 = some .local ∨ ((defScope st).names.lookup y.1 = some .cell ∧ ((cellsFrom (s.heap.objs.size + 1) (defScope st).names []).lookup y.1).isSome = true) := fun y hy =>
    (S.par y.1 (List.of_mem_zip hy).1).imp id fun q => ⟨q, PySem.W.cellsFrom_some _ _ _ (.inl q)⟩
  refine codeAny_call_function hr.toRoom.depth (KX _ _ lk) rfl S.co S.gen rfl (PySem.W.codeRec_of KX hcode) (hb _ _ _ _ (wpAny_newFunctionEnv_cells S.kind par fun env he s1 z => ?_))
  subst he
  obtain ⟨t, ht, hq⟩ := hbody cdv rfl (hr.deeper _)
  refine ⟨(e0.mod.nolimit.keeps up).keeps z.toInCall.keep, codeAny_func (wpAny_mono (ht.run [] s1 (L2.start N vs) H _ (inv_start S hr.hd e0 hl rv z) hq) (fun fl s2 hs => ?_) fun _ _ hs => hs)⟩
  have q := flow_end hs
  cases fl with
  | ret u => exact q
  | next => exact q
  | brk => exact q.elim
  | cont => exact q.elim
section
variable {X : Cx} {T : Tb} {W : WX}
end
/-! ### the lambdas of a row of statements -/
def lamOfT (X : Cx) : Expr → List LamI
  | .Tuple [.Lambda params body scope _, _] _ _ => [lamI X params body scope]
  | _ => []
def lamOfS (X : Cx) : Stmt → List LamI
  | .Assign _ (.List [e] _) _ => lamOfT X e
  | .Expr (.Call (.Attribute _ _ _) [e] _ _) _ => lamOfT X e
  | _ => []
def lamsOf (X : Cx) : List Stmt → List LamI
  | [] => []
  | st :: sts => lamOfS X st ++ lamsOf X sts
theorem ts_lamsB {X : Cx} {T : Tb} {W : WX} {sts : List Stmt} {b : SM} (hl : T.lams = []) (h : PSs X sts (tS (T.lam (lamsOf X sts)) W b)) : PSs X sts (tS T W (sLam b)) := ts_lams hl _ h
end Pev
/-! Pev: G(work) within a comprehension's block; the maker stands around it. -/
namespace Pev
open PySem PySem.Spec PyProof.Rows L2
open LamX (CodeO TabS Tabs ExtN TabB lamEnv LamS lamCx)
/-- the maker's state, as the block finds it -/
def Mk (X : Cx) (σ : L2.St) (s : Shared) (H : Hp) (fp : List Addr) : Prop := ∃ pins : List (Addr × Obj), Inv X pins σ H s ∧ ∀ b ∈ fp, FpOk X pins H b
section
variable {X : Cx} {T : Tb} {pins : List (Addr × Obj)} {σ : L2.St} {H HZ : Hp} {s s1 : Shared}
theorem lam_start3 {A : Around} {outer : List Env} {E : XK} {scope : Scope} {f c' : Addr} {h1 : Heap} {tk : Nat} (I : Inv X pins σ H s) (L : LamS X.env.scope scope) (e0 : Env0 X.prog X.w X.K X.mg X.base A outer s1 HZ) (hd : A.handled = none)
    (uc : ∀ y c, X.env.cells.lookup y = some c → HZ c = none ∧ ∀ v, s.heap.IsCell c v → s1.heap.IsCell c v) (hns : h1.Ns s1.heap.objs.size fun y => ([] : List (Str × Value)).reverse.lookup y) (kp : ∀ b o, s1.heap.get? b = some o → h1.get? b = some o) :
    Inv (lamCx X A outer s1 HZ E scope f c') [] σ HZ { s1 with heap := h1, toks := tk } := by
  have cap : ∀ {y c}, (cloFrom X.env.cells scope.names []).lookup y = some c → X.env.cells.lookup y = some c := fun {y c} e => by
    rcases cloFrom_mem (PySem.mem_of_lookup e) with m | ⟨m1, m2⟩
    · cases m
    · obtain ⟨c1, k1⟩ := L.has I.ok _ m1 rfl
      have k1 : X.env.cells.lookup y = some c1 := k1
      rw [k1]
      congr 1
      rw [m2, k1] <;> rfl
  have got : ∀ {y}, scope.names.lookup y = some .free → ∃ c, (cloFrom X.env.cells scope.names []).lookup y = some c := fun {y} e => mem_lookup (cloFrom_has (cells := X.env.cells) (acc := []) (PySem.mem_of_lookup e))
  have none_in : ∀ {b : Addr}, b ∈ ([] : List Addr) → False := fun h => List.not_mem_nil h
  have up : ∀ {c : Addr} {v : Option Value}, s1.heap.IsCell c v → h1.IsCell c v := fun {c v} ⟨o, e1, e2⟩ => ⟨o, kp _ _ e1, e2⟩
  exact {
    ok := {
      mod := e0.mod
      kind := L.kind
      glob := rfl
      blt := rfl
      above := Nat.le_refl _
      inj := fun y z c e1 e2 => I.ok.inj y z c (cap e1) (cap e2)
      has := fun y hy => by
        have hy : scope.names.lookup y = some .cell ∨ scope.names.lookup y = some .free := hy
        rcases hy with e | e
        · exact absurd rfl (L.own _ (PySem.mem_of_lookup e)).2
        · exact got e
      cab := fun y c z _ => by cases (z : false = true)
      hd := fun _ => hd
      frames := Around.frames_deeper e0.frames
      stk := .inr ⟨rfl, rfl⟩
      exf := fun b z => (none_in z).elim
      bs := e0.bs
      bsz := e0.bsz
      noex := fun b _ _ z => none_in z
      exfs := fun b z => (none_in z).elim
      funs := e0.funs
      frf := e0.frf }
    os := rfl
    bare := e0.bare
    base := Un.kept kp
    loc := ⟨_, hns, fun i y w e1 e2 e3 => by
      have e3 : Vis scope y := e3
      have fr : scope.names.lookup y = some .free := by
        rcases e3 with z | z | z
        · exact absurd rfl (L.own _ (PySem.mem_of_lookup z)).1
        · exact absurd rfl (L.own _ (PySem.mem_of_lookup z)).2
        · exact z
      have vis := L.free _ (PySem.mem_of_lookup fr) rfl
      obtain ⟨m, _, lk⟩ := I.loc
      obtain ⟨u, r, q⟩ := lk i y w e1 e2 (vis.elim (fun z => .inr (.inl z)) fun z => .inr (.inr z))
      obtain ⟨c2, h2⟩ := got fr
      refine ⟨u, r, .inr ⟨.inr fr, c2, h2, ?_⟩⟩
      rcases q with ⟨z, _⟩ | ⟨_, c3, z1, z2⟩
      · have z : X.env.scope.names.lookup y = some .local := z
        rcases vis with z' | z' <;> rw [show X.env.scope.names.lookup y = _ from z'] at z <;> cases z
      · rw [cap h2] at z1
        cases z1
        exact up ((uc _ _ (cap h2)).2 _ z2)⟩
    cell := fun y c e => by
      obtain ⟨w, z⟩ := I.cell y c (cap e)
      exact ⟨w, up ((uc _ _ (cap e)).2 _ z)⟩
    free := e0.hok.fresh (Nat.le_refl _)
    freeC := fun y c e => (uc _ _ (cap e)).1
    pin := fun q hq => (List.not_mem_nil (show q ∈ ([] : List (Addr × Obj)) from hq)).elim
    hok := e0.hok.kept kp
    len := I.len }
theorem un_cell {fs ex : List Addr} {h h' : Heap} {H H' : Hp} (u : Un fs ex H H' h h') {c : Addr} (n : H c = none) (hx : c ∉ ex) {v : Option Value} (e : h.IsCell c v) : h'.IsCell c v := by
  obtain ⟨o, e1, e2⟩ := e
  obtain ⟨sl, q⟩ := u.any e1 n hx
  exact ⟨_, q, e2⟩
theorem pe_holeB {H1 : Hp} {s0 : Shared} {fp : List Addr} {sY : Shared} {HY : Hp} {ρ : Rho} {mbs : List EM} {k i : Nat} {N : List Str} {q a : Str} {sg : Scope} {gA : Addr} {cdv : Value} {E0 : XK} {pn : List (Addr × Obj)} {xe : Value → Shared → Prop} {W : WX} {p1 p2 : Pos}
    (mk : Mk X σ s0 H1 fp) (uY : Un (frs X.stack) fp H1 HY s0.heap sY.heap) (hx : ∀ β α H, T.ctx β α H) (hB : LamBs X T k T.lams mbs) (hr : RoomG (k + 1) (X.A.deeper (envOfC q sg sY.heap.objs.size gA cdv)))
    (tk : Takes ((cxOf (L2.CX X.prog X.w) X.prog X.w X.K X.mg X.base N q sg gA cdv X.A X.stack sY HY E0).tr pn xe) W)
    (hN : N[i]? = some a) (hv : Vis sg a) (hd : (a == ("__debug__" : Str)) = false) (hcd : (a == ("__classdict__" : Str)) = false) :
    PE ((cxOf (L2.CX X.prog X.w) X.prog X.w X.K X.mg X.base N q sg gA cdv X.A X.stack sY HY E0).tr pn xe) (.Call (.Name a p1) [] [] p2) (tE (T.er σ ρ) W (eWork i (hlOf mbs ρ))) := by
  obtain ⟨pins, I, fpk⟩ := mk
  refine ⟨fun pinsZ sZ σZ HZ Q IZ h => ?_⟩
  obtain ⟨β, α, S, ρZ, hR, hE, h⟩ := h
  unfold eWork at h
  split at h
  · rename_i j e
    obtain ⟨v, hσ, ⟨a', rfl, L, pm, c', ctv, hL, hf, hc⟩, hctx⟩ := hE.2 i _ e
    have hctx : Er T β α HZ σ ρ := hctx
    have hL : T.lams[j]? = some L := hL
    obtain ⟨mb, hmb, params, body, scope, rfl, LS, hb, hbody⟩ := hB.get hL
    have hf' := (hid_some.mp hf).2.1
    have hc' := (hid_some.mp hc).2.1
    refine wpAny_Call_Name_kw (thn ((pe_var (pos := p1) (i := i) hN hv hd hcd).run pinsZ sZ σZ HZ (fun v H1 => v = .ref a' ∧ H1 = HZ) IZ ⟨.ref a', hσ, rfl, rfl⟩) fun u s2 ⟨v, H2, I2, r1, q1⟩ => ?_)
    obtain ⟨ev, eH⟩ := q1
    subst ev
    rw [eH] at I2
    obtain rfl : u = Value.ref a' := r1
    obtain ⟨of1, _, _⟩ := I2.hok a' _ hf'
    obtain ⟨⟨oc, vs, t, hoc, hdc, hvc⟩, _, _⟩ := I2.hok c' _ hc'
    refine PySem.W.callWith_F0 ⟨_, _, _, _, of1⟩ ?_
    have uZ : Un (frs X.stack) [] HY HZ sY.heap s2.heap := I2.base
    have uc : ∀ y c, X.env.cells.lookup y = some c → HZ c = none ∧ ∀ v, s0.heap.IsCell c v → s2.heap.IsCell c v := fun y c e => by
      have n0 : H1 c = none := I.freeC y c e
      have nx : c ∉ fp := fun z => (fpk c z).2.2.2.2.1 y c e rfl
      obtain ⟨w, o, ho, hd⟩ := I.cell y c e
      have n1 : HY c = none := uY.free c o ho n0 nx
      obtain ⟨sl, ho1⟩ := uY.any ho n0 nx
      exact ⟨uZ.free c _ ho1 n1 (by simp), fun v z => un_cell uZ n1 (by simp) (un_cell uY n0 nx z)⟩
    have ht : tE T (fun cls d _ H' => W cls d σZ H') mb σ HZ Q := by
      refine ⟨β, α, S, ρ, rl_unat hx hR, hctx, ?_⟩
      unfold hlOf at h
      rw [hmb] at h
      dsimp only at h
      cases q : mb ρ S with
      | ok r S1 =>
        rw [q] at h
        unfold oNo at h
        dsimp only at h
        split at h
        · exact fun α' H' v e R y => h α' H' v e (rl_at (hctx.ext e) R) (vr_at (hctx.ext e) y)
        · exact h.elim
      | exc c f S1 => rw [q] at h; exact fun α' H' cls d e R x => h α' H' cls d e (rl_at (hctx.ext e) R) x
      | stuck => rw [q] at h; exact h.elim
    have rc : codeAny (model X.prog X.w) (X.A.deeper (envOfC q sg sY.heap.objs.size gA cdv)) (.call (.ref a') ⟨[], []⟩) (CR (L2.CX X.prog X.w) (envOfC q sg sY.heap.objs.size gA cdv :: X.stack) X.prog X.w HZ s2 Q (WE W σZ)) s2 := by
      refine PySem.W.kla_callFunE hr.toRoom.depth of1 rfl LS.co LS.gen rfl ⟨c', oc, vs, t, rfl, hoc, hdc, hvc⟩ ?_
      rw [hb]
      refine wpAny_pure (wpAny_newFunctionEnv (fun y hy => (LS.own y hy).2) (fun y hy => absurd hy (by simp)) (fun h₁ hns hsb => ⟨I2.nolimit.fresh _ hsb, ?_⟩) LS.kind)
      show codeAny _ _ (.expr body (lamEnv X scope s2.heap.objs.size a' c')) _ _
      have kp : ∀ b o, s2.heap.get? b = some o → h₁.get? b = some o := fun b o e => hsb.extBut b o (Nat.ne_of_lt (Heap.lt_size e)) (Heap.get?_push_of_some _ e)
      have J : Inv (lamCx X (X.A.deeper (envOfC q sg sY.heap.objs.size gA cdv)) (envOfC q sg sY.heap.objs.size gA cdv :: X.stack) s2 HZ (WE W σZ) scope a' c') [] σ HZ { s2 with heap := h₁, toks := s2.toks + ([] : List (Str × Value)).length } :=
        lam_start3 I LS I2.env0 hr.hd uc hns kp
      refine PySem.W.kla_codeExpr (wpAny_mono ((hbody _ _ s2 HZ (WE W σZ) a' c' (hr.deeper _)).run [] _ _ HZ Q J ht) (fun v s' hq => ?_) fun e s' hq => hq)
      obtain ⟨w', H', J', rv, q⟩ := hq
      exact ⟨w', H', J'.os, J'.bare, J'.base, J'.hok, rv, q⟩
    refine wpAny_call (codeAny_mono rc fun r s' hq => ?_)
    cases r with
    | error e => exact passAt tk σZ pinsZ HZ s2 e s' I2 hq
    | ok fl =>
      cases fl with
      | ret u => exact I2.after hq
      | next => exact False.elim hq
      | brk => exact False.elim hq
      | cont => exact False.elim hq
  · exact h.elim
def eLCallB (g : FM) (me : EM) : EM := fun ρ S => (me ρ S).bind fun x S1 => match x with
  | .lam i none => g [.lam i none] S1
  | _ => .stuck
theorem tr_lcallB {W : WX} {ρ : Rho} {s0 : Shared} {H1 : Hp} {scB : Scope} {ce : Env} {fp : List Addr} {x qual a : Str} {p pos : Pos} {e : Expr} {me : EM} {st : Stmt} {gA : Addr} {fd : FuncData} {N ps : List Str} {k nN i : Nat} {b : (Nat → Sto → Out R) → SM} {mbs : List EM}
    (mk : Mk X σ s0 H1 fp) (F : L2.Fun X.K x qual st gA fd) (S : FnScope N ps (defScope st)) (hp : ps.length = 1) (eN : N.length = nN) (hx : ∀ β α H, T.ctx β α H) (hB : LamBs X T k T.lams mbs) (hr : RoomG (k + 2) X.A) (hg : Gl (X.blk s0 H1 scB ce fp) x) (hm : X.mg x = some (.ref gA)) (hk : PySem.W.keepIn X.K (.ref gA) = true) (hb : Binds X.K fd ps [])
    (tk : Takes (X.blk s0 H1 scB ce fp) W) (hN : N[i]? = some a) (hv : Vis (defScope st) a)
    (okG : ∀ (σ : L2.St) (ρ : Rho) (cdv : Value) (A : Around) (outer : List Env) (s : Shared) (H : Hp) (E : XK), RoomG (k + 1) (A.deeper (envOfC qual (defScope st) s.heap.objs.size gA cdv)) →
      (∀ (pn : List (Addr × Obj)) (xe : Value → Shared → Prop) (W' : WX), Takes ((cxOf (L2.CX X.prog X.w) X.prog X.w X.K X.mg X.base N qual (defScope st) gA cdv A outer s H E).tr pn xe) W' → ∀ p1 p2 : Pos,
        PE ((cxOf (L2.CX X.prog X.w) X.prog X.w X.K X.mg X.base N qual (defScope st) gA cdv A outer s H E).tr pn xe) (.Call (.Name a p1) [] [] p2) (tE (T.er σ ρ) W' (eWork i (hlOf mbs ρ)))) →
      PSs (cxOf (L2.CX X.prog X.w) X.prog X.w X.K X.mg X.base N qual (defScope st) gA cdv A outer s H E) (defBody st) (tS (T.er σ ρ) (fun cls d _ H' => E cls d H') (b (hlOf mbs ρ))))
    (ha : PA (X.blk s0 H1 scB ce fp) [e] (tA (T.er σ ρ) W (aCons me aNil))) (hd : (a == ("__debug__" : Str)) = false := by decide) (hcd : (a == ("__classdict__" : Str)) = false := by decide) (hdb : (x == ("__debug__" : Str)) = false := by decide)
    (he : starEach [e] (X.blk s0 H1 scB ce fp).env = (false, eval e (X.blk s0 H1 scB ce fp).env) :: starEach [] (X.blk s0 H1 scB ce fp).env := by rfl) (hpl : (backTo pos (starEach [] (X.blk s0 H1 scB ce fp).env)).any (·.1) = false := by rfl) :
    PE (X.blk s0 H1 scB ce fp) (.Call (.Name x p) [e] [] pos) (tE (T.er σ ρ) W (eLCallB (fnB nN (b (hlOf mbs ρ))) me)) := by
  subst eN
  refine ⟨fun pinsY s σY H Q I h => wpAny_Call_Name_kw (ld_glob I hg hm ?_ hdb)⟩
  obtain ⟨β, α, S0, ρY, hR, hE, h⟩ := h
  have h2 : tA (T.er σ ρ) W (aCons me aNil) σY H fun vs HY => ∃ (α1 : List (Option Addr)) (S1 : Sto) (v : V) (j : Nat), Rl (T.er σ ρ) β α1 S1 HY ∧ vs = [v] ∧ Vr (T.er σ ρ) β α1 HY (.lam j none) v ∧ PostG (T.er σ ρ) β W (Vr (T.er σ ρ) β) σY (fnB N.length (b (hlOf mbs ρ)) [.lam j none] S1) α1 HY Q := by
    refine ⟨β, α, S0, ρY, hR, hE, ?_⟩
    have q := PostG.bind (rel := Vr (T.er σ ρ) β) (show PostG (T.er σ ρ) β W (Vr (T.er σ ρ) β) σY ((me ρY S0).bind fun x S1 => match x with
      | .lam i none => fnB N.length (b (hlOf mbs ρ)) [.lam i none] S1
      | _ => .stuck) α H Q from h)
    unfold aCons aNil
    cases z : me ρY S0 with
    | stuck => rw [z] at q; exact q.elim
    | exc c f S1 => rw [z] at q; exact q
    | ok r S1 =>
      rw [z] at q
      intro α1 H1 vs e1 R1 V1
      cases V1 with
      | cons v1 t =>
        cases t with
        | nil =>
          obtain ⟨α1', S1', x', ex, e1', R1', V1', h3⟩ := q α1 H1 _ e1 R1 v1
          cases ex
          split at h3
          · rename_i j
            exact ⟨α1', S1, _, j, R1', rfl, V1', h3⟩
          · exact h3.elim
  refine PySem.W.callWith_K (h₀ := X.base) I.ok.mod.kin hk (thn (ha.run pos pinsY s σY H _ I h2) fun us s1 ⟨vs, HY, I1, rv, q⟩ => ⟨I1.kIn, ?_⟩) he hpl
  obtain ⟨α1, S1, v, j, R1, rfl, V1, h3⟩ := q
  have hl : us.length = ps.length := by rw [← rv.length, hp]; rfl
  have bt := hb s1 us I1.kIn (by rw [List.append_nil]; exact hl)
  rw [List.append_nil] at bt
  refine wpAny_call (codeAny_mono (call_at (args := ⟨us, []⟩) (Q := Q) (E := WE W σY) F S hr I1.env0 bt rv (by rw [hp]; rfl) fun cdv hc hr' => ⟨_, okG σ ρ cdv X.A X.stack s1 HY (WE W σY) hr' (fun pn xe W' tk' p1 p2 => pe_holeB mk I1.base hx hB hr' tk' hN hv hd hcd), ?_⟩) fun r s2 hq => ?_)
  · refine ⟨β, α1, S1, _, R1, er_start (T := T.er σ ρ) (.cons V1 .nil), ?_⟩
    unfold fnB at h3
    generalize hq : b (hlOf mbs ρ) (([R.lam j none] : List R).map some ++ List.replicate (N.length - ([R.lam j none] : List R).length) none) S1 = o at h3 ⊢
    cases o with
    | nx ρ S => exact fun α' H' σ' e r _ => h3 α' H' .non e r .non
    | rt r S => exact h3
    | bk ρ S => exact h3.elim
    | ct ρ S => exact h3.elim
    | exc c f ρ S => exact fun α' H' σ' cls d e r _ q => h3 α' H' cls d e r q
    | stuck => exact h3.elim
  · cases r with
    | error e => exact passAt tk σY pinsY HY s1 e s2 I1 hq
    | ok fl =>
      cases fl with
      | ret u => exact I1.after hq
      | next => exact hq.elim
      | brk => exact hq.elim
      | cont => exact hq.elim
end
end Pev
/-! Pev: [work for work, due in works if G(work) != due]: a comprehension that lets nothing through, its maker known. -/
namespace Pev
open PySem PySem.Spec PyProof.Rows L2
section
variable {X : Cx} {T : Tb} {pins : List (Addr × Obj)} {σ : L2.St} {H : Hp} {s : Shared}
def noTE : TE := fun _ _ _ => False
theorem lc_see {elt tg iter : Expr} {ifs : List Expr} {scope : Scope} {own : List (Str × Nat)} {pos : Pos} {wi : TI} {g : TG} {tt : L2.TT} {Q : VK} (calm : X.calm = true) (nd : X.N.Nodup) (I : Inv X pins σ H s) (hi : PI X tg iter wi) (ok : BlkOk X.N X.env.scope scope own)
    (hg : ∀ (s : Shared) (H : Hp) (C : Addr) (cl : List (Str × Addr)) (fp : List Addr), PG (X.blk s H scope (compEnvC scope cl C X.env) fp) tg g)
    (ht : ∀ (s : Shared) (H : Hp) (C : Addr) (cl : List (Str × Addr)) (fp : List Addr), Mk X σ s H fp → PTs (X.blk s H scope (compEnvC scope cl C X.env) fp) ifs tt)
    (hs : ∀ x, foldedSetIterable iter X.env x = pure x) (h : tLc wi g tt noTE (own.map (·.2)) σ H Q) :
    wpAny (model X.prog X.w) X.A (eval (.ListComp elt [⟨tg, iter, ifs, 0⟩] scope pos) X.env) (EP X pins σ Q) X.xe s := by
  rw [eval_ListComp]
  have cap : ∀ y ∈ scope.names, y.2 = .free → ∃ c, X.env.cells.lookup y.1 = some c := fun y my ey => I.ok.has _ (ok.free y my ey)
  refine wpAny_comprehension_free (use := none) rfl hs (closure_ok cap) ok.kind (fun y my ey => (ok.uniq y my).trans (congrArg some ey)) (thn (hi.run pins s σ H _ I h) fun xv sa wa => thn wa fun itv sb wb => ?_)
  obtain ⟨it, fp, tn, J, Hb, rfl, Ib, tr, tb, fb, run⟩ := wb
  refine wpAny_newObj_type (newEnv_comp ?_) (by show 0 ≤ sizeLine; decide)
  have dNew : Hb sb.heap.objs.size = none := Ib.hok.fresh (Nat.le_refl _)
  obtain ⟨M, ⟨m0, w0⟩, step⟩ := run _ dNew
  -- with the list that is being made
  have old : ∀ b ∈ fp, b < sb.heap.objs.size := fun b hb => let ⟨o, e, _⟩ := tr.obj _ _ tb b hb; Heap.lt_size e
  obtain ⟨sc, esc⟩ : ∃ sc : Shared, sc = { sb with heap := sb.heap.push { cls := .type "list", data := .seq ([] : List Value).toArray } } := ⟨_, rfl⟩
  have psh : ∀ b o, sb.heap.get? b = some o → sc.heap.get? b = some o := fun b o e => by rw [esc]; exact Heap.get?_push_of_some _ e
  have Ic : Inv X pins σ (upd Hb sb.heap.objs.size (.lst [])) sc := by
    rw [esc]
    exact Ib.laid (t' := sb.toks) (fun b o e => Heap.get?_push_of_some _ e) (Nat.le_refl _) ⟨Nat.zero_le _, [], 0, .nil, Heap.get?_push_size _ rfl⟩
  have fc : ∀ b ∈ fp, FpOk X pins (upd Hb sb.heap.objs.size (.lst [])) b ∧ b < sc.heap.objs.size := fun b hb =>
    ⟨⟨(upd_ne (Nat.ne_of_lt (old b hb))).trans (fb b hb).1, (fb b hb).2⟩, by rw [esc, Heap.size_push]; exact Nat.lt_succ_of_lt (old b hb)⟩
  rw [← esc]
  generalize upd Hb sb.heap.objs.size (.lst []) = Hc at Ic fc w0
  have known : Mk X σ sc Hc fp := ⟨pins, Ic, fun b hb => (fc b hb).1⟩
  have Id := block_start Ic ok nd fc
  have dg := hg sc Hc sc.heap.objs.size (cellsFrom (sc.heap.objs.size + 1) scope.names (cloFrom X.env.cells scope.names [])) fp
  have dt := ht sc Hc sc.heap.objs.size (cellsFrom (sc.heap.objs.size + 1) scope.names (cloFrom X.env.cells scope.names [])) fp known
  have tc : tn 0 (pushCells (sc.heap.push { cls := .type "dict", data := .dict #[] }) scope.names) := tr.keep _ _ _ tb fun b _ o e => pushCells_keeps _ _ _ _ (Heap.get?_push_of_some _ (psh b o e))
  show codeAny _ _ (.compStart _ 0 _ _ (compEnvC scope (cellsFrom (sc.heap.objs.size + 1) scope.names (cloFrom X.env.cells scope.names [])) sc.heap.objs.size X.env)) (compPost (model X.prog X.w) X.A X.xe none _ _ sc.heap.objs.size) _
  have loc : (compEnvC scope (cellsFrom (sc.heap.objs.size + 1) scope.names (cloFrom X.env.cells scope.names [])) sc.heap.objs.size X.env).locals = sc.heap.objs.size := rfl
  generalize compEnvC scope (cellsFrom (sc.heap.objs.size + 1) scope.names (cloFrom X.env.cells scope.names [])) sc.heap.objs.size X.env = ce at Id dg dt loc ⊢
  obtain ⟨sd, esd⟩ : ∃ sd : Shared, sd = { sc with heap := pushCells (sc.heap.push { cls := .type "dict", data := .dict #[] }) scope.names } := ⟨_, rfl⟩
  rw [← esd] at Id ⊢
  have td : tn 0 sd.heap := by rw [esd]; exact tc
  have still : ∀ {σ' : L2.St} {H' : Hp} {s' : Shared}, Inv (X.blk sc Hc scope ce fp) [] σ' H' s' → (∀ b ∈ fp, H' b = none) → ∀ b ∈ fp, FpOk (X.blk sc Hc scope ce fp) [] H' b := fun {σ' H' s'} J n b hb =>
    ⟨n b hb, (J.ok.exf b hb).1, J.ok.exfs b hb, .inl hb, (J.ok.exf b hb).2, fun p hp => (List.not_mem_nil (show p ∈ ([] : List (Addr × Obj)) from hp)).elim⟩
  have all : codeAny (model X.prog X.w) X.A (.compLoop (.ListComp elt [⟨tg, iter, ifs, 0⟩] scope pos) 0 (.ref it) (.ref sb.heap.objs.size) ce) (compPost (model X.prog X.w) X.A X.xe none (EP X pins σ Q) (.ref sb.heap.objs.size) sc.heap.objs.size) sd := by
    refine compLoop_any (fun n s' => ∃ i H', Inv (X.blk sc Hc scope ce fp) [] (wipe σ (own.map (·.2))) H' s' ∧ tn i s'.heap ∧ (∀ b ∈ fp, H' b = none) ∧ M i n H') ?_ m0 ⟨0, Hc, Id, td, fun b hb => (fc b hb).1.1, w0⟩
    rintro n s5 ⟨i, H5, I5, t5, n5, w5⟩
    rcases step i n H5 w5 with ⟨stop, q⟩ | ⟨go, Nx, more, item⟩
    · refine thnF (tr.done (X.blk sc Hc scope ce fp) rfl rfl rfl calm i [] s5 _ H5 (fun _ _ => False) I5 (still I5 n5) t5 stop) fun r s6 ⟨er, I6⟩ => ?_
      subst er
      obtain ⟨m, ns, _⟩ := I6.loc
      have ns : s6.heap.Ns ce.locals m := ns
      have nl : H5 ce.locals = none := I6.free
      rw [loc] at ns nl
      have Ie : Inv X pins σ H5 s6 := Ic.call' (ch := fp) I6.os I6.base I6.hok I6.bare fun b hb => by
        obtain ⟨_, g1, _, g3, g4, g5⟩ := (fc b hb).1
        exact ⟨g3, g1, g4, g5⟩
      obtain ⟨g0, g1, g2, g3, g4, g5⟩ := Ic.fpOk (Nat.le_refl _) nl
      exact ⟨m, ns, fun h' sbt => ⟨.ref _, H5, Ie.turned (t' := s6.toks) (fun b o hb e => (sbt.2 b hb).trans e) g0 g1 g3 g4 g5, rfl, q⟩⟩
    · refine thnF (tr.item (X.blk sc Hc scope ce fp) rfl rfl rfl calm i [] s5 _ H5 (fun _ _ => False) I5 (still I5 n5) t5 go) fun r s6 ⟨u, er, w6⟩ => ?_
      subst er
      refine thnF w6 fun _ s7 ⟨x, H7, I7, r7, y7, t7, n7⟩ => ?_
      refine thnF (dg.run _ s7 _ H7 x u _ (I7.pinned (still I7 n7) (tr.obj _ _ t7)) r7 (item x H7 y7)) fun _ s8 ⟨σ8, H8, I8, ew, q8⟩ => ?_
      refine thnF (dt.run _ s8 σ8 H8 _ I8 q8) fun b s9 ⟨H9, I9, q9⟩ => ?_
      cases b with
      | true =>
        rw [if_pos rfl] at q9
        exact q9.elim
      | false =>
        rw [if_neg Bool.false_ne_true] at q9 ⊢
        obtain ⟨m', lt, w'⟩ := more H9 q9
        have back : ∀ b ∈ fp, ∀ o, s7.heap.get? b = some o → s9.heap.get? b = some o ∧ H9 b = none := fun b hb o e => by
          have z := I9.pin (b, o) (List.mem_append_right _ (List.mem_append_right _ (mem_pinsAt hb e)))
          exact ⟨z.1, z.2.1⟩
        refine ⟨m', lt, i + 1, H9, (I9.unpinned (pins := [])).weak (by rw [← ew, wipe_length]) (fun j v e => ?_), tr.keep _ _ _ t7 fun b hb o e => (back b hb o e).1, fun b hb => ?_, w'⟩
        · rw [← ew] at e
          exact (wipe_some e).1
        · obtain ⟨o, e, _⟩ := tr.obj _ _ t7 b hb
          exact (back b hb o e).2
  exact codeAny_compStart_list all (tr.self X.A 0 _ _ _ td all)
end
end Pev
/-! Pev: the comprehension over works. -/
namespace Pev
open PySem PySem.Spec PyProof.Rows L2
section
variable {X : Cx} {T : Tb} {W : WX}
theorem er_at {c : List Addr → List (Option Addr) → Hp → Prop} {cs : ∀ (β : List Addr) (α : List (Option Addr)) (H : Hp) (β' : List Addr) (α' : List (Option Addr)) (H' : Hp), α.length ≤ α'.length → (∀ (k : Nat) (a : Addr), k < α.length → α'[k]? = some (some a) → α[k]? = some (some a)) →
    Same (hid (β ++ live α) H) (hid (β' ++ live α') H') → c β α H → c β' α' H'} {β : List Addr} {α : List (Option Addr)} {H : Hp} {σ : L2.St} {ρ : Rho} (hc : c β α H) (h : Er T β α H σ ρ) : Er (T.at c cs) β α H σ ρ := ⟨h.1, fun i r q => by
  have w := h.2 i r q
  cases r with
  | err c f => exact w
  | dat _ => exact w
  | obj _ => exact w
  | ro _ => exact w
  | lam i f => obtain ⟨u, h1, h2⟩ := w; exact ⟨u, h1, vr_at hc h2⟩⟩
theorem noTE_eq {W : WX} : tE T W (fun _ _ => .stuck) = noTE := by
  funext σ H Q
  exact propext ⟨fun ⟨_, _, _, _, _, _, z⟩ => z, fun z => z.elim⟩
def eLcW (im : IM) (g : GM) (t : (Nat → Sto → Out R) → TM) (mbs : List EM) (vs : List Nat) : EM := fun ρ S => eLc false im g (t (hlOf mbs ρ)) (fun _ _ => .stuck) vs ρ S
theorem tr_lcW {elt tg iter : Expr} {ifs : List Expr} {scope : Scope} {pos : Pos} {im : IM} {g : GM} {t : (Nat → Sto → Out R) → TM} {mbs : List EM} (vs : List (Str × Nat)) (hc : X.calm = true) (hN : X.N.Nodup) (hx : ∀ β α H, T.ctx β α H) (hi : ∀ (σ : L2.St) (ρ : Rho), PI X tg iter (tI (T.er σ ρ) W im)) (ok : BlkOk X.N X.env.scope scope vs)
    (hg : ∀ (σ : L2.St) (ρ : Rho) (s : Shared) (H : Hp) (C : Addr) (cl : List (Str × Addr)) (fp : List Addr), PG (X.blk s H scope (compEnvC scope cl C X.env) fp) tg (tG (T.er σ ρ) (vs.map (·.2)) g))
    (ht : ∀ (σ : L2.St) (ρ : Rho) (s : Shared) (H : Hp) (C : Addr) (cl : List (Str × Addr)) (fp : List Addr), Mk X σ s H fp → PTs (X.blk s H scope (compEnvC scope cl C X.env) fp) ifs (tT (T.er σ ρ) W0 (t (hlOf mbs ρ))))
    (hs : ∀ x, foldedSetIterable iter X.env x = pure x := by intro _; rfl) : PE X (.ListComp elt [⟨tg, iter, ifs, 0⟩] scope pos) (tE T W (eLcW im g t mbs (vs.map (·.2)))) := by
  refine ⟨fun pins s σ H Q I ⟨β, α, S, ρ, hR, hE, h⟩ => lc_see hc hN I (hi σ ρ) ok (hg σ ρ) (ht σ ρ) hs ?_⟩
  have h2 : tE (T.er σ ρ) W (eLc false im g (t (hlOf mbs ρ)) (fun _ _ => .stuck) (vs.map (·.2))) σ H Q := by
    refine ⟨β, α, S, ρ, rl_at hE hR, er_at hE hE, ?_⟩
    unfold eLcW at h
    cases q : eLc false im g (t (hlOf mbs ρ)) (fun _ _ => .stuck) (vs.map (·.2)) ρ S with
    | ok r S1 => rw [q] at h; exact fun α' H' v e R y => h α' H' v e (rl_unat hx R) (vr_unat hx y)
    | exc c f S1 => rw [q] at h; exact fun α' H' cls d e R x => h α' H' cls d e (rl_unat hx R) x
    | stuck => rw [q] at h; exact h.elim
  have h3 := lc_le h2
  rw [noTE_eq] at h3
  exact h3
end
end Pev
/-! Pev: the same, told for the lambdas that are about. -/
namespace Pev
open PySem PySem.Spec PyProof.Rows L2
open LamX (LamS)
section
variable {X : Cx} {T : Tb} {W : WX} {ls : List LamI} {P : Program} {w : World} {K : PySem.W.Frag} {mg : Str → Option Value} {base : Heap}
theorem tr_lcallBL {ρ : Rho} {σ : L2.St} {s0 : Shared} {H1 : Hp} {scB : Scope} {ce : PySem.Env} {fp : List Addr} {x qual a : Str} {p pos : Pos} {e : Expr} {me : EM} {st : Stmt} {gA : Addr} {fd : FuncData} {N ps : List Str} {k nN i : Nat} (b : (Nat → Sto → Out R) → SM) {mbs : List EM}
    (okG : ∀ (ls : List LamI) (σ : L2.St) (ρ : Rho) (hl : Nat → Sto → Out R) (cdv : Value) (A : Around) (outer : List PySem.Env) (s : Shared) (H : Hp) (E : XK), RoomG (k + 1) (A.deeper (envOfC qual (defScope st) s.heap.objs.size gA cdv)) →
      (∀ (pn : List (Addr × Obj)) (xe : Value → Shared → Prop) (W' : WX), Takes ((cxOf (L2.CX P w) P w K mg base N qual (defScope st) gA cdv A outer s H E).tr pn xe) W' → ∀ p1 p2 : Pos,
        PE ((cxOf (L2.CX P w) P w K mg base N qual (defScope st) gA cdv A outer s H E).tr pn xe) (.Call (.Name a p1) [] [] p2) (tE ((T.lam ls).er σ ρ) W' (eWork i hl))) →
      PSs (cxOf (L2.CX P w) P w K mg base N qual (defScope st) gA cdv A outer s H E) (defBody st) (tS ((T.lam ls).er σ ρ) (fun cls d _ H' => E cls d H') (b hl)))
    (hP : X.prog = P) (hw : X.w = w) (hK : X.K = K) (hmg : X.mg = mg) (hba : X.base = base)
    (mk : Mk X σ s0 H1 fp) (F : L2.Fun K x qual st gA fd) (S : FnScope N ps (defScope st)) (hp : ps.length = 1) (eN : N.length = nN) (hx : ∀ β α H, T.ctx β α H) (hB : LamBs X (T.lam ls) k ls mbs) (hr : RoomG (k + 2) X.A) (hg : Gl (X.blk s0 H1 scB ce fp) x) (hm : X.mg x = some (.ref gA)) (hk : PySem.W.keepIn K (.ref gA) = true) (hb : Binds K fd ps [])
    (tk : Takes (X.blk s0 H1 scB ce fp) W) (hN : N[i]? = some a) (hv : Vis (defScope st) a)
    (ha : PA (X.blk s0 H1 scB ce fp) [e] (tA ((T.lam ls).er σ ρ) W (aCons me aNil))) (hd : (a == ("__debug__" : Str)) = false := by decide) (hcd : (a == ("__classdict__" : Str)) = false := by decide) (hdb : (x == ("__debug__" : Str)) = false := by decide)
    (he : starEach [e] (X.blk s0 H1 scB ce fp).env = (false, eval e (X.blk s0 H1 scB ce fp).env) :: starEach [] (X.blk s0 H1 scB ce fp).env := by rfl) (hpl : (backTo pos (starEach [] (X.blk s0 H1 scB ce fp).env)).any (·.1) = false := by rfl) :
    PE (X.blk s0 H1 scB ce fp) (.Call (.Name x p) [e] [] pos) (tE ((T.lam ls).er σ ρ) W (eLCallB (fnB nN (b (hlOf mbs ρ))) me)) := by
  subst hP hw hK hmg hba
  exact tr_lcallB (T := T.lam ls) mk F S hp eN hx hB hr hg hm hk hb tk hN hv (fun σ ρ cdv A outer s H E => okG ls σ ρ (hlOf mbs ρ) cdv A outer s H E) ha hd hcd hdb he hpl
end
end Pev
/-! Pev: list(x) of a text too. -/
namespace PySem
open Sem (wp)
section
variable {prog : Program} {w : World} {A : Around} {E : Value → Shared → Prop} {s : Shared}
end
end PySem
namespace Pev
open PySem PySem.Spec
open PyProof.Rows L2
end Pev
/-! Pev: sorted(t) of a tuple of ints too. -/
namespace Pev
open PySem PySem.Spec PyProof.Rows L2
def rSortedTI (K : PySem.W.Frag) : List V → Hp → VK → Prop := fun vs H Q => ∃ (a : Addr) (ns : List Int), vs = [V.ref a] ∧ SqT K H a (ns.map V.int) ∧
  ∀ (ns' : List Int) (p : Addr), ns'.Perm ns → ns'.Pairwise (· ≤ ·) → H p = none → Q (.ref p) (upd H p (.lst (ns'.map V.int)))
theorem cr_sortedTI {X : Cx} : CallR X (.builtin "sorted") (rSortedTI X.K) := by
  intro pins s σ H vs us Q I r h
  obtain ⟨a, ns, rfl, hs, q⟩ := h
  obtain ⟨its, rv, hl, hz⟩ := I.tuple hs
  rw [Vals.ref1 r]
  have hi := rv.ints
  have hzi : its.length ≤ sizeLine := by rw [← rv.length]; exact hz
  have at1 := PySem.W.copyHeap_at s.heap its
  refine sorted_tup hl hzi (args_sorted1 _) (fun x => PyProof.Rows.args_list_sort _) fun E' => ?_
  refine SrtO.list_sort_ord SrtO.swo_int at1 hzi (fun h2 => SrtO.ints_sortable hi h2) fun out h1 h2 => ⟨rfl, ?_⟩
  obtain ⟨k1, k2, k3⟩ := SrtO.ints_out hi h1 h2
  obtain ⟨ep, he'⟩ := PyProof.Rows.sortedHeap_at (vs := its) (out := out.toArray) at1
  have hlen : ((out.map SrtO.iv).map V.int).length ≤ sizeLine := by
    rw [List.length_map, k2.length_eq]
    rw [List.length_map] at hz
    exact hz
  exact ⟨.ref _, upd H (s.heap.objs.size + 1) (.lst ((out.map SrtO.iv).map V.int)), I.laid (t' := s.toks) (fun b u hb => by
    have lt := Heap.lt_size hb
    rw [PyProof.Rows.sortedHeap_old (Nat.ne_of_lt (Nat.lt_succ_of_lt lt)) (Nat.lt_of_lt_of_le (Nat.lt_succ_of_lt lt) (Nat.le_of_lt (Heap.lt_size at1)))]
    exact PySem.W.copyHeap_old hb) (Nat.le_succ _) ⟨hlen, out, ep, vals_of_ints k1, he'⟩, rfl, q _ _ k2 k3 (I.hok.fresh (Nat.le_succ _))⟩
theorem cr_sortedIU {X : Cx} : CallR X (.builtin "sorted") (fun xs H Q => rSortedI X.K xs H Q ∨ rSortedTI X.K xs H Q) := by
  intro pins s σ H xs us Q I r h
  rcases h with h | h
  · exact cr_sortedI pins s σ H xs us Q I r h
  · exact cr_sortedTI pins s σ H xs us Q I r h
/-- sorted(x), a list or a tuple of ints -/
def gSortedIU (own : Bool) (xs : List R) (S : Sto) : Out R := match xs with
  | [.dat (.tuple ds)] => (match ints? (ds.map .dat) with
    | some ns => newL own ((sortI ns).map fun i => .dat (.int i)) S
    | none => .stuck)
  | xs => gSortedI own xs S
theorem snd_sortedIU {T : Tb} (own : Bool) : SndA T (fun xs H Q => rSortedI T.K xs H Q ∨ rSortedTI T.K xs H Q) (gSortedIU own) := by
  intro β W σ α S H xs vs Q Rr hx h
  unfold gSortedIU at h
  split at h
  · rename_i ds
    obtain ⟨v, rfl, hv⟩ := vrs1 hx
    obtain ⟨a, ws, rfl, h1, h2⟩ := tv_ok (ds := ds) hv rfl
    cases e : ints? (ds.map .dat) with
    | none => rw [e] at h; exact h.elim
    | some ns =>
      rw [e] at h
      have e3 := ints_ok (DqAll.vrs h2) e
      subst e3
      refine .inr ⟨a, ns, rfl, h1, fun ns' p hp hs hn => ?_⟩
      have e4 : ns' = sortI ns := sorted_one (hp.trans (sortI_perm ns).symm) hs (sortI_sorted ns)
      subst e4
      exact newL_ok Rr hn (vrs_ints _) h
  · exact .inl (snd_sortedI own β W σ α S H _ vs Q Rr hx h)
end Pev
namespace Lw
open PySem PySem.Spec PyProof.Rows L2 Pev
theorem sc_is_integer : FnScope ["value"] ["value"] (defScope s_is_integer) := ⟨rfl, rfl, rfl, by decide +kernel, rfl, by decide +kernel, by decide +kernel⟩
theorem sc_need_many : FnScope ["value", "word", "least"] ["value", "word", "least"] (defScope s_need_many) := ⟨rfl, rfl, rfl, by decide +kernel, rfl, by decide +kernel, by decide +kernel⟩
theorem sc_is_number : FnScope ["value"] ["value"] (defScope s_is_number) := ⟨rfl, rfl, rfl, by decide +kernel, rfl, by decide +kernel, by decide +kernel⟩
theorem sc_is_sequence : FnScope ["value"] ["value"] (defScope s_is_sequence) := ⟨rfl, rfl, rfl, by decide +kernel, rfl, by decide +kernel, by decide +kernel⟩
theorem sc_are_unlike : FnScope ["values", "at", "value"] ["values"] (defScope s_are_unlike) := ⟨rfl, rfl, rfl, by decide +kernel, rfl, by decide +kernel, by decide +kernel⟩
theorem sc_need_marks : FnScope ["value", "at", "mark"] ["value", "at"] (defScope s_need_marks) := ⟨rfl, rfl, rfl, by decide +kernel, rfl, by decide +kernel, by decide +kernel⟩
theorem sc_kept_of : FnScope ["row", "near"] ["row", "near"] (defScope s_kept_of) := ⟨rfl, rfl, rfl, by decide +kernel, rfl, by decide +kernel, by decide +kernel⟩
theorem sc_first_marks : FnScope ["order", "lot", "near", "marks", "mark"] ["order", "lot", "near"] (defScope s_first_marks) := ⟨rfl, rfl, rfl, by decide +kernel, rfl, by decide +kernel, by decide +kernel⟩
theorem sc_lots_apart : FnScope ["one", "other", "mark"] ["one", "other"] (defScope s_lots_apart) := ⟨rfl, rfl, rfl, by decide +kernel, rfl, by decide +kernel, by decide +kernel⟩
theorem sc_is_pair : FnScope ["value"] ["value"] (defScope s_is_pair) := ⟨rfl, rfl, rfl, by decide +kernel, rfl, by decide +kernel, by decide +kernel⟩
theorem sc_need_kept_rows : FnScope ["value", "rows", "at", "row", "lot", "kept", "one", "marks", "mark"] ["value"] (defScope s_need_kept_rows) := ⟨rfl, rfl, rfl, by decide +kernel, rfl, by decide +kernel, by decide +kernel⟩
theorem sc_keeping_paper : FnScope ["rows", "near", "one", "other", "lot", "kept", "marks", "others", "mark"] ["rows", "near"] (defScope s_keeping_paper) := ⟨rfl, rfl, rfl, by decide +kernel, rfl, by decide +kernel, by decide +kernel⟩
theorem sc__law_box : FnScope ["script", "k", "cell"] ["script", "k"] (defScope s__law_box) := ⟨rfl, rfl, rfl, by decide +kernel, rfl, by decide +kernel, by decide +kernel⟩
theorem sc__law_take : FnScope ["box", "many", "digit", "raw"] ["box", "many"] (defScope s__law_take) := ⟨rfl, rfl, rfl, by decide +kernel, rfl, by decide +kernel, by decide +kernel⟩
theorem sc__law_mixed : FnScope ["box", "some", "left", "row", "turn"] ["box", "some"] (defScope s__law_mixed) := ⟨rfl, rfl, rfl, by decide +kernel, rfl, by decide +kernel, by decide +kernel⟩
theorem sc__law_apart : FnScope ["one", "other", "mark"] ["one", "other"] (defScope s__law_apart) := ⟨rfl, rfl, rfl, by decide +kernel, rfl, by decide +kernel, by decide +kernel⟩
theorem sc__law_common : FnScope ["one", "other", "thing"] ["one", "other"] (defScope s__law_common) := ⟨rfl, rfl, rfl, by decide +kernel, rfl, by decide +kernel, by decide +kernel⟩
theorem sc__law_kept : FnScope ["order", "lot", "near", "found", "seen", "mark"] ["order", "lot", "near"] (defScope s__law_kept) := ⟨rfl, rfl, rfl, by decide +kernel, rfl, by decide +kernel, by decide +kernel⟩
theorem sc__law_parts : FnScope ["marks", "found", "mark", "part"] ["marks"] (defScope s__law_parts) := ⟨rfl, rfl, rfl, by decide +kernel, rfl, by decide +kernel, by decide +kernel⟩
theorem sc__law_missed : FnScope ["rows", "near", "at", "behind", "lot", "kept", "marks", "others"] ["rows", "near"] (defScope s__law_missed) := ⟨rfl, rfl, rfl, by decide +kernel, rfl, by decide +kernel, by decide +kernel⟩
theorem sc__law_pick : FnScope ["box", "some"] ["box", "some"] (defScope s__law_pick) := ⟨rfl, rfl, rfl, by decide +kernel, rfl, by decide +kernel, by decide +kernel⟩
theorem sc__law_refused : FnScope ["work", "e"] ["work"] (defScope s__law_refused) := ⟨rfl, rfl, rfl, by decide +kernel, rfl, by decide +kernel, by decide +kernel⟩
theorem sc__law_errors : FnScope ["box", "order", "rows", "wrong", "near", "bad", "works", "work", "due"] ["box", "order", "rows"] (defScope s__law_errors) := ⟨rfl, rfl, rfl, by decide +kernel, rfl, by decide +kernel, by decide +kernel⟩
theorem sc_law : FnScope ["script", "k", "box", "order", "near", "told", "turn", "lot", "given", "row", "kept", "marks", "others", "rows", "is_whole", "part", "paper", "mark"] ["script"] (defScope s_law) := ⟨rfl, rfl, rfl, by decide +kernel, rfl, by decide +kernel, by decide +kernel⟩
/-! ### the mirrors -/
def b_is_integer : SM := (sRet (eAnd (eUn (uIs [.int]) (eVar 0)) (eNot (eUn (uIs [.bl]) (eVar 0)))))
def m_is_integer : FM := fnB 1 b_is_integer
def b_need_many : SM := (sCons (sIf (mOr (mNot (mT (eArgs (needN 1 (pureF m_is_integer)) (aCons (eVar 0) aNil)))) (mB (eBin bLt (eVar 0) (eVar 2)))) (sRaise 1 (eVar 1)) sSkip)
    (sRet (eVar 0)))
def m_need_many : FM := fnB 3 b_need_many
def b_is_number : SM := (sRet (eAnd (eArgs (needN 1 (pureF m_is_integer)) (aCons (eVar 0) aNil)) (eBin bGe (eVar 0) (eC (.int 0)))))
def m_is_number : FM := fnB 1 b_is_number
def b_is_sequence : SM := (sRet (eUn (uIs [.lst, .tup]) (eVar 0)))
def m_is_sequence : FM := fnB 1 b_is_sequence
def b_are_unlike : SM := (sRet (eArgs gAll (aCons (eLc false (iArgs gEnumU (aCons (eVar 0) aNil)) (gTp 2 (gsCons (gN 1) (gsCons (gN 2) gsNil))) tYes' (eBin (bIn true) (eVar 2) (eSl false (eVar 0) none (some (eVar 1)))) [1, 2]) aNil)))
def m_are_unlike : FM := fnB 3 b_are_unlike
def b_need_marks : SM := (sCons (sIf (mOr (mNot (mT (eArgs (needN 1 (pureF m_is_sequence)) (aCons (eVar 0) aNil)))) (mOr (mNot (mT (eArgs gAll (aCons (eLc false (iOf (eVar 0)) (gN 2) tYes' (eArgs (needN 1 (pureF m_is_number)) (aCons (eVar 2) aNil)) [2]) aNil)))) (mNot (mT (eArgs (needN 1 (pureF m_are_unlike)) (aCons (eArgs (gList false) (aCons (eVar 0) aNil)) aNil)))))) (sRaise 0 (eVar 1)) sSkip)
    (sRet (eArgs gTuple (aCons (eArgs (gSortedIU false) (aCons (eVar 0) aNil)) aNil))))
def m_need_marks : FM := fnB 3 b_need_marks
def b_kept_of : SM := (sRet (eBin (bAdd false) (eArgs gTuple (aCons (eSl false (eVar 0) none (some (eBin (bAdd false) (eVar 1) (eC (.int 1))))) aNil)) (eIf (mB (eBin bLe (eArgs gLen (aCons (eVar 0) aNil)) (eVar 1))) (eArgs gTup (aCons (eC (.none)) aNil)) (eArgs gTup aNil))))
def m_kept_of : FM := fnB 2 b_kept_of
def b_first_marks : SM := (sCons (sExpr (eArgs (needN 2 (pureF m_need_marks)) (aCons (eVar 0) (aCons (eC (.int 0)) aNil))))
    (sCons (sSet 3 (eArgs (needN 2 (pureF m_need_marks)) (aCons (eVar 1) (aCons (eC (.int 1)) aNil))))
    (sCons (sIf (mNot (mT (eArgs gAll (aCons (eLc false (iOf (eVar 3)) (gN 4) tYes' (eBin (bIn false) (eVar 4) (eVar 0)) [4]) aNil)))) (sRaise 0 (eC (.int 1))) sSkip)
    (sCons (sExpr (eArgs (fun rs => needN 3 (pureF m_need_many) (rs ++ [.int 0].map .dat)) (aCons (eVar 2) (aCons (eC (.str "near")) aNil))))
    (sRet (eArgs (needN 2 (pureF m_kept_of)) (aCons (eLc false (iOf (eVar 0)) (gN 4) (mB (eBin (bIn false) (eVar 4) (eVar 3))) (eVar 4) [4]) (aCons (eVar 2) aNil))))))))
def m_first_marks : FM := fnB 5 b_first_marks
def b_lots_apart : SM := (sRet (eBin (bAdd false) (eArgs gLen (aCons (eLc false (iOf (eVar 0)) (gN 2) (mB (eBin (bIn true) (eVar 2) (eVar 1))) (eVar 2) [2]) aNil)) (eArgs gLen (aCons (eLc false (iOf (eVar 1)) (gN 2) (mB (eBin (bIn true) (eVar 2) (eVar 0))) (eVar 2) [2]) aNil))))
def m_lots_apart : FM := fnB 3 b_lots_apart
def b_is_pair : SM := (sRet (eAnd (eArgs (needN 1 (pureF m_is_sequence)) (aCons (eVar 0) aNil)) (eBin (bEq false) (eArgs gLen (aCons (eVar 0) aNil)) (eC (.int 2)))))
def m_is_pair : FM := fnB 1 b_is_pair
def b_need_kept_rows : SM := (sCons (sIf (mNot (mT (eArgs (needN 1 (pureF m_is_sequence)) (aCons (eVar 0) aNil)))) (sRaise 0 (eUn uNeg (eC (.int 1)))) sSkip)
    (sCons (sSet 1 (eArgs (gLst true) aNil))
    (sCons (sFor (iArgs gEnumU (aCons (eVar 0) aNil)) (gTp 2 (gsCons (gN 2) (gsCons (gN 3) gsNil))) (sCons (sIf (mNot (mT (eArgs (needN 1 (pureF m_is_pair)) (aCons (eVar 3) aNil)))) (sRaise 0 (eVar 2)) sSkip)
    (sCons (sPar2 4 5 (aCons (eArgs (needN 2 (pureF m_need_marks)) (aCons (eBin bIx (eVar 3) (eC (.int 0))) (aCons (eVar 2) aNil))) (aCons (eArgs (needN 2 (pureF m_need_marks)) (aCons (eBin bIx (eVar 3) (eC (.int 1))) (aCons (eVar 2) aNil))) aNil)))
    (sCons (sIf (mOr (mNot (mT (eArgs gAll (aCons (eLc false (iOf (eVar 5)) (gN 8) tYes' (eBin (bIn false) (eVar 8) (eVar 4)) [8]) aNil)))) (mB (eBin (bIn false) (eVar 4) (eLc false (iOf (eVar 1)) (gTp 2 (gsCons (gN 6) (gsCons (gN 7) gsNil))) tYes' (eVar 6) [6, 7])))) (sRaise 0 (eVar 2)) sSkip)
    (sExpr (eBMl gAppend (eVar 1) (aCons (eArgs gTup (aCons (eVar 4) (aCons (eVar 5) aNil))) aNil)))))))
    (sRet (eVar 1)))))
def m_need_kept_rows : FM := fnB 9 b_need_kept_rows
def b_keeping_paper : SM := (sCons (sSet 0 (eArgs (needN 1 (pureF m_need_kept_rows)) (aCons (eVar 0) aNil)))
    (sCons (sExpr (eArgs (fun rs => needN 3 (pureF m_need_many) (rs ++ [.int 0].map .dat)) (aCons (eVar 1) (aCons (eC (.str "near")) aNil))))
    (sCons (sFor (iArgs gRange1 (aCons (eArgs gLen (aCons (eVar 0) aNil)) aNil)) (gN 2) (sFor (iArgs gRange2 (aCons (eVar 2) (aCons (eArgs gLen (aCons (eVar 0) aNil)) aNil))) (gN 3) (sCons (sTgt (gTp 2 (gsCons (gTp 2 (gsCons (gN 4) (gsCons (gN 5) gsNil))) (gsCons (gTp 2 (gsCons (gN 6) (gsCons (gN 7) gsNil))) gsNil))) (eArgs gTup (aCons (eBin bIx (eVar 0) (eVar 2)) (aCons (eBin bIx (eVar 0) (eVar 3)) aNil))))
    (sIf (mAnd (mB (eBin bLe (eArgs (needN 2 (pureF m_lots_apart)) (aCons (eVar 4) (aCons (eVar 6) aNil))) (eVar 1))) (mT (eArgs gAny (aCons (eLc false (iOf (eVar 4)) (gN 8) tYes' (eBin (bIn false) (eVar 8) (eVar 6)) [8]) aNil)))) (sIf (mNot (mT (eArgs gAny (aCons (eLc false (iOf (eVar 5)) (gN 8) tYes' (eBin (bIn false) (eVar 8) (eVar 7)) [8]) aNil)))) (sRet (eArgs gTup (aCons (eC (.str "missed")) (aCons (eVar 2) (aCons (eVar 3) aNil))))) sSkip) sSkip))))
    (sRet (eArgs gTup (aCons (eC (.str "kept")) aNil))))))
def m_keeping_paper : FM := fnB 9 b_keeping_paper
def b__law_box : SM := (sCons (sSet 2 (eBin (bAdd false) (eBin (bMul false) (eC (.int 7919)) (eVar 1)) (eC (.int 401))))
    (sCons (sIf (mB (eBin bLt (eVar 1) (eArgs gLen (aCons (eVar 0) aNil)))) (sSet 2 (eArgs gAbs (aCons (eBin bIx (eVar 0) (eVar 1)) aNil))) (sIf (mB (eBin bGt (eArgs gLen (aCons (eVar 0) aNil)) (eC (.int 0)))) (sSet 2 (eBin (bAdd false) (eVar 2) (eBin (bMul false) (eBin bMod (eArgs gInt (aCons (eArgs gAbs (aCons (eBin bIx (eVar 0) (eBin bMod (eArgs gInt (aCons (eVar 1) aNil)) (eArgs gLen (aCons (eVar 0) aNil)))) aNil)) aNil)) (eC (.int 2147483629))) (eC (.int 50021))))) sSkip))
    (sRet (eArgs (gLst true) (aCons (eBin bIx (eArgs (gLst false) (aCons (eC (.int 0)) (aCons (eVar 2) aNil))) (eArgs gInt (aCons (eBin bGe (eVar 2) (eBin bPow (eC (.int 10)) (eC (.int 18)))) aNil))) (aCons (eBin (bAdd false) (eBin bMod (eArgs gInt (aCons (eBin (bAdd false) (eBin (bMul false) (eBin bMod (eArgs gInt (aCons (eVar 2) aNil)) (eC (.int 2147483629))) (eC (.int 38377))) (eBin (bMul false) (eC (.int 71129)) (eVar 1))) aNil)) (eC (.int 2147483629))) (eC (.int 1))) (aCons (eC (.int 0)) aNil)))))))
def m__law_box : FM := fnB 3 b__law_box
def b__law_take : SM := (sCons (sIf (mB (eBin bGt (eBin bIx (eVar 0) (eC (.int 0))) (eC (.int 0)))) (sCons (sSet 2 (eBin bMod (eArgs gInt (aCons (eBin bIx (eVar 0) (eC (.int 0))) aNil)) (eVar 1)))
    (sCons (sPut (eVar 0) (eC (.int 0)) (eBin bDiv (eBin bIx (eVar 0) (eC (.int 0))) (eVar 1)))
    (sRet (eVar 2)))) sSkip)
    (sCons (sPut (eVar 0) (eC (.int 2)) (eBin (bAdd false) (eBin bIx (eVar 0) (eC (.int 2))) (eC (.int 1))))
    (sCons (sSet 3 (eBin bMod (eArgs gInt (aCons (eBin (bAdd false) (eBin (bMul false) (eBin (bAdd false) (eBin bIx (eVar 0) (eC (.int 1))) (eBin (bMul false) (eC (.int 90007)) (eBin bIx (eVar 0) (eC (.int 2))))) (eC (.int 58217))) (eC (.int 43))) aNil)) (eC (.int 2147483563))))
    (sCons (sPut (eVar 0) (eC (.int 1)) (eBin (bAdd false) (eBin bMod (eArgs gInt (aCons (eBin (bAdd false) (eBin (bMul false) (eVar 3) (eC (.int 40289))) (eC (.int 27367))) aNil)) (eC (.int 2147483629))) (eC (.int 1))))
    (sRet (eBin bMod (eArgs gInt (aCons (eBin bDiv (eBin (bAdd false) (eBin (bMul false) (eVar 3) (eC (.int 2147483647))) (eBin bIx (eVar 0) (eC (.int 1)))) (eC (.int 8191))) aNil)) (eVar 1)))))))
def m__law_take : FM := fnB 4 b__law_take
def b__law_mixed : SM := (sCons (sPar2 2 3 (aCons (eArgs (gList true) (aCons (eVar 1) aNil)) (aCons (eArgs (gLst true) aNil) aNil)))
    (sCons (sFor (iArgs gRange1 (aCons (eArgs gLen (aCons (eVar 1) aNil)) aNil)) (gN 4) (sExpr (eBMl gAppend (eVar 3) (aCons (eBMl gPopI (eVar 2) (aCons (eArgs (needN 2 m__law_take) (aCons (eVar 0) (aCons (eArgs gLen (aCons (eVar 2) aNil)) aNil))) aNil)) aNil))))
    (sRet (eVar 3))))
def m__law_mixed : FM := fnB 5 b__law_mixed
def b__law_apart : SM := (sRet (eBin (bAdd false) (eArgs gLen (aCons (eLc false (iOf (eVar 0)) (gN 2) (mB (eBin (bIn true) (eVar 2) (eVar 1))) (eVar 2) [2]) aNil)) (eArgs gLen (aCons (eLc false (iOf (eVar 1)) (gN 2) (mB (eBin (bIn true) (eVar 2) (eVar 0))) (eVar 2) [2]) aNil))))
def m__law_apart : FM := fnB 3 b__law_apart
def b__law_common : SM := (sRet (eBin (bEq true) (eLc false (iOf (eVar 0)) (gN 2) (mB (eBin (bIn false) (eVar 2) (eVar 1))) (eVar 2) [2]) (eArgs (gLst false) aNil)))
def m__law_common : FM := fnB 3 b__law_common
def b__law_kept : SM := (sCons (sPar2 3 4 (aCons (eArgs (gLst true) aNil) (aCons (eC (.int 0)) aNil)))
    (sCons (sFor (iOf (eVar 0)) (gN 5) (sIf (mB (eBin (bIn false) (eVar 5) (eVar 1))) (sCons (sIf (mB (eBin bLe (eVar 4) (eVar 2))) (sExpr (eBMl gAppend (eVar 3) (aCons (eVar 5) aNil))) sSkip)
    (sSet 4 (eBin (bAdd false) (eVar 4) (eC (.int 1))))) sSkip))
    (sRet (eArgs gTuple (aCons (eBin (bAdd false) (eVar 3) (eBin (bMul false) (eArgs (gLst false) (aCons (eC (.none)) aNil)) (eArgs gInt (aCons (eBin bLe (eVar 4) (eVar 2)) aNil)))) aNil)))))
def m__law_kept : FM := fnB 6 b__law_kept
def b__law_parts : SM := (sCons (sSet 1 (eArgs (gLst false) (aCons (eArgs gTup aNil) aNil)))
    (sCons (sFor (iOf (eVar 0)) (gN 2) (sSet 1 (eBin (bAdd false) (eVar 1) (eLc false (iOf (eVar 1)) (gN 3) tYes' (eBin (bAdd false) (eVar 3) (eArgs gTup (aCons (eVar 2) aNil))) [3]))))
    (sRet (eSl false (eVar 1) (some (eC (.int 1))) none))))
def m__law_parts : FM := fnB 4 b__law_parts
def b__law_missed : SM := (sCons (sFor (iArgs gRange1 (aCons (eArgs gLen (aCons (eVar 0) aNil)) aNil)) (gN 2) (sFor (iArgs gRange2 (aCons (eVar 2) (aCons (eArgs gLen (aCons (eVar 0) aNil)) aNil))) (gN 3) (sCons (sTgt (gTp 2 (gsCons (gTp 2 (gsCons (gN 4) (gsCons (gN 5) gsNil))) (gsCons (gTp 2 (gsCons (gN 6) (gsCons (gN 7) gsNil))) gsNil))) (eArgs gTup (aCons (eBin bIx (eVar 0) (eVar 2)) (aCons (eBin bIx (eVar 0) (eVar 3)) aNil))))
    (sIf (mAnd (mB (eBin bLe (eArgs (needN 2 (pureF m__law_apart)) (aCons (eVar 4) (aCons (eVar 6) aNil))) (eVar 1))) (mAnd (mT (eArgs (needN 2 (pureF m__law_common)) (aCons (eVar 4) (aCons (eVar 6) aNil)))) (mNot (mT (eArgs (needN 2 (pureF m__law_common)) (aCons (eVar 5) (aCons (eVar 7) aNil))))))) (sRet (eArgs gTup (aCons (eC (.str "missed")) (aCons (eVar 2) (aCons (eVar 3) aNil))))) sSkip))))
    (sRet (eArgs gTup (aCons (eC (.str "kept")) aNil))))
def m__law_missed : FM := fnB 8 b__law_missed
def b__law_pick : SM := (sRet (eBin bIx (eVar 1) (eArgs (needN 2 m__law_take) (aCons (eVar 0) (aCons (eArgs gLen (aCons (eVar 1) aNil)) aNil)))))
def m__law_pick : FM := fnB 2 b__law_pick
def b__law_refused (hl : Nat → Sto → Out R) : SM := (sCons (sTry (sExpr (eWork 0 hl)) [⟨[true, false], some 1, (sRet (eArgs gTup (aCons (eC (.str "lot")) (aCons (eFld [0] 1) aNil))))⟩, ⟨[false, true], some 1, (sRet (eArgs gTup (aCons (eC (.str "size")) (aCons (eFld [1] 1) aNil))))⟩])
    (sRet (eC (.none))))
def lb__law_errors_0 : List EM := [(eArgs (needN 3 (pureF m_first_marks)) (aCons (eVar 3) (aCons (eC (.none)) (aCons (eC (.none)) aNil)))), (eArgs (needN 3 (pureF m_first_marks)) (aCons (eVar 1) (aCons (eVar 3) (aCons (eC (.none)) aNil)))), (eArgs (needN 3 (pureF m_first_marks)) (aCons (eVar 1) (aCons (eArgs (gLst false) (aCons (eBin (bAdd false) (eArgs (gBest bestMax) (aCons (eVar 1) aNil)) (eC (.int 1))) aNil)) (aCons (eC (.int 0)) aNil)))), (eArgs (needN 3 (pureF m_first_marks)) (aCons (eVar 1) (aCons (eVar 1) (aCons (eVar 4) aNil)))), (eArgs (needN 2 (pureF m_keeping_paper)) (aCons (eArgs (needN 2 m__law_pick) (aCons (eVar 0) (aCons (eArgs (gLst false) (aCons (eC (.none)) (aCons (eC (.int 3)) (aCons (eC (.str "ab")) aNil)))) aNil))) (aCons (eC (.int 0)) aNil))), (eArgs (needN 2 (pureF m_keeping_paper)) (aCons (eBin (bAdd false) (eVar 2) (eArgs (gLst false) (aCons (eVar 5) (aCons (eC (.none)) aNil)))) (aCons (eC (.none)) aNil))), (eArgs (needN 2 (pureF m_keeping_paper)) (aCons (eVar 2) (aCons (eVar 4) aNil)))]
def b__law_errors : SM := (sCons (sSet 3 (eArgs (needN 2 m__law_pick) (aCons (eVar 0) (aCons (eArgs (gLst false) (aCons (eC (.none)) (aCons (eC (.int 5)) (aCons (eC (.str "12")) (aCons (eArgs gTup (aCons (eC (.int 1)) (aCons (eC (.int 1)) aNil))) (aCons (eArgs (gLst false) (aCons (eBin bSub (eC (.int 0)) (eC (.int 1))) aNil)) (aCons (eArgs gTup (aCons (eC (.bool true)) aNil)) (aCons (eArgs (gLst false) (aCons (eArgs (gLst false) (aCons (eC (.int 0)) aNil)) aNil)) aNil)))))))) aNil))))
    (sCons (sSet 4 (eArgs (needN 2 m__law_pick) (aCons (eVar 0) (aCons (eArgs (gLst false) (aCons (eC (.none)) (aCons (eC (.bool true)) (aCons (eBin bSub (eC (.int 0)) (eC (.int 1))) (aCons (eC (.str "1")) aNil))))) aNil))))
    (sCons (sSet 5 (eArgs (needN 2 m__law_pick) (aCons (eVar 0) (aCons (eArgs (gLst false) (aCons (eC (.none)) (aCons (eArgs gTup (aCons (eC (.int 1)) aNil)) (aCons (eArgs gTup (aCons (eArgs gTup (aCons (eC (.int 0)) aNil)) (aCons (eArgs gTup (aCons (eC (.int 1)) aNil)) aNil))) (aCons (eArgs gTup (aCons (eArgs gTup (aCons (eC (.int 1)) (aCons (eC (.int 1)) aNil))) (aCons (eArgs gTup aNil) aNil))) (aCons (eBin bIx (eVar 2) (eC (.int 0))) (aCons (eArgs gTup (aCons (eArgs gTup (aCons (eC (.int 0)) aNil)) (aCons (eC (.none)) aNil))) (aCons (eArgs gTup (aCons (eArgs gTup (aCons (eC (.int 0)) aNil)) (aCons (eArgs gTup (aCons (eC (.int 0)) aNil)) (aCons (eC (.int 0)) aNil)))) aNil)))))))) aNil))))
    (sLam (sCons (sSet 6 (eArgs (gLst true) (aCons (eArgs gTupL (aCons (eLam 0) (aCons (eArgs gTup (aCons (eC (.str "lot")) (aCons (eC (.int 0)) aNil))) aNil))) aNil)))
    (sCons (sExpr (eBMl gAppend (eVar 6) (aCons (eArgs gTupL (aCons (eLam 1) (aCons (eArgs gTup (aCons (eC (.str "lot")) (aCons (eC (.int 1)) aNil))) aNil))) aNil)))
    (sCons (sExpr (eBMl gAppend (eVar 6) (aCons (eArgs gTupL (aCons (eLam 2) (aCons (eArgs gTup (aCons (eC (.str "lot")) (aCons (eC (.int 1)) aNil))) aNil))) aNil)))
    (sCons (sExpr (eBMl gAppend (eVar 6) (aCons (eArgs gTupL (aCons (eLam 3) (aCons (eArgs gTup (aCons (eC (.str "size")) (aCons (eC (.str "near")) aNil))) aNil))) aNil)))
    (sCons (sExpr (eBMl gAppend (eVar 6) (aCons (eArgs gTupL (aCons (eLam 4) (aCons (eArgs gTup (aCons (eC (.str "lot")) (aCons (eBin bSub (eC (.int 0)) (eC (.int 1))) aNil))) aNil))) aNil)))
    (sCons (sExpr (eBMl gAppend (eVar 6) (aCons (eArgs gTupL (aCons (eLam 5) (aCons (eArgs gTup (aCons (eC (.str "lot")) (aCons (eArgs gLen (aCons (eVar 2) aNil)) aNil))) aNil))) aNil)))
    (sCons (sExpr (eBMl gAppend (eVar 6) (aCons (eArgs gTupL (aCons (eLam 6) (aCons (eArgs gTup (aCons (eC (.str "size")) (aCons (eC (.str "near")) aNil))) aNil))) aNil)))
    (sRet (eBin (bEq false) (eLcW (iOf (eVar 6)) (gW2 7 8) (fun hl => (mB (eBin (bEq true) (eLCallB (fnB 2 (b__law_refused hl)) (eVar 7)) (eVar 8)))) lb__law_errors_0 [7, 8]) (eArgs (gLst false) aNil))))))))))))))
def m__law_errors : FM := fnB 9 b__law_errors
def b_law : SM := (sCons (sIf (mOr (mB (eBin (bEq true) (eArgs (needN 3 (pureF m_first_marks)) (aCons (eArgs (gLst false) (aCons (eC (.int 4)) (aCons (eC (.int 0)) (aCons (eC (.int 7)) aNil)))) (aCons (eArgs gTup (aCons (eC (.int 7)) (aCons (eC (.int 4)) aNil))) (aCons (eC (.int 0)) aNil)))) (eArgs gTup (aCons (eC (.int 4)) aNil)))) (mB (eBin (bEq true) (eArgs (needN 3 (pureF m_first_marks)) (aCons (eArgs gTup (aCons (eC (.int 4)) (aCons (eC (.int 0)) (aCons (eC (.int 7)) aNil)))) (aCons (eArgs (gLst false) (aCons (eC (.int 7)) aNil)) (aCons (eC (.int 1)) aNil)))) (eArgs gTup (aCons (eC (.int 7)) (aCons (eC (.none)) aNil)))))) (sRet (eC (.bool false))) sSkip)
    (sCons (sIf (mB (eBin (bEq true) (eArgs (needN 2 (pureF m_keeping_paper)) (aCons (eArgs (gLst false) (aCons (eArgs gTup (aCons (eArgs gTup (aCons (eC (.int 1)) (aCons (eC (.int 2)) aNil))) (aCons (eArgs gTup (aCons (eC (.int 1)) aNil)) aNil))) (aCons (eArgs gTup (aCons (eArgs gTup (aCons (eC (.int 2)) (aCons (eC (.int 3)) aNil))) (aCons (eArgs gTup (aCons (eC (.int 3)) aNil)) aNil))) (aCons (eArgs gTup (aCons (eArgs gTup (aCons (eC (.int 1)) aNil)) (aCons (eArgs gTup (aCons (eC (.int 1)) aNil)) aNil))) aNil)))) (aCons (eC (.int 2)) aNil))) (eArgs gTup (aCons (eC (.str "missed")) (aCons (eC (.int 0)) (aCons (eC (.int 1)) aNil)))))) (sRet (eC (.bool false))) sSkip)
    (sCons (sFor (iArgs gRange1 (aCons (eC (.int 2)) aNil)) (gN 1) (sCons (sSet 2 (eArgs (needN 2 m__law_box) (aCons (eVar 0) (aCons (eVar 1) aNil))))
    (sCons (sSet 3 (eArgs (needN 2 m__law_mixed) (aCons (eVar 2) (aCons (eArgs (gLR1 false) (aCons (eBin (bAdd false) (eC (.int 3)) (eArgs (needN 2 m__law_take) (aCons (eVar 2) (aCons (eC (.int 4)) aNil)))) aNil)) aNil))))
    (sCons (sSet 3 (eLc false (iOf (eVar 3)) (gN 17) tYes' (eBin (bAdd false) (eVar 17) (eBin (bMul false) (eBin (bMul false) (eC (.int 2)) (eArgs (needN 2 m__law_take) (aCons (eVar 2) (aCons (eC (.int 2)) aNil)))) (eArgs gLen (aCons (eVar 3) aNil)))) [17]))
    (sCons (sPar2 4 5 (aCons (eArgs (needN 2 m__law_take) (aCons (eVar 2) (aCons (eC (.int 4)) aNil))) (aCons (eArgs (gLst true) aNil) aNil)))
    (sCons (sFor (iArgs gRange1 (aCons (eC (.int 4)) aNil)) (gN 6) (sCons (sSet 7 (eArgs (needN 2 m__law_mixed) (aCons (eVar 2) (aCons (eLc false (iOf (eVar 3)) (gN 17) (mB (eBin (bEq false) (eArgs (needN 2 m__law_take) (aCons (eVar 2) (aCons (eC (.int 2)) aNil))) (eC (.int 0)))) (eVar 17) [17]) aNil))))
    (sCons (sPar2 8 9 (aCons (eArgs (gList false) (aCons (eVar 7) aNil)) (aCons (eArgs (gList false) (aCons (eVar 3) aNil)) aNil)))
    (sCons (sSet 10 (eArgs (needN 3 fun rs => needN 3 (pureF m_first_marks) (permL [0, 1, 2] rs)) (aCons (eVar 9) (aCons (eVar 8) (aCons (eVar 4) aNil)))))
    (sCons (sIf (mOr (mB (eBin (bEq true) (eVar 10) (eArgs (needN 3 (pureF m__law_kept)) (aCons (eVar 3) (aCons (eVar 7) (aCons (eVar 4) aNil)))))) (mOr (mB (eBin (bEq true) (eVar 8) (eVar 7))) (mB (eBin (bEq true) (eVar 9) (eVar 3))))) (sRet (eC (.bool false))) sSkip)
    (sExpr (eBMl gAppend (eVar 5) (aCons (eArgs gTupG (aCons (eVar 7) (aCons (eVar 10) aNil))) aNil))))))))
    (sCons (sFor (iOf (eVar 5)) (gTp 2 (gsCons (gN 7) (gsCons (gN 10) gsNil))) (sFor (iOf (eVar 5)) (gTp 2 (gsCons (gN 11) (gsCons (gN 12) gsNil))) (sIf (mAnd (mB (eBin bLe (eArgs (needN 2 (pureF m__law_apart)) (aCons (eVar 7) (aCons (eVar 11) aNil))) (eVar 4))) (mNot (mT (eArgs (needN 2 (pureF m__law_common)) (aCons (eVar 10) (aCons (eVar 12) aNil)))))) (sRet (eC (.bool false))) sSkip)))
    (sCons (sPar2 13 14 (aCons (eArgs (gLst true) aNil) (aCons (eC (.bool true)) aNil)))
    (sCons (sFor (iOf (eArgs (needN 2 m__law_mixed) (aCons (eVar 2) (aCons (eArgs (needN 1 (pureF m__law_parts)) (aCons (eSl false (eVar 3) none (some (eBin (bAdd false) (eC (.int 3)) (eArgs (needN 2 m__law_take) (aCons (eVar 2) (aCons (eC (.int 2)) aNil)))))) aNil)) aNil)))) (gN 15) (sCons (sSet 10 (eLc false (iOf (eArgs (needN 3 (pureF m__law_kept)) (aCons (eVar 3) (aCons (eVar 15) (aCons (eVar 4) aNil))))) (gN 17) (mB (eBin (bIsN true) (eVar 17) (eC (.none)))) (eVar 17) [17]))
    (sCons (sIf (mB (eBin (bEq false) (eArgs (needN 2 m__law_take) (aCons (eVar 2) (aCons (eC (.int 9)) aNil))) (eC (.int 0)))) (sSet 10 (eLc false (iOf (eVar 15)) (gN 17) (mB (eBin (bEq false) (eArgs (needN 2 m__law_take) (aCons (eVar 2) (aCons (eC (.int 2)) aNil))) (eC (.int 0)))) (eVar 17) [17])) sSkip)
    (sIf (mB (eBin bGt (eArgs (needN 2 m__law_take) (aCons (eVar 2) (aCons (eC (.int 40)) aNil))) (eC (.int 0)))) (sExpr (eBMl gAppend (eVar 13) (aCons (eArgs gTupG (aCons (eArgs (needN 2 m__law_mixed) (aCons (eVar 2) (aCons (eVar 15) aNil))) (aCons (eArgs gTuple (aCons (eArgs (needN 2 m__law_mixed) (aCons (eVar 2) (aCons (eVar 10) aNil))) aNil)) aNil))) aNil))) (sSet 14 (eC (.bool false)))))))
    (sCons (sSet 13 (eBin (bAdd true) (eVar 13) (eArgs (gLst false) (aCons (eArgs gTup (aCons (eArgs gTup (aCons (eC (.int 99)) aNil)) (aCons (eArgs gTup (aCons (eC (.int 99)) aNil)) aNil))) aNil))))
    (sCons (sSet 16 (eArgs (needN 2 fun rs => needN 2 (pureF m_keeping_paper) (permL [0, 1] rs)) (aCons (eLc false (iOf (eVar 13)) (gN 9) tYes' (eArgs (gList false) (aCons (eVar 9) aNil)) [9]) (aCons (eVar 4) aNil))))
    (sCons (sIf (mB (eBin (bEq true) (eVar 16) (eArgs (needN 2 (pureF m__law_missed)) (aCons (eVar 13) (aCons (eVar 4) aNil))))) (sRet (eC (.bool false))) sSkip)
    (sCons (sIf (mAnd (mB (eBin (bEq false) (eVar 16) (eArgs gTup (aCons (eC (.str "kept")) aNil)))) (mAnd (mT (eVar 14)) (mB (eBin (bEq true) (eLc false (iOf (eVar 13)) (gTp 2 (gsCons (gN 7) (gsCons (gN 10) gsNil))) (mB (eBin bLt (eArgs gLen (aCons (eVar 10) aNil)) (eArgs gMin2 (aCons (eArgs gLen (aCons (eVar 7) aNil)) (aCons (eBin (bAdd false) (eVar 4) (eC (.int 1))) aNil))))) (eVar 7) [7, 10]) (eArgs (gLst false) aNil))))) (sRet (eC (.bool false))) sSkip)
    (sIf (mNot (mT (eArgs (needN 3 m__law_errors) (aCons (eVar 2) (aCons (eVar 3) (aCons (eVar 13) aNil)))))) (sRet (eC (.bool false))) sSkip))))))))))))))
    (sRet (eC (.bool true))))))
def m_law : FM := fnB 18 b_law
end Lw
namespace Lw
open PySem Pev
open L2 (atI ixN cutS)
/-! ### numbers -/
theorem le_ii (x y : Int) (S : Sto) : bLe (.dat (.int x)) (.dat (.int y)) S = .ok (.dat (.bool (decide (x ≤ y)))) S := rfl
theorem ge_ii (x y : Int) (S : Sto) : bGe (.dat (.int x)) (.dat (.int y)) S = .ok (.dat (.bool (decide (x ≥ y)))) S := rfl
theorem gt_ii (x y : Int) (S : Sto) : bGt (.dat (.int x)) (.dat (.int y)) S = .ok (.dat (.bool (decide (x > y)))) S := rfl
theorem lt_ii (x y : Int) (S : Sto) : bLt (.dat (.int x)) (.dat (.int y)) S = .ok (.dat (.bool (decide (x < y)))) S := rfl
theorem min_ii (x y : Int) (S : Sto) : gMin2 [.dat (.int x), .dat (.int y)] S = .ok (.dat (.int (if y < x then y else x))) S := rfl
theorem mAnd_ok {a b : TM} {ρ : Rho} {S : Sto} {p q : Bool} (h1 : a ρ S = .ok p S) (h2 : b ρ S = .ok q S) : mAnd a b ρ S = .ok (p && q) S := by
  unfold mAnd
  rw [h1]
  cases p with
  | false => rfl
  | true => rw [Bool.true_and]; exact h2
theorem mul_ii {x y : Int} (h : mulOk x y = true) (S : Sto) : bMul false (.dat (.int x)) (.dat (.int y)) S = .ok (.dat (.int (x * y))) S := by
  unfold bMul
  dsimp only
  rw [if_pos h]
  rfl
theorem mul_nn {x y : Nat} (h : x < 1000) (S : Sto) : bMul false (.dat (.int (x : Nat))) (.dat (.int (y : Nat))) S = .ok (.dat (.int ((x * y : Nat) : Int))) S := by
  rw [mul_ii (mulL (by unfold small; exact decide_eq_true (by omega)))]
  rfl
theorem gr1 (n : Nat) (h : n ≤ 10000) (S : Sto) : gRange1 [.dat (.int (n : Nat))] S = .ok ⟨(List.range n).map fun j : Nat => R.dat (.int (j : Nat)), []⟩ S := by
  unfold gRange1
  dsimp only
  rw [inR_small h, rangeR_0]
  rfl

theorem add_n1 (n : Nat) (S : Sto) : bAdd false (.dat (.int (n : Nat))) (.dat (.int 1)) S = .ok (.dat (.int ((n + 1 : Nat) : Int))) S := rfl
theorem add_nn (n m : Nat) (S : Sto) : bAdd false (.dat (.int (n : Nat))) (.dat (.int (m : Nat))) S = .ok (.dat (.int ((n + m : Nat) : Int))) S := rfl
abbrev nR (k : Nat) : R := .dat (.int (k : Nat))
/-! ### marks -/
def mo : Option Nat → PyData
  | some n => .int (n : Nat)
  | none => .none
abbrev OL := List (Option Nat)
def TU (l : OL) : PyData := .tuple (l.map mo)
def LI (l : OL) : PyData := .list (l.map mo)
def sq (t : Bool) (l : OL) : PyData := if t then TU l else LI l
def os (l : List Nat) : OL := l.map some
theorem os_len (l : List Nat) : (os l).length = l.length := List.length_map _
theorem mo_fit (a : Option Nat) : Fit 0 (mo a) := by
  cases a with
  | none => exact fit_none 0
  | some n => exact fit_int 0 _
theorem TU_fit (l : OL) : Fit 1 (TU l) := fit_tup fun d hd => by
  obtain ⟨a, _, rfl⟩ := List.mem_map.mp hd
  exact mo_fit a
theorem LI_fit (l : OL) : Fit 1 (LI l) := fit_lst fun d hd => by
  obtain ⟨a, _, rfl⟩ := List.mem_map.mp hd
  exact mo_fit a
theorem eqv_mo (a b : Option Nat) : PyData.eqv (mo a) (mo b) = decide (a = b) := by
  have nb1 : ∀ a, nb (mo a) = true := fun a => by cases a <;> rfl
  rw [Bool.eq_iff_iff, eqv_iff (nb1 a) (nb1 b), decide_eq_true_eq]
  cases a with
  | none => cases b with
    | none => exact ⟨fun _ => rfl, fun _ => rfl⟩
    | some n => exact ⟨fun h => (by cases h), fun h => (by cases h)⟩
  | some m => cases b with
    | none => exact ⟨fun h => (by cases h), fun h => (by cases h)⟩
    | some n =>
      constructor
      · intro h
        have h : PyData.int (m : Int) = .int (n : Int) := h
        injection h with h
        rw [show m = n by omega]
      · intro h; rw [Option.some.inj h]
theorem nb_mo (l : OL) : nbAll (l.map mo) = true := by
  induction l with
  | nil => rfl
  | cons a l ih =>
    cases a with
    | none => exact ih
    | some n => exact ih
theorem mo_inj {a b : Option Nat} (h : mo a = mo b) : a = b := by
  have := eqv_mo a b
  rw [h, eqv_mo b b, decide_eq_true rfl] at this
  exact of_decide_eq_true this.symm
theorem map_mo_inj : ∀ {l k : OL}, l.map mo = k.map mo → l = k
  | [], [], _ => rfl
  | [], b :: k, h => by cases h
  | a :: l, [], h => by cases h
  | a :: l, b :: k, h => by
    rw [List.map_cons, List.map_cons] at h
    injection h with h1 h2
    rw [mo_inj h1, map_mo_inj h2]
theorem eqv_TU (l k : OL) : PyData.eqv (TU l) (TU k) = decide (l = k) := by
  rw [Bool.eq_iff_iff, eqv_iff (show nb (TU l) = true from nb_mo l) (show nb (TU k) = true from nb_mo k), decide_eq_true_eq]
  constructor
  · intro h
    have h : PyData.tuple (l.map mo) = .tuple (k.map mo) := h
    injection h with h
    exact map_mo_inj h
  · exact fun h => by rw [h]
theorem bin_tup {neg : Bool} {k : Nat} {d : PyData} {ds : List PyData} {S : Sto} (h1 : Fit k d) (h2 : Fit k (.tuple ds)) (hk : k ≤ 64 := by omega) : bIn neg (.dat d) (.dat (.tuple ds)) S = .ok (.dat (.bool (if neg then !(ds.any fun z => PyData.eqv z d) else ds.any fun z => PyData.eqv z d))) S := by
  unfold bIn
  rw [snap_dat, snap_dat]
  dsimp only
  rw [h1.shaped hk, h2.shaped hk]
  rfl
theorem any_mo (a : Option Nat) (l : OL) : ((l.map mo).any fun z => PyData.eqv z (mo a)) = decide (a ∈ l) := by
  rw [any_eqv mo (fun b => decide (b = a)) fun b _ => eqv_mo b a, Bool.eq_iff_iff, List.any_eq_true, decide_eq_true_eq]
  constructor
  · rintro ⟨d, hd, e⟩
    rwa [← of_decide_eq_true e]
  · exact fun h => ⟨a, h, decide_eq_true rfl⟩
theorem in_sq (neg t : Bool) (a : Option Nat) (l : OL) (S : Sto) : bIn neg (.dat (mo a)) (.dat (sq t l)) S = .ok (.dat (.bool (if neg then !decide (a ∈ l) else decide (a ∈ l)))) S := by
  cases t with
  | true =>
    have := bin_tup (neg := neg) (S := S) ((mo_fit a).up (show 0 ≤ 1 by omega)) (TU_fit l)
    rw [any_mo] at this
    exact this
  | false =>
    have := bin_list (neg := neg) (S := S) ((mo_fit a).up (show 0 ≤ 1 by omega)) (LI_fit l)
    rw [any_mo] at this
    exact this
theorem it_sq (t : Bool) (l : OL) (S : Sto) : itOf (.dat (sq t l)) S = .ok ⟨l.map fun a => R.dat (mo a), []⟩ S := by
  cases t with
  | true => show Out.ok (⟨(l.map mo).map .dat, []⟩ : Items) S = _; rw [map_dat]
  | false => show Out.ok (⟨(l.map mo).map .dat, []⟩ : Items) S = _; rw [map_dat]
theorem len_sq (t : Bool) (l : OL) (h : l.length ≤ 1000) (S : Sto) : gLen [.dat (sq t l)] S = .ok (nR l.length) S := by
  have sz := sz_of (show l.length ≤ 10000 by omega)
  cases t with
  | true => show gLen [.dat (.tuple (l.map mo))] S = _; simp only [Pev.fnB, Pev.OutS.toF, Pev.sCons, Pev.sSet, Pev.sRet, Pev.sRetN, Pev.sIf, Pev.sSkip, Pev.sExpr, Pev.sTgt, Pev.sFor, Pev.sRaise, Pev.sPut, Pev.putAt, Pev.sPar2, Pev.sPar3, Pev.sTry, Pev.hRun, Pev.OutS.fade, Pev.OutS.calm, Pev.Out.toS, Pev.Out.bind, Pev.noX, Pev.eVar, Pev.eC, Pev.eBin, Pev.eUn, Pev.eArgs, Pev.aCons, Pev.aNil, Pev.needN, Pev.eAnd, Pev.eOr, Pev.eNot, Pev.eIf, Pev.mAnd, Pev.mOr, Pev.mNot, Pev.mB, Pev.mT, Pev.eChain, Pev.truth, Pev.ans, Pev.ofT, Pev.ofB, Pev.bAdd, Pev.bSub, Pev.bMul, Pev.bDiv, Pev.bMod, Pev.bLt, Pev.bLe, Pev.bGt, Pev.bGe, Pev.bIsN, Pev.isNone?, Pev.uNeg, Pev.bIx, Pev.lv, Pev.lvt, Pev.gLen, Pev.gAbs, Pev.gInt, Pev.gBool, Pev.gList, Pev.gTuple, Pev.gTup, Pev.gLst, Pev.newL, Pev.newT, Pev.datAll, Pev.R.d?, Pev.uIs, Pev.tyOf, Pev.eLc, Pev.iOf, Pev.itOf, Pev.iArgs, Pev.gRange1, Pev.gRange2, Pev.gN, Pev.gTp, Pev.gsCons, Pev.gsNil, Pev.tv, Pev.eBMl, Pev.gAppend, Pev.gPop, Pev.gExtend, Pev.cellOf, Pev.eFld, Pev.tYes', Pev.wipeR, Pev.permL, List.map_cons, List.map_nil, List.length_cons, List.length_nil, List.cons_append, List.nil_append, List.append_nil, List.replicate, List.getElem?_cons_zero, List.getElem?_cons_succ, List.getElem?_nil, List.set_cons_zero, List.set_cons_succ, List.set_nil, List.filterMap_cons, List.filterMap_nil, Option.map_some, Option.map_none, Option.bind_some, Option.bind_none, if_true, if_false, Bool.not_true, Bool.not_false, Nat.reduceSub, Nat.reduceAdd, Nat.reduceEqDiff, Nat.reduceLeDiff, reduceIte, ite_true, ite_false, Bool.true_eq_false, Bool.false_eq_true, ↓reduceIte, Nat.zero_add, Nat.add_zero, Nat.sub_zero, Pev.outD_dat, Pev.snap_dat, Pev.outX, List.any_cons, List.any_nil, List.all_cons, List.all_nil, id_eq, Bool.or_false, Bool.or_true, Bool.true_or, Bool.false_or, Bool.and_true, Bool.true_and, Bool.and_false, Bool.false_and, Bool.and_self, Bool.or_self, Int.cast_ofNat_Int, decide_true, decide_false, Pev.isa_self, Pev.isa_bi, Pev.isa_tl, Pev.isa_lt, Pev.isa_ti, Pev.isa_li, Pev.isa_it, Pev.gAll, Pev.gAny, Pev.gSum, Pev.bls?, Pev.ints?, Pev.eq_ints, Pev.datAll_map, Pev.map_dat, Pev.app_map, Pev.datAll_f, Pev.ints_f, Pev.bls_f, Pev.at0, Pev.at1, Pev.at2, Pev.atLast, Pev.two_small, Pev.three_small, Pev.one_small, Pev.nil_small, Pev.oPart, Pev.toI, Pev.eSl, Pev.gSl, Pev.uRev, List.isEmpty_cons, List.isEmpty_nil, List.length_map, sz]
  | false => show gLen [.dat (.list (l.map mo))] S = _; simp only [Pev.fnB, Pev.OutS.toF, Pev.sCons, Pev.sSet, Pev.sRet, Pev.sRetN, Pev.sIf, Pev.sSkip, Pev.sExpr, Pev.sTgt, Pev.sFor, Pev.sRaise, Pev.sPut, Pev.putAt, Pev.sPar2, Pev.sPar3, Pev.sTry, Pev.hRun, Pev.OutS.fade, Pev.OutS.calm, Pev.Out.toS, Pev.Out.bind, Pev.noX, Pev.eVar, Pev.eC, Pev.eBin, Pev.eUn, Pev.eArgs, Pev.aCons, Pev.aNil, Pev.needN, Pev.eAnd, Pev.eOr, Pev.eNot, Pev.eIf, Pev.mAnd, Pev.mOr, Pev.mNot, Pev.mB, Pev.mT, Pev.eChain, Pev.truth, Pev.ans, Pev.ofT, Pev.ofB, Pev.bAdd, Pev.bSub, Pev.bMul, Pev.bDiv, Pev.bMod, Pev.bLt, Pev.bLe, Pev.bGt, Pev.bGe, Pev.bIsN, Pev.isNone?, Pev.uNeg, Pev.bIx, Pev.lv, Pev.lvt, Pev.gLen, Pev.gAbs, Pev.gInt, Pev.gBool, Pev.gList, Pev.gTuple, Pev.gTup, Pev.gLst, Pev.newL, Pev.newT, Pev.datAll, Pev.R.d?, Pev.uIs, Pev.tyOf, Pev.eLc, Pev.iOf, Pev.itOf, Pev.iArgs, Pev.gRange1, Pev.gRange2, Pev.gN, Pev.gTp, Pev.gsCons, Pev.gsNil, Pev.tv, Pev.eBMl, Pev.gAppend, Pev.gPop, Pev.gExtend, Pev.cellOf, Pev.eFld, Pev.tYes', Pev.wipeR, Pev.permL, List.map_cons, List.map_nil, List.length_cons, List.length_nil, List.cons_append, List.nil_append, List.append_nil, List.replicate, List.getElem?_cons_zero, List.getElem?_cons_succ, List.getElem?_nil, List.set_cons_zero, List.set_cons_succ, List.set_nil, List.filterMap_cons, List.filterMap_nil, Option.map_some, Option.map_none, Option.bind_some, Option.bind_none, if_true, if_false, Bool.not_true, Bool.not_false, Nat.reduceSub, Nat.reduceAdd, Nat.reduceEqDiff, Nat.reduceLeDiff, reduceIte, ite_true, ite_false, Bool.true_eq_false, Bool.false_eq_true, ↓reduceIte, Nat.zero_add, Nat.add_zero, Nat.sub_zero, Pev.outD_dat, Pev.snap_dat, Pev.outX, List.any_cons, List.any_nil, List.all_cons, List.all_nil, id_eq, Bool.or_false, Bool.or_true, Bool.true_or, Bool.false_or, Bool.and_true, Bool.true_and, Bool.and_false, Bool.false_and, Bool.and_self, Bool.or_self, Int.cast_ofNat_Int, decide_true, decide_false, Pev.isa_self, Pev.isa_bi, Pev.isa_tl, Pev.isa_lt, Pev.isa_ti, Pev.isa_li, Pev.isa_it, Pev.gAll, Pev.gAny, Pev.gSum, Pev.bls?, Pev.ints?, Pev.eq_ints, Pev.datAll_map, Pev.map_dat, Pev.app_map, Pev.datAll_f, Pev.ints_f, Pev.bls_f, Pev.at0, Pev.at1, Pev.at2, Pev.atLast, Pev.two_small, Pev.three_small, Pev.one_small, Pev.nil_small, Pev.oPart, Pev.toI, Pev.eSl, Pev.gSl, Pev.uRev, List.isEmpty_cons, List.isEmpty_nil, List.length_map, sz]
theorem gt_sq (t : Bool) (l : OL) (S : Sto) : gTuple [.dat (sq t l)] S = .ok (.dat (TU l)) S := by
  cases t with
  | true => rfl
  | false =>
    show gTuple [.dat (.list (l.map mo))] S = _
    unfold gTuple
    dsimp only [lv]
    unfold newT
    rw [datAll_map]
    rfl
theorem gl_sq (t : Bool) (l : OL) (S : Sto) : gList false [.dat (sq t l)] S = .ok (.dat (LI l)) S := by
  cases t with
  | true =>
    show newL false ((l.map mo).map .dat) S = _
    rw [map_dat, newL_f]
    rfl
  | false =>
    show newL false ((l.map mo).map .dat) S = _
    rw [map_dat, newL_f]
    rfl
theorem nl_mo (l : OL) (S : Sto) : newL false (l.map fun a => R.dat (mo a)) S = .ok (.dat (LI l)) S := newL_f mo l S
/-! ### how far apart, what is common -/
def apart (a b : OL) : Nat := (a.filter fun x => !decide (x ∈ b)).length + (b.filter fun x => !decide (x ∈ a)).length
def com (a b : OL) : Bool := a.any fun x => decide (x ∈ b)
theorem apart_gen {a b : OL} {t u : Bool} (ha : a.length ≤ 60) (hb : b.length ≤ 60) : outD (OutS.toF (b_lots_apart [some (.dat (sq t a)), some (.dat (sq u b)), none] [])) = some (.int (apart a b : Nat)) := by
  have lc1 := lc_pure (keep := []) (g := gN 2) (t := mB (eBin (bIn true) (eVar 2) (eVar 1))) (elt := eVar 2) (ρ := [some (.dat (sq t a)), some (.dat (sq u b)), none]) (S := []) (fun x : Option Nat => R.dat (mo x)) (fun x => !decide (x ∈ b)) (fun x => R.dat (mo x)) stands_nil a (fun x _ => ⟨_, rfl, by
    have i := in_sq true u x b []
    rw [if_pos rfl] at i
    show (mB (eBin (bIn true) (eVar 2) (eVar 1))) [some (.dat (sq t a)), some (.dat (sq u b)), some (.dat (mo x))] [] = _
    simp only [Pev.fnB, Pev.OutS.toF, Pev.sCons, Pev.sSet, Pev.sRet, Pev.sRetN, Pev.sIf, Pev.sSkip, Pev.sExpr, Pev.sTgt, Pev.sFor, Pev.sRaise, Pev.sPut, Pev.sAugS, Pev.sPar2, Pev.sPar3, Pev.OutS.fade, Pev.OutS.calm, Pev.Out.toS, Pev.Out.bind, Pev.noX, Pev.eVar, Pev.eC, Pev.eBin, Pev.eUn, Pev.eArgs, Pev.aCons, Pev.aNil, Pev.needN, Pev.eAnd, Pev.eOr, Pev.eNot, Pev.eIf, Pev.mAnd, Pev.mOr, Pev.mNot, Pev.mB, Pev.mT, Pev.eChain, Pev.truth, Pev.ofT, Pev.ofB, Pev.R.d?, Pev.eLc, Pev.iOf, Pev.iArgs, Pev.gN, Pev.gTp, Pev.gsCons, Pev.gsNil, Pev.tv, Pev.eBMl, Pev.eFld, Pev.tYes', Pev.wipeR, Pev.permL, List.map_cons, List.map_nil, List.length_cons, List.length_nil, List.cons_append, List.nil_append, List.append_nil, List.replicate, List.getElem?_cons_zero, List.getElem?_cons_succ, List.getElem?_nil, List.set_cons_zero, List.set_cons_succ, List.set_nil, List.filterMap_cons, List.filterMap_nil, Option.map_some, Option.map_none, Option.bind_some, Option.bind_none, if_true, if_false, Bool.not_true, Bool.not_false, Nat.reduceSub, Nat.reduceAdd, Nat.reduceEqDiff, Nat.reduceLeDiff, reduceIte, ite_true, ite_false, Bool.true_eq_false, Bool.false_eq_true, ↓reduceIte, Nat.zero_add, Nat.add_zero, Nat.sub_zero, id_eq, Bool.or_false, Bool.or_true, Bool.true_or, Bool.false_or, Bool.and_true, Bool.true_and, Bool.and_false, Bool.false_and, Bool.and_self, Bool.or_self, i], fun _ => rfl⟩)
  have lc2 := lc_pure (keep := []) (g := gN 2) (t := mB (eBin (bIn true) (eVar 2) (eVar 0))) (elt := eVar 2) (ρ := [some (.dat (sq t a)), some (.dat (sq u b)), none]) (S := []) (fun x : Option Nat => R.dat (mo x)) (fun x => !decide (x ∈ a)) (fun x => R.dat (mo x)) stands_nil b (fun x _ => ⟨_, rfl, by
    have i := in_sq true t x a []
    rw [if_pos rfl] at i
    show (mB (eBin (bIn true) (eVar 2) (eVar 0))) [some (.dat (sq t a)), some (.dat (sq u b)), some (.dat (mo x))] [] = _
    simp only [Pev.fnB, Pev.OutS.toF, Pev.sCons, Pev.sSet, Pev.sRet, Pev.sRetN, Pev.sIf, Pev.sSkip, Pev.sExpr, Pev.sTgt, Pev.sFor, Pev.sRaise, Pev.sPut, Pev.sAugS, Pev.sPar2, Pev.sPar3, Pev.OutS.fade, Pev.OutS.calm, Pev.Out.toS, Pev.Out.bind, Pev.noX, Pev.eVar, Pev.eC, Pev.eBin, Pev.eUn, Pev.eArgs, Pev.aCons, Pev.aNil, Pev.needN, Pev.eAnd, Pev.eOr, Pev.eNot, Pev.eIf, Pev.mAnd, Pev.mOr, Pev.mNot, Pev.mB, Pev.mT, Pev.eChain, Pev.truth, Pev.ofT, Pev.ofB, Pev.R.d?, Pev.eLc, Pev.iOf, Pev.iArgs, Pev.gN, Pev.gTp, Pev.gsCons, Pev.gsNil, Pev.tv, Pev.eBMl, Pev.eFld, Pev.tYes', Pev.wipeR, Pev.permL, List.map_cons, List.map_nil, List.length_cons, List.length_nil, List.cons_append, List.nil_append, List.append_nil, List.replicate, List.getElem?_cons_zero, List.getElem?_cons_succ, List.getElem?_nil, List.set_cons_zero, List.set_cons_succ, List.set_nil, List.filterMap_cons, List.filterMap_nil, Option.map_some, Option.map_none, Option.bind_some, Option.bind_none, if_true, if_false, Bool.not_true, Bool.not_false, Nat.reduceSub, Nat.reduceAdd, Nat.reduceEqDiff, Nat.reduceLeDiff, reduceIte, ite_true, ite_false, Bool.true_eq_false, Bool.false_eq_true, ↓reduceIte, Nat.zero_add, Nat.add_zero, Nat.sub_zero, id_eq, Bool.or_false, Bool.or_true, Bool.true_or, Bool.false_or, Bool.and_true, Bool.true_and, Bool.and_false, Bool.false_and, Bool.and_self, Bool.or_self, i], fun _ => rfl⟩)
  have z1 := sz_of (show a.length ≤ 10000 by omega)
  have z2 := sz_of (show b.length ≤ 10000 by omega)
  have f1 := List.length_filter_le (fun x => !decide (x ∈ b)) a
  have f2 := List.length_filter_le (fun x => !decide (x ∈ a)) b
  have n1 := nl_mo (a.filter fun x => !decide (x ∈ b)) []
  have n2 := nl_mo (b.filter fun x => !decide (x ∈ a)) []
  have l1 : gLen [.dat (LI (a.filter fun x => !decide (x ∈ b)))] [] = _ := len_sq false (a.filter fun x => !decide (x ∈ b)) (by omega) []
  have l2 : gLen [.dat (LI (b.filter fun x => !decide (x ∈ a)))] [] = _ := len_sq false (b.filter fun x => !decide (x ∈ a)) (by omega) []
  have it1 := it_sq t a []
  have it2 := it_sq u b []
  unfold b_lots_apart
  unfold nR at *
  simp only [Pev.fnB, Pev.OutS.toF, Pev.sCons, Pev.sSet, Pev.sRet, Pev.sRetN, Pev.sIf, Pev.sSkip, Pev.sExpr, Pev.sTgt, Pev.sFor, Pev.sRaise, Pev.sPut, Pev.sAugS, Pev.sPar2, Pev.sPar3, Pev.OutS.fade, Pev.OutS.calm, Pev.Out.toS, Pev.Out.bind, Pev.noX, Pev.eVar, Pev.eC, Pev.eBin, Pev.eUn, Pev.eArgs, Pev.aCons, Pev.aNil, Pev.needN, Pev.eAnd, Pev.eOr, Pev.eNot, Pev.eIf, Pev.mAnd, Pev.mOr, Pev.mNot, Pev.mB, Pev.mT, Pev.eChain, Pev.truth, Pev.ofT, Pev.ofB, Pev.R.d?, Pev.eLc, Pev.iOf, Pev.iArgs, Pev.gN, Pev.gTp, Pev.gsCons, Pev.gsNil, Pev.tv, Pev.eBMl, Pev.eFld, Pev.tYes', Pev.wipeR, Pev.permL, List.map_cons, List.map_nil, List.length_cons, List.length_nil, List.cons_append, List.nil_append, List.append_nil, List.replicate, List.getElem?_cons_zero, List.getElem?_cons_succ, List.getElem?_nil, List.set_cons_zero, List.set_cons_succ, List.set_nil, List.filterMap_cons, List.filterMap_nil, Option.map_some, Option.map_none, Option.bind_some, Option.bind_none, if_true, if_false, Bool.not_true, Bool.not_false, Nat.reduceSub, Nat.reduceAdd, Nat.reduceEqDiff, Nat.reduceLeDiff, reduceIte, ite_true, ite_false, Bool.true_eq_false, Bool.false_eq_true, ↓reduceIte, Nat.zero_add, Nat.add_zero, Nat.sub_zero, id_eq, Bool.or_false, Bool.or_true, Bool.true_or, Bool.false_or, Bool.and_true, Bool.true_and, Bool.and_false, Bool.false_and, Bool.and_self, Bool.or_self, it1, List.length_map, z1, lc1, n1, l1, it2, z2, lc2, n2, l2, add_nn, outD_dat]
  rfl
theorem apart_ok {a b : OL} (t u : Bool) (ha : a.length ≤ 60) (hb : b.length ≤ 60) : Gv m_lots_apart [sq t a, sq u b] (.int (apart a b : Nat)) := apart_gen ha hb
theorem lawapart_ok {a b : OL} (t u : Bool) (ha : a.length ≤ 60) (hb : b.length ≤ 60) : Gv m__law_apart [sq t a, sq u b] (.int (apart a b : Nat)) := apart_gen ha hb
theorem ne_nil (l : OL) (S : Sto) : bEq true (.dat (LI l)) (.dat (.list [])) S = .ok (.dat (.bool (!l.isEmpty))) S := by
  have fe : Fit 1 (.list []) := fit_lst fun d hd => by cases hd
  rw [beq_dat (LI_fit l).shaped fe.shaped, if_pos rfl]
  cases l <;> rfl
theorem com_ok {a b : OL} (t u : Bool) (ha : a.length ≤ 60) : Gv m__law_common [sq t a, sq u b] (.bool (com a b)) := by
  have lc1 := lc_pure (keep := []) (g := gN 2) (t := mB (eBin (bIn false) (eVar 2) (eVar 1))) (elt := eVar 2) (ρ := [some (.dat (sq t a)), some (.dat (sq u b)), none]) (S := []) (fun x : Option Nat => R.dat (mo x)) (fun x => decide (x ∈ b)) (fun x => R.dat (mo x)) stands_nil a (fun x _ => ⟨_, rfl, by
    have i := in_sq false u x b []
    rw [if_neg (by simp)] at i
    show (mB (eBin (bIn false) (eVar 2) (eVar 1))) [some (.dat (sq t a)), some (.dat (sq u b)), some (.dat (mo x))] [] = _
    simp only [Pev.fnB, Pev.OutS.toF, Pev.sCons, Pev.sSet, Pev.sRet, Pev.sRetN, Pev.sIf, Pev.sSkip, Pev.sExpr, Pev.sTgt, Pev.sFor, Pev.sRaise, Pev.sPut, Pev.sAugS, Pev.sPar2, Pev.sPar3, Pev.OutS.fade, Pev.OutS.calm, Pev.Out.toS, Pev.Out.bind, Pev.noX, Pev.eVar, Pev.eC, Pev.eBin, Pev.eUn, Pev.eArgs, Pev.aCons, Pev.aNil, Pev.needN, Pev.eAnd, Pev.eOr, Pev.eNot, Pev.eIf, Pev.mAnd, Pev.mOr, Pev.mNot, Pev.mB, Pev.mT, Pev.eChain, Pev.truth, Pev.ofT, Pev.ofB, Pev.R.d?, Pev.eLc, Pev.iOf, Pev.iArgs, Pev.gN, Pev.gTp, Pev.gsCons, Pev.gsNil, Pev.tv, Pev.eBMl, Pev.eFld, Pev.tYes', Pev.wipeR, Pev.permL, List.map_cons, List.map_nil, List.length_cons, List.length_nil, List.cons_append, List.nil_append, List.append_nil, List.replicate, List.getElem?_cons_zero, List.getElem?_cons_succ, List.getElem?_nil, List.set_cons_zero, List.set_cons_succ, List.set_nil, List.filterMap_cons, List.filterMap_nil, Option.map_some, Option.map_none, Option.bind_some, Option.bind_none, if_true, if_false, Bool.not_true, Bool.not_false, Nat.reduceSub, Nat.reduceAdd, Nat.reduceEqDiff, Nat.reduceLeDiff, reduceIte, ite_true, ite_false, Bool.true_eq_false, Bool.false_eq_true, ↓reduceIte, Nat.zero_add, Nat.add_zero, Nat.sub_zero, id_eq, Bool.or_false, Bool.or_true, Bool.true_or, Bool.false_or, Bool.and_true, Bool.true_and, Bool.and_false, Bool.false_and, Bool.and_self, Bool.or_self, i], fun _ => rfl⟩)
  have z1 := sz_of (show a.length ≤ 10000 by omega)
  have n1 := nl_mo (a.filter fun x => decide (x ∈ b)) []
  have it1 := it_sq t a []
  have gg : gLst false [] [] = .ok (.dat (.list [])) [] := rfl
  have ne := ne_nil (a.filter fun x => decide (x ∈ b)) []
  have e : (!(a.filter fun x => decide (x ∈ b)).isEmpty) = com a b := by
    unfold com
    rw [Bool.eq_iff_iff, Bool.not_eq_true', List.any_eq_true, Bool.eq_false_iff, ne_eq, List.isEmpty_iff, List.filter_eq_nil_iff]
    constructor
    · intro h
      apply Classical.byContradiction
      intro hn
      exact h fun x hx hp => hn ⟨x, hx, hp⟩
    · rintro ⟨x, hx, hp⟩ h
      exact h x hx hp
  rw [e] at ne
  unfold Gv m__law_common b__law_common
  simp only [Pev.fnB, Pev.OutS.toF, Pev.sCons, Pev.sSet, Pev.sRet, Pev.sRetN, Pev.sIf, Pev.sSkip, Pev.sExpr, Pev.sTgt, Pev.sFor, Pev.sRaise, Pev.sPut, Pev.sAugS, Pev.sPar2, Pev.sPar3, Pev.OutS.fade, Pev.OutS.calm, Pev.Out.toS, Pev.Out.bind, Pev.noX, Pev.eVar, Pev.eC, Pev.eBin, Pev.eUn, Pev.eArgs, Pev.aCons, Pev.aNil, Pev.needN, Pev.eAnd, Pev.eOr, Pev.eNot, Pev.eIf, Pev.mAnd, Pev.mOr, Pev.mNot, Pev.mB, Pev.mT, Pev.eChain, Pev.truth, Pev.ofT, Pev.ofB, Pev.R.d?, Pev.eLc, Pev.iOf, Pev.iArgs, Pev.gN, Pev.gTp, Pev.gsCons, Pev.gsNil, Pev.tv, Pev.eBMl, Pev.eFld, Pev.tYes', Pev.wipeR, Pev.permL, List.map_cons, List.map_nil, List.length_cons, List.length_nil, List.cons_append, List.nil_append, List.append_nil, List.replicate, List.getElem?_cons_zero, List.getElem?_cons_succ, List.getElem?_nil, List.set_cons_zero, List.set_cons_succ, List.set_nil, List.filterMap_cons, List.filterMap_nil, Option.map_some, Option.map_none, Option.bind_some, Option.bind_none, if_true, if_false, Bool.not_true, Bool.not_false, Nat.reduceSub, Nat.reduceAdd, Nat.reduceEqDiff, Nat.reduceLeDiff, reduceIte, ite_true, ite_false, Bool.true_eq_false, Bool.false_eq_true, ↓reduceIte, Nat.zero_add, Nat.add_zero, Nat.sub_zero, id_eq, Bool.or_false, Bool.or_true, Bool.true_or, Bool.false_or, Bool.and_true, Bool.true_and, Bool.and_false, Bool.false_and, Bool.and_self, Bool.or_self, it1, List.length_map, z1, lc1, n1, gg, ne, outD_dat]
end Lw
namespace Lw
open PySem Pev
open L2 (atI ixN cutS)
/-! ### need_marks -/
def srt (l : List Nat) : List Nat := (sortI (l.map fun n : Nat => (n : Int))).map Int.toNat
theorem srt_map (l : List Nat) : (sortI (l.map fun n : Nat => (n : Int))) = (srt l).map fun n : Nat => (n : Int) := by
  unfold srt
  rw [List.map_map]
  conv => lhs; rw [← List.map_id (sortI _)]
  refine List.map_congr_left fun i hi => ?_
  obtain ⟨n, _, rfl⟩ := List.mem_map.mp ((sortI_perm _).mem_iff.mp hi)
  rfl
theorem srt_perm (l : List Nat) : (srt l).Perm l := by
  have := (sortI_perm (l.map fun n : Nat => (n : Int))).map Int.toNat
  rw [List.map_map, show (Int.toNat ∘ fun n : Nat => (n : Int)) = id from rfl, List.map_id] at this
  exact this
theorem os_map (l : List Nat) : (os l).map mo = l.map fun n : Nat => PyData.int (n : Nat) := List.map_map
theorem mem_os {a : Nat} {l : List Nat} : some a ∈ os l ↔ a ∈ l := by
  unfold os
  rw [List.mem_map]
  exact ⟨fun ⟨b, h, e⟩ => by cases e; exact h, fun h => ⟨a, h, rfl⟩⟩
theorem isint (n : Nat) : Gv m_is_integer [.int (n : Nat)] (.bool true) := rfl
theorem isnum (n : Nat) : Gv m_is_number [.int (n : Nat)] (.bool true) := by
  have i2 := one_call (isint n) []
  have ge := ge_ii (n : Int) 0 []
  rw [decide_eq_true (by omega)] at ge
  unfold Gv m_is_number b_is_number
  simp only [Pev.fnB, Pev.OutS.toF, Pev.sCons, Pev.sSet, Pev.sRet, Pev.sRetN, Pev.sIf, Pev.sSkip, Pev.sExpr, Pev.sTgt, Pev.sFor, Pev.sRaise, Pev.sPut, Pev.sAugS, Pev.sPar2, Pev.sPar3, Pev.OutS.fade, Pev.OutS.calm, Pev.Out.toS, Pev.Out.bind, Pev.noX, Pev.eVar, Pev.eC, Pev.eBin, Pev.eUn, Pev.eArgs, Pev.aCons, Pev.aNil, Pev.needN, Pev.eAnd, Pev.eOr, Pev.eNot, Pev.eIf, Pev.mAnd, Pev.mOr, Pev.mNot, Pev.mB, Pev.mT, Pev.eChain, Pev.truth, Pev.ofT, Pev.ofB, Pev.R.d?, Pev.eLc, Pev.iOf, Pev.iArgs, Pev.gN, Pev.gTp, Pev.gsCons, Pev.gsNil, Pev.tv, Pev.eBMl, Pev.eFld, Pev.tYes', Pev.wipeR, Pev.permL, List.map_cons, List.map_nil, List.length_cons, List.length_nil, List.cons_append, List.nil_append, List.append_nil, List.replicate, List.getElem?_cons_zero, List.getElem?_cons_succ, List.getElem?_nil, List.set_cons_zero, List.set_cons_succ, List.set_nil, List.filterMap_cons, List.filterMap_nil, Option.map_some, Option.map_none, Option.bind_some, Option.bind_none, if_true, if_false, Bool.not_true, Bool.not_false, Nat.reduceSub, Nat.reduceAdd, Nat.reduceEqDiff, Nat.reduceLeDiff, reduceIte, ite_true, ite_false, Bool.true_eq_false, Bool.false_eq_true, ↓reduceIte, Nat.zero_add, Nat.add_zero, Nat.sub_zero, id_eq, Bool.or_false, Bool.or_true, Bool.true_or, Bool.false_or, Bool.and_true, Bool.true_and, Bool.and_false, Bool.false_and, Bool.and_self, Bool.or_self, i2, ge, outD_dat]
theorem isseq (t : Bool) (l : OL) : Gv m_is_sequence [sq t l] (.bool true) := by cases t <;> rfl
theorem need_ok {n : Nat} {w : Str} : Gv m_need_many [.int (n : Nat), .str w, .int 0] (.int (n : Nat)) := by
  have i2 := one_call (isint n) []
  have lt : bLt (.dat (.int (n : Nat))) (.dat (.int 0)) [] = .ok (.dat (.bool false)) [] := by
    rw [lt_ii, decide_eq_false (by omega)]
  unfold Gv m_need_many b_need_many
  simp only [Pev.fnB, Pev.OutS.toF, Pev.sCons, Pev.sSet, Pev.sRet, Pev.sRetN, Pev.sIf, Pev.sSkip, Pev.sExpr, Pev.sTgt, Pev.sFor, Pev.sRaise, Pev.sPut, Pev.sAugS, Pev.sPar2, Pev.sPar3, Pev.OutS.fade, Pev.OutS.calm, Pev.Out.toS, Pev.Out.bind, Pev.noX, Pev.eVar, Pev.eC, Pev.eBin, Pev.eUn, Pev.eArgs, Pev.aCons, Pev.aNil, Pev.needN, Pev.eAnd, Pev.eOr, Pev.eNot, Pev.eIf, Pev.mAnd, Pev.mOr, Pev.mNot, Pev.mB, Pev.mT, Pev.eChain, Pev.truth, Pev.ofT, Pev.ofB, Pev.R.d?, Pev.eLc, Pev.iOf, Pev.iArgs, Pev.gN, Pev.gTp, Pev.gsCons, Pev.gsNil, Pev.tv, Pev.eBMl, Pev.eFld, Pev.tYes', Pev.wipeR, Pev.permL, List.map_cons, List.map_nil, List.length_cons, List.length_nil, List.cons_append, List.nil_append, List.append_nil, List.replicate, List.getElem?_cons_zero, List.getElem?_cons_succ, List.getElem?_nil, List.set_cons_zero, List.set_cons_succ, List.set_nil, List.filterMap_cons, List.filterMap_nil, Option.map_some, Option.map_none, Option.bind_some, Option.bind_none, if_true, if_false, Bool.not_true, Bool.not_false, Nat.reduceSub, Nat.reduceAdd, Nat.reduceEqDiff, Nat.reduceLeDiff, reduceIte, ite_true, ite_false, Bool.true_eq_false, Bool.false_eq_true, ↓reduceIte, Nat.zero_add, Nat.add_zero, Nat.sub_zero, id_eq, Bool.or_false, Bool.or_true, Bool.true_or, Bool.false_or, Bool.and_true, Bool.true_and, Bool.and_false, Bool.false_and, Bool.and_self, Bool.or_self, i2, lt, outD_dat]
theorem toI_i (i : Int) (S : Sto) : toI (.dat (.int i)) S = .ok (some i) S := rfl
theorem sl_list {α : Type} (f : α → PyData) (xs : List α) (k : Nat) (S : Sto) : gSl false (.dat (.list (xs.map f))) none (some (k : Int)) S = .ok (.dat (.list ((xs.take k).map f))) S := by
  unfold gSl
  dsimp only [lv]
  rw [map_dat, cutR_f, cut_first, newL_f]
theorem nd_at {α : Type} {l : List α} (h : l.Nodup) {i j : Nat} {c : α} (h1 : l[i]? = some c) (h2 : l[j]? = some c) : i = j := by
  obtain ⟨a, e1⟩ := List.getElem?_eq_some_iff.mp h1
  obtain ⟨b, e2⟩ := List.getElem?_eq_some_iff.mp h2
  have pw := List.pairwise_iff_getElem.mp h
  rcases Nat.lt_trichotomy i j with z | z | z
  · exact absurd (e1.trans e2.symm) (pw i j a b z)
  · exact z
  · exact absurd (e2.trans e1.symm) (pw j i b a z)
theorem unlike_ok {x : OL} (nd : x.Nodup) (lx : x.length ≤ 60) : Gv m_are_unlike [LI x] (.bool true) := by
  have en : gEnumU [.dat (LI x)] [] = .ok ⟨(x.zipIdx 0).map fun p => R.dat (.tuple [.int (p.2 : Nat), mo p.1]), []⟩ [] := by
    show Out.ok (⟨(pairsF 0 (x.map mo)).map .dat, []⟩ : Items) [] = _
    rw [pairs_f]
  have lc := lc_all (g := gTp 2 (gsCons (gN 1) (gsCons (gN 2) gsNil))) (elt := (eBin (bIn true) (eVar 2) (eSl false (eVar 0) none (some (eVar 1))))) (ρ := [some (.dat (LI x)), none, none]) (S := []) (fun p : Option Nat × Nat => R.dat (.tuple [.int (p.2 : Nat), mo p.1])) (fun p => R.dat (.bool true)) (x.zipIdx 0) (fun p hp => by
    have hp := zipIdx_at hp
    have s1 := sl_list mo x p.2 []
    have i1 : bIn true (.dat (mo p.1)) (.dat (LI (x.take p.2))) [] = _ := in_sq true false p.1 (x.take p.2) []
    rw [if_pos rfl, decide_eq_false (fun hm => by
      obtain ⟨j, hj⟩ := List.mem_iff_getElem?.mp hm
      rw [List.getElem?_take] at hj
      split at hj
      · rename_i lt
        have := nd_at nd hp hj
        omega
      · cases hj)] at i1
    refine ⟨_, rfl, ?_⟩
    show (eBin (bIn true) (eVar 2) (eSl false (eVar 0) none (some (eVar 1)))) [some (.dat (LI x)), some (.dat (.int (p.2 : Nat))), some (.dat (mo p.1))] [] = _
    unfold LI at *
    simp only [Pev.fnB, Pev.OutS.toF, Pev.sCons, Pev.sSet, Pev.sRet, Pev.sRetN, Pev.sIf, Pev.sSkip, Pev.sExpr, Pev.sTgt, Pev.sFor, Pev.sRaise, Pev.sPut, Pev.sAugS, Pev.sPar2, Pev.sPar3, Pev.OutS.fade, Pev.OutS.calm, Pev.Out.toS, Pev.Out.bind, Pev.noX, Pev.eVar, Pev.eC, Pev.eBin, Pev.eUn, Pev.eArgs, Pev.aCons, Pev.aNil, Pev.needN, Pev.eAnd, Pev.eOr, Pev.eNot, Pev.eIf, Pev.mAnd, Pev.mOr, Pev.mNot, Pev.mB, Pev.mT, Pev.eChain, Pev.truth, Pev.ofT, Pev.ofB, Pev.R.d?, Pev.eLc, Pev.iOf, Pev.iArgs, Pev.gN, Pev.gTp, Pev.gsCons, Pev.gsNil, Pev.tv, Pev.eBMl, Pev.eFld, Pev.tYes', Pev.wipeR, Pev.permL, List.map_cons, List.map_nil, List.length_cons, List.length_nil, List.cons_append, List.nil_append, List.append_nil, List.replicate, List.getElem?_cons_zero, List.getElem?_cons_succ, List.getElem?_nil, List.set_cons_zero, List.set_cons_succ, List.set_nil, List.filterMap_cons, List.filterMap_nil, Option.map_some, Option.map_none, Option.bind_some, Option.bind_none, if_true, if_false, Bool.not_true, Bool.not_false, Nat.reduceSub, Nat.reduceAdd, Nat.reduceEqDiff, Nat.reduceLeDiff, reduceIte, ite_true, ite_false, Bool.true_eq_false, Bool.false_eq_true, ↓reduceIte, Nat.zero_add, Nat.add_zero, Nat.sub_zero, id_eq, Bool.or_false, Bool.or_true, Bool.true_or, Bool.false_or, Bool.and_true, Bool.true_and, Bool.and_false, Bool.false_and, Bool.and_self, Bool.or_self, eSl, oPart, toI_i, s1, i1])
  have sz := sz_of (show x.length ≤ 10000 by omega)
  have nl := newL_f (fun p : Option Nat × Nat => PyData.bool true) (x.zipIdx 0) []
  have ga : gAll [.dat (.list ((x.zipIdx 0).map fun p => .bool true))] [] = .ok (.dat (.bool true)) [] := by
    simp only [Pev.fnB, Pev.OutS.toF, Pev.sCons, Pev.sSet, Pev.sRet, Pev.sRetN, Pev.sIf, Pev.sSkip, Pev.sExpr, Pev.sTgt, Pev.sFor, Pev.sRaise, Pev.sPut, Pev.putAt, Pev.sPar2, Pev.sPar3, Pev.sTry, Pev.hRun, Pev.OutS.fade, Pev.OutS.calm, Pev.Out.toS, Pev.Out.bind, Pev.noX, Pev.eVar, Pev.eC, Pev.eBin, Pev.eUn, Pev.eArgs, Pev.aCons, Pev.aNil, Pev.needN, Pev.eAnd, Pev.eOr, Pev.eNot, Pev.eIf, Pev.mAnd, Pev.mOr, Pev.mNot, Pev.mB, Pev.mT, Pev.eChain, Pev.truth, Pev.ans, Pev.ofT, Pev.ofB, Pev.bAdd, Pev.bSub, Pev.bMul, Pev.bDiv, Pev.bMod, Pev.bLt, Pev.bLe, Pev.bGt, Pev.bGe, Pev.bIsN, Pev.isNone?, Pev.uNeg, Pev.bIx, Pev.lv, Pev.lvt, Pev.gLen, Pev.gAbs, Pev.gInt, Pev.gBool, Pev.gList, Pev.gTuple, Pev.gTup, Pev.gLst, Pev.newL, Pev.newT, Pev.datAll, Pev.R.d?, Pev.uIs, Pev.tyOf, Pev.eLc, Pev.iOf, Pev.itOf, Pev.iArgs, Pev.gRange1, Pev.gRange2, Pev.gN, Pev.gTp, Pev.gsCons, Pev.gsNil, Pev.tv, Pev.eBMl, Pev.gAppend, Pev.gPop, Pev.gExtend, Pev.cellOf, Pev.eFld, Pev.tYes', Pev.wipeR, Pev.permL, List.map_cons, List.map_nil, List.length_cons, List.length_nil, List.cons_append, List.nil_append, List.append_nil, List.replicate, List.getElem?_cons_zero, List.getElem?_cons_succ, List.getElem?_nil, List.set_cons_zero, List.set_cons_succ, List.set_nil, List.filterMap_cons, List.filterMap_nil, Option.map_some, Option.map_none, Option.bind_some, Option.bind_none, if_true, if_false, Bool.not_true, Bool.not_false, Nat.reduceSub, Nat.reduceAdd, Nat.reduceEqDiff, Nat.reduceLeDiff, reduceIte, ite_true, ite_false, Bool.true_eq_false, Bool.false_eq_true, ↓reduceIte, Nat.zero_add, Nat.add_zero, Nat.sub_zero, Pev.outD_dat, Pev.snap_dat, Pev.outX, List.any_cons, List.any_nil, List.all_cons, List.all_nil, id_eq, Bool.or_false, Bool.or_true, Bool.true_or, Bool.false_or, Bool.and_true, Bool.true_and, Bool.and_false, Bool.false_and, Bool.and_self, Bool.or_self, Int.cast_ofNat_Int, decide_true, decide_false, Pev.isa_self, Pev.isa_bi, Pev.isa_tl, Pev.isa_lt, Pev.isa_ti, Pev.isa_li, Pev.isa_it, Pev.gAll, Pev.gAny, Pev.gSum, Pev.bls?, Pev.ints?, Pev.eq_ints, Pev.datAll_map, Pev.map_dat, Pev.app_map, Pev.datAll_f, Pev.ints_f, Pev.bls_f, Pev.at0, Pev.at1, Pev.at2, Pev.atLast, Pev.two_small, Pev.three_small, Pev.one_small, Pev.nil_small, Pev.oPart, Pev.toI, Pev.eSl, Pev.gSl, Pev.uRev, List.isEmpty_cons, List.isEmpty_nil, ]
    rw [List.all_map]
    congr 3
    exact List.all_eq_true.mpr fun _ _ => rfl
  unfold Gv m_are_unlike b_are_unlike
  simp only [Pev.fnB, Pev.OutS.toF, Pev.sCons, Pev.sSet, Pev.sRet, Pev.sRetN, Pev.sIf, Pev.sSkip, Pev.sExpr, Pev.sTgt, Pev.sFor, Pev.sRaise, Pev.sPut, Pev.sAugS, Pev.sPar2, Pev.sPar3, Pev.OutS.fade, Pev.OutS.calm, Pev.Out.toS, Pev.Out.bind, Pev.noX, Pev.eVar, Pev.eC, Pev.eBin, Pev.eUn, Pev.eArgs, Pev.aCons, Pev.aNil, Pev.needN, Pev.eAnd, Pev.eOr, Pev.eNot, Pev.eIf, Pev.mAnd, Pev.mOr, Pev.mNot, Pev.mB, Pev.mT, Pev.eChain, Pev.truth, Pev.ofT, Pev.ofB, Pev.R.d?, Pev.eLc, Pev.iOf, Pev.iArgs, Pev.gN, Pev.gTp, Pev.gsCons, Pev.gsNil, Pev.tv, Pev.eBMl, Pev.eFld, Pev.tYes', Pev.wipeR, Pev.permL, List.map_cons, List.map_nil, List.length_cons, List.length_nil, List.cons_append, List.nil_append, List.append_nil, List.replicate, List.getElem?_cons_zero, List.getElem?_cons_succ, List.getElem?_nil, List.set_cons_zero, List.set_cons_succ, List.set_nil, List.filterMap_cons, List.filterMap_nil, Option.map_some, Option.map_none, Option.bind_some, Option.bind_none, if_true, if_false, Bool.not_true, Bool.not_false, Nat.reduceSub, Nat.reduceAdd, Nat.reduceEqDiff, Nat.reduceLeDiff, reduceIte, ite_true, ite_false, Bool.true_eq_false, Bool.false_eq_true, ↓reduceIte, Nat.zero_add, Nat.add_zero, Nat.sub_zero, id_eq, Bool.or_false, Bool.or_true, Bool.true_or, Bool.false_or, Bool.and_true, Bool.true_and, Bool.and_false, Bool.false_and, Bool.and_self, Bool.or_self, en, List.length_map, List.length_zipIdx, sz, lc, nl, ga, outD_dat]
theorem os_nodup {l : List Nat} (h : l.Nodup) : (os l).Nodup := List.pairwise_map.mpr (h.imp fun {a b} hab e => hab (Option.some.inj e))
theorem num_lc (t : Bool) (l : List Nat) (x0 x1 : Option R) : lcLoop [] (gN 2) tYes' (eArgs (needN 1 (pureF m_is_number)) (aCons (eVar 2) aNil)) [x0, x1, none] ((os l).map fun a => R.dat (mo a)) [] = .ok ((os l).map fun _ => R.dat (.bool true)) [] :=
  lc_all (fun a : Option Nat => R.dat (mo a)) (fun _ => R.dat (.bool true)) (os l) fun a ha => ⟨_, rfl, by
    obtain ⟨n, _, rfl⟩ := List.mem_map.mp ha
    have c := one_call (isnum n) []
    show (eArgs (needN 1 (pureF m_is_number)) (aCons (eVar 2) aNil)) [x0, x1, some (.dat (mo (some n)))] [] = _
    unfold mo
    simp only [Pev.fnB, Pev.OutS.toF, Pev.sCons, Pev.sSet, Pev.sRet, Pev.sRetN, Pev.sIf, Pev.sSkip, Pev.sExpr, Pev.sTgt, Pev.sFor, Pev.sRaise, Pev.sPut, Pev.sAugS, Pev.sPar2, Pev.sPar3, Pev.OutS.fade, Pev.OutS.calm, Pev.Out.toS, Pev.Out.bind, Pev.noX, Pev.eVar, Pev.eC, Pev.eBin, Pev.eUn, Pev.eArgs, Pev.aCons, Pev.aNil, Pev.needN, Pev.eAnd, Pev.eOr, Pev.eNot, Pev.eIf, Pev.mAnd, Pev.mOr, Pev.mNot, Pev.mB, Pev.mT, Pev.eChain, Pev.truth, Pev.ofT, Pev.ofB, Pev.R.d?, Pev.eLc, Pev.iOf, Pev.iArgs, Pev.gN, Pev.gTp, Pev.gsCons, Pev.gsNil, Pev.tv, Pev.eBMl, Pev.eFld, Pev.tYes', Pev.wipeR, Pev.permL, List.map_cons, List.map_nil, List.length_cons, List.length_nil, List.cons_append, List.nil_append, List.append_nil, List.replicate, List.getElem?_cons_zero, List.getElem?_cons_succ, List.getElem?_nil, List.set_cons_zero, List.set_cons_succ, List.set_nil, List.filterMap_cons, List.filterMap_nil, Option.map_some, Option.map_none, Option.bind_some, Option.bind_none, if_true, if_false, Bool.not_true, Bool.not_false, Nat.reduceSub, Nat.reduceAdd, Nat.reduceEqDiff, Nat.reduceLeDiff, reduceIte, ite_true, ite_false, Bool.true_eq_false, Bool.false_eq_true, ↓reduceIte, Nat.zero_add, Nat.add_zero, Nat.sub_zero, id_eq, Bool.or_false, Bool.or_true, Bool.true_or, Bool.false_or, Bool.and_true, Bool.true_and, Bool.and_false, Bool.false_and, Bool.and_self, Bool.or_self, c]⟩
theorem all_t {α : Type} (xs : List α) (S : Sto) : gAll [.dat (.list (xs.map fun _ => .bool true))] S = .ok (.dat (.bool true)) S := by
  simp only [Pev.fnB, Pev.OutS.toF, Pev.sCons, Pev.sSet, Pev.sRet, Pev.sRetN, Pev.sIf, Pev.sSkip, Pev.sExpr, Pev.sTgt, Pev.sFor, Pev.sRaise, Pev.sPut, Pev.putAt, Pev.sPar2, Pev.sPar3, Pev.sTry, Pev.hRun, Pev.OutS.fade, Pev.OutS.calm, Pev.Out.toS, Pev.Out.bind, Pev.noX, Pev.eVar, Pev.eC, Pev.eBin, Pev.eUn, Pev.eArgs, Pev.aCons, Pev.aNil, Pev.needN, Pev.eAnd, Pev.eOr, Pev.eNot, Pev.eIf, Pev.mAnd, Pev.mOr, Pev.mNot, Pev.mB, Pev.mT, Pev.eChain, Pev.truth, Pev.ans, Pev.ofT, Pev.ofB, Pev.bAdd, Pev.bSub, Pev.bMul, Pev.bDiv, Pev.bMod, Pev.bLt, Pev.bLe, Pev.bGt, Pev.bGe, Pev.bIsN, Pev.isNone?, Pev.uNeg, Pev.bIx, Pev.lv, Pev.lvt, Pev.gLen, Pev.gAbs, Pev.gInt, Pev.gBool, Pev.gList, Pev.gTuple, Pev.gTup, Pev.gLst, Pev.newL, Pev.newT, Pev.datAll, Pev.R.d?, Pev.uIs, Pev.tyOf, Pev.eLc, Pev.iOf, Pev.itOf, Pev.iArgs, Pev.gRange1, Pev.gRange2, Pev.gN, Pev.gTp, Pev.gsCons, Pev.gsNil, Pev.tv, Pev.eBMl, Pev.gAppend, Pev.gPop, Pev.gExtend, Pev.cellOf, Pev.eFld, Pev.tYes', Pev.wipeR, Pev.permL, List.map_cons, List.map_nil, List.length_cons, List.length_nil, List.cons_append, List.nil_append, List.append_nil, List.replicate, List.getElem?_cons_zero, List.getElem?_cons_succ, List.getElem?_nil, List.set_cons_zero, List.set_cons_succ, List.set_nil, List.filterMap_cons, List.filterMap_nil, Option.map_some, Option.map_none, Option.bind_some, Option.bind_none, if_true, if_false, Bool.not_true, Bool.not_false, Nat.reduceSub, Nat.reduceAdd, Nat.reduceEqDiff, Nat.reduceLeDiff, reduceIte, ite_true, ite_false, Bool.true_eq_false, Bool.false_eq_true, ↓reduceIte, Nat.zero_add, Nat.add_zero, Nat.sub_zero, Pev.outD_dat, Pev.snap_dat, Pev.outX, List.any_cons, List.any_nil, List.all_cons, List.all_nil, id_eq, Bool.or_false, Bool.or_true, Bool.true_or, Bool.false_or, Bool.and_true, Bool.true_and, Bool.and_false, Bool.false_and, Bool.and_self, Bool.or_self, Int.cast_ofNat_Int, decide_true, decide_false, Pev.isa_self, Pev.isa_bi, Pev.isa_tl, Pev.isa_lt, Pev.isa_ti, Pev.isa_li, Pev.isa_it, Pev.gAll, Pev.gAny, Pev.gSum, Pev.bls?, Pev.ints?, Pev.eq_ints, Pev.datAll_map, Pev.map_dat, Pev.app_map, Pev.datAll_f, Pev.ints_f, Pev.bls_f, Pev.at0, Pev.at1, Pev.at2, Pev.atLast, Pev.two_small, Pev.three_small, Pev.one_small, Pev.nil_small, Pev.oPart, Pev.toI, Pev.eSl, Pev.gSl, Pev.uRev, List.isEmpty_cons, List.isEmpty_nil, ]
  rw [List.all_map]
  congr 3
  exact List.all_eq_true.mpr fun _ _ => rfl
theorem sorted_sq (t : Bool) (l : List Nat) (S : Sto) : gSortedIU false [.dat (sq t (os l))] S = .ok (.dat (LI (os (srt l)))) S := by
  have e2 : newL false ((sortI (l.map fun n : Nat => (n : Int))).map fun i => R.dat (.int i)) S = .ok (.dat (LI (os (srt l)))) S := by
    rw [srt_map, List.map_map]
    have := newL_f (fun n : Nat => PyData.int (n : Nat)) (srt l) S
    unfold LI
    rw [os_map]
    exact this
  have e1 : ints? (((os l).map mo).map R.dat) = some (l.map fun n : Nat => (n : Int)) := by
    rw [os_map, List.map_map]
    have := ints_f (l.map fun n : Nat => (n : Int))
    rw [List.map_map] at this
    exact this
  cases t with
  | true =>
    show (match ints? (((os l).map mo).map .dat) with
      | some ns => newL false ((sortI ns).map fun i => R.dat (.int i)) S
      | none => .stuck) = _
    rw [e1]
    exact e2
  | false =>
    show (match (some (((os l).map mo).map R.dat)).bind ints? with
      | some ns => newL false ((sortI ns).map fun i => R.dat (.int i)) S
      | none => .stuck) = _
    rw [Option.bind_some, e1]
    exact e2
theorem marks_ok {l : List Nat} (t : Bool) (d : PyData) (nd : l.Nodup) (ll : l.length ≤ 60) : Gv m_need_marks [sq t (os l), d] (TU (os (srt l))) := by
  have s1 := one_call (isseq t (os l)) []
  have it := it_sq t (os l) []
  have sz := sz_of (show (os l).length ≤ 10000 by rw [os_len]; omega)
  have lc := num_lc t l (some (.dat (sq t (os l)))) (some (.dat d))
  have nl := newL_f (fun _ : Option Nat => PyData.bool true) (os l) []
  have ga := all_t (os l) []
  have gl := gl_sq t (os l) []
  have un := one_call (unlike_ok (os_nodup nd) (by rw [os_len]; omega)) []
  have so := sorted_sq t l []
  have gt : gTuple [.dat (LI (os (srt l)))] [] = _ := gt_sq false (os (srt l)) []
  unfold Gv m_need_marks b_need_marks
  simp only [Pev.fnB, Pev.OutS.toF, Pev.sCons, Pev.sSet, Pev.sRet, Pev.sRetN, Pev.sIf, Pev.sSkip, Pev.sExpr, Pev.sTgt, Pev.sFor, Pev.sRaise, Pev.sPut, Pev.sAugS, Pev.sPar2, Pev.sPar3, Pev.OutS.fade, Pev.OutS.calm, Pev.Out.toS, Pev.Out.bind, Pev.noX, Pev.eVar, Pev.eC, Pev.eBin, Pev.eUn, Pev.eArgs, Pev.aCons, Pev.aNil, Pev.needN, Pev.eAnd, Pev.eOr, Pev.eNot, Pev.eIf, Pev.mAnd, Pev.mOr, Pev.mNot, Pev.mB, Pev.mT, Pev.eChain, Pev.truth, Pev.ofT, Pev.ofB, Pev.R.d?, Pev.eLc, Pev.iOf, Pev.iArgs, Pev.gN, Pev.gTp, Pev.gsCons, Pev.gsNil, Pev.tv, Pev.eBMl, Pev.eFld, Pev.tYes', Pev.wipeR, Pev.permL, List.map_cons, List.map_nil, List.length_cons, List.length_nil, List.cons_append, List.nil_append, List.append_nil, List.replicate, List.getElem?_cons_zero, List.getElem?_cons_succ, List.getElem?_nil, List.set_cons_zero, List.set_cons_succ, List.set_nil, List.filterMap_cons, List.filterMap_nil, Option.map_some, Option.map_none, Option.bind_some, Option.bind_none, if_true, if_false, Bool.not_true, Bool.not_false, Nat.reduceSub, Nat.reduceAdd, Nat.reduceEqDiff, Nat.reduceLeDiff, reduceIte, ite_true, ite_false, Bool.true_eq_false, Bool.false_eq_true, ↓reduceIte, Nat.zero_add, Nat.add_zero, Nat.sub_zero, id_eq, Bool.or_false, Bool.or_true, Bool.true_or, Bool.false_or, Bool.and_true, Bool.true_and, Bool.and_false, Bool.false_and, Bool.and_self, Bool.or_self, s1, it, List.length_map, sz, lc, nl, ga, gl, un, so, gt, outD_dat]
/-! ### what is kept -/
def kof (r : List Nat) (n : Nat) : OL := os (r.take (n + 1)) ++ (if r.length ≤ n then [none] else [])
theorem keptof_ok {r : List Nat} {n : Nat} (lr : r.length ≤ 60) : Gv m_kept_of [LI (os r), .int (n : Nat)] (TU (kof r n)) := by
  have sl : gSl false (.dat (LI (os r))) none (some ((n + 1 : Nat) : Int)) [] = .ok (.dat (LI (os (r.take (n + 1))))) [] := by
    have := sl_list mo (os r) (n + 1) []
    unfold os LI at *
    rw [List.map_take]
    exact this
  have gt : gTuple [.dat (LI (os (r.take (n + 1))))] [] = _ := gt_sq false (os (r.take (n + 1))) []
  have gl : gLen [.dat (LI (os r))] [] = _ := len_sq false (os r) (by rw [os_len]; omega) []
  rw [os_len] at gl
  have le := le_ii (r.length : Int) (n : Int) []
  have t1 : gTup [.dat .none] [] = .ok (.dat (TU [none])) [] := rfl
  have t0 : gTup [] [] = .ok (.dat (TU [])) [] := rfl
  have ad : ∀ k : OL, k.length ≤ 10 → bAdd false (.dat (TU (os (r.take (n + 1))))) (.dat (TU k)) [] = .ok (.dat (TU (os (r.take (n + 1)) ++ k))) [] := fun k hk => by
    have lt : (os (r.take (n + 1))).length ≤ 60 := by rw [os_len, List.length_take]; omega
    unfold TU bAdd
    dsimp only
    rw [List.length_map, List.length_map, if_pos (by
      have := sz_of (show (os (r.take (n + 1))).length + k.length ≤ 10000 by omega)
      rw [this]; trivial), List.map_append]
    rfl
  unfold Gv m_kept_of b_kept_of kof
  unfold nR at *
  by_cases h : r.length ≤ n
  · rw [decide_eq_true (by omega)] at le
    rw [if_pos h]
    simp only [Pev.fnB, Pev.OutS.toF, Pev.sCons, Pev.sSet, Pev.sRet, Pev.sRetN, Pev.sIf, Pev.sSkip, Pev.sExpr, Pev.sTgt, Pev.sFor, Pev.sRaise, Pev.sPut, Pev.sAugS, Pev.sPar2, Pev.sPar3, Pev.OutS.fade, Pev.OutS.calm, Pev.Out.toS, Pev.Out.bind, Pev.noX, Pev.eVar, Pev.eC, Pev.eBin, Pev.eUn, Pev.eArgs, Pev.aCons, Pev.aNil, Pev.needN, Pev.eAnd, Pev.eOr, Pev.eNot, Pev.eIf, Pev.mAnd, Pev.mOr, Pev.mNot, Pev.mB, Pev.mT, Pev.eChain, Pev.truth, Pev.ofT, Pev.ofB, Pev.R.d?, Pev.eLc, Pev.iOf, Pev.iArgs, Pev.gN, Pev.gTp, Pev.gsCons, Pev.gsNil, Pev.tv, Pev.eBMl, Pev.eFld, Pev.tYes', Pev.wipeR, Pev.permL, List.map_cons, List.map_nil, List.length_cons, List.length_nil, List.cons_append, List.nil_append, List.append_nil, List.replicate, List.getElem?_cons_zero, List.getElem?_cons_succ, List.getElem?_nil, List.set_cons_zero, List.set_cons_succ, List.set_nil, List.filterMap_cons, List.filterMap_nil, Option.map_some, Option.map_none, Option.bind_some, Option.bind_none, if_true, if_false, Bool.not_true, Bool.not_false, Nat.reduceSub, Nat.reduceAdd, Nat.reduceEqDiff, Nat.reduceLeDiff, reduceIte, ite_true, ite_false, Bool.true_eq_false, Bool.false_eq_true, ↓reduceIte, Nat.zero_add, Nat.add_zero, Nat.sub_zero, id_eq, Bool.or_false, Bool.or_true, Bool.true_or, Bool.false_or, Bool.and_true, Bool.true_and, Bool.and_false, Bool.false_and, Bool.and_self, Bool.or_self, eSl, oPart, toI_i, add_n1, sl, gt, gl, le, t1, ad [none] (by simp), outD_dat]
  · rw [decide_eq_false (by omega)] at le
    rw [if_neg h]
    simp only [Pev.fnB, Pev.OutS.toF, Pev.sCons, Pev.sSet, Pev.sRet, Pev.sRetN, Pev.sIf, Pev.sSkip, Pev.sExpr, Pev.sTgt, Pev.sFor, Pev.sRaise, Pev.sPut, Pev.sAugS, Pev.sPar2, Pev.sPar3, Pev.OutS.fade, Pev.OutS.calm, Pev.Out.toS, Pev.Out.bind, Pev.noX, Pev.eVar, Pev.eC, Pev.eBin, Pev.eUn, Pev.eArgs, Pev.aCons, Pev.aNil, Pev.needN, Pev.eAnd, Pev.eOr, Pev.eNot, Pev.eIf, Pev.mAnd, Pev.mOr, Pev.mNot, Pev.mB, Pev.mT, Pev.eChain, Pev.truth, Pev.ofT, Pev.ofB, Pev.R.d?, Pev.eLc, Pev.iOf, Pev.iArgs, Pev.gN, Pev.gTp, Pev.gsCons, Pev.gsNil, Pev.tv, Pev.eBMl, Pev.eFld, Pev.tYes', Pev.wipeR, Pev.permL, List.map_cons, List.map_nil, List.length_cons, List.length_nil, List.cons_append, List.nil_append, List.append_nil, List.replicate, List.getElem?_cons_zero, List.getElem?_cons_succ, List.getElem?_nil, List.set_cons_zero, List.set_cons_succ, List.set_nil, List.filterMap_cons, List.filterMap_nil, Option.map_some, Option.map_none, Option.bind_some, Option.bind_none, if_true, if_false, Bool.not_true, Bool.not_false, Nat.reduceSub, Nat.reduceAdd, Nat.reduceEqDiff, Nat.reduceLeDiff, reduceIte, ite_true, ite_false, Bool.true_eq_false, Bool.false_eq_true, ↓reduceIte, Nat.zero_add, Nat.add_zero, Nat.sub_zero, id_eq, Bool.or_false, Bool.or_true, Bool.true_or, Bool.false_or, Bool.and_true, Bool.true_and, Bool.and_false, Bool.false_and, Bool.and_self, Bool.or_self, eSl, oPart, toI_i, add_n1, sl, gt, gl, le, t0, ad [] (by simp), outD_dat]
def flt (order lot : List Nat) : List Nat := order.filter fun x => decide (x ∈ lot)
def kpt (order lot : List Nat) (n : Nat) : OL := kof (flt order lot) n
theorem fm_all {order lot : List Nat} {t : Bool} {x0 x1 x2 x3 : Option R} (h : ∀ x ∈ lot, x ∈ order) (h0 : x0 = some (.dat (sq t (os order)))) : lcLoop [] (gN 4) tYes' (eBin (bIn false) (eVar 4) (eVar 0)) [x0, x1, x2, x3, none] ((os lot).map fun a => R.dat (mo a)) [] = .ok ((os lot).map fun _ => R.dat (.bool true)) [] :=
  lc_all (fun a : Option Nat => R.dat (mo a)) (fun _ => R.dat (.bool true)) (os lot) fun a ha => ⟨_, rfl, by
    subst h0
    obtain ⟨n, hn, rfl⟩ := List.mem_map.mp ha
    have i := in_sq false t (some n) (os order) []
    rw [if_neg (by simp), decide_eq_true (mem_os.mpr (h n hn))] at i
    show (eBin (bIn false) (eVar 4) (eVar 0)) [some (.dat (sq t (os order))), x1, x2, x3, some (.dat (mo (some n)))] [] = _
    simp only [Pev.fnB, Pev.OutS.toF, Pev.sCons, Pev.sSet, Pev.sRet, Pev.sRetN, Pev.sIf, Pev.sSkip, Pev.sExpr, Pev.sTgt, Pev.sFor, Pev.sRaise, Pev.sPut, Pev.sAugS, Pev.sPar2, Pev.sPar3, Pev.OutS.fade, Pev.OutS.calm, Pev.Out.toS, Pev.Out.bind, Pev.noX, Pev.eVar, Pev.eC, Pev.eBin, Pev.eUn, Pev.eArgs, Pev.aCons, Pev.aNil, Pev.needN, Pev.eAnd, Pev.eOr, Pev.eNot, Pev.eIf, Pev.mAnd, Pev.mOr, Pev.mNot, Pev.mB, Pev.mT, Pev.eChain, Pev.truth, Pev.ofT, Pev.ofB, Pev.R.d?, Pev.eLc, Pev.iOf, Pev.iArgs, Pev.gN, Pev.gTp, Pev.gsCons, Pev.gsNil, Pev.tv, Pev.eBMl, Pev.eFld, Pev.tYes', Pev.wipeR, Pev.permL, List.map_cons, List.map_nil, List.length_cons, List.length_nil, List.cons_append, List.nil_append, List.append_nil, List.replicate, List.getElem?_cons_zero, List.getElem?_cons_succ, List.getElem?_nil, List.set_cons_zero, List.set_cons_succ, List.set_nil, List.filterMap_cons, List.filterMap_nil, Option.map_some, Option.map_none, Option.bind_some, Option.bind_none, if_true, if_false, Bool.not_true, Bool.not_false, Nat.reduceSub, Nat.reduceAdd, Nat.reduceEqDiff, Nat.reduceLeDiff, reduceIte, ite_true, ite_false, Bool.true_eq_false, Bool.false_eq_true, ↓reduceIte, Nat.zero_add, Nat.add_zero, Nat.sub_zero, id_eq, Bool.or_false, Bool.or_true, Bool.true_or, Bool.false_or, Bool.and_true, Bool.true_and, Bool.and_false, Bool.false_and, Bool.and_self, Bool.or_self, i]⟩
theorem first_ok {order lot : List Nat} {n : Nat} (t u : Bool) (no : order.Nodup) (nl : lot.Nodup) (lo : order.length ≤ 60) (ll : lot.length ≤ 60) (hs : ∀ x ∈ lot, x ∈ order) : Gv m_first_marks [sq t (os order), sq u (os lot), .int (n : Nat)] (TU (kpt order lot n)) := by
  have m1 := two_call (marks_ok t (.int 0) no lo) []
  have m2 := two_call (marks_ok u (.int 1) nl ll) []
  have lp := (srt_perm lot).length_eq
  have it1 : itOf (.dat (TU (os (srt lot)))) [] = _ := it_sq true (os (srt lot)) []
  have sz1 := sz_of (show (os (srt lot)).length ≤ 10000 by rw [os_len]; omega)
  have lc1 := fm_all (order := order) (lot := srt lot) (t := t) (x0 := some (.dat (sq t (os order)))) (x1 := some (.dat (sq u (os lot)))) (x2 := some (.dat (.int (n : Nat)))) (x3 := some (.dat (TU (os (srt lot))))) (fun x hx => hs x ((srt_perm lot).mem_iff.mp hx)) rfl
  have nl1 := newL_f (fun _ : Option Nat => PyData.bool true) (os (srt lot)) []
  have ga := all_t (os (srt lot)) []
  have nm := three_call (need_ok (n := n) (w := "near")) []
  have it2 := it_sq t (os order) []
  have sz2 := sz_of (show (os order).length ≤ 10000 by rw [os_len]; omega)
  have lc2 := lc_pure (keep := []) (g := gN 4) (t := mB (eBin (bIn false) (eVar 4) (eVar 3))) (elt := eVar 4) (ρ := [some (.dat (sq t (os order))), some (.dat (sq u (os lot))), some (.dat (.int (n : Nat))), some (.dat (TU (os (srt lot)))), none]) (S := []) (fun x : Option Nat => R.dat (mo x)) (fun x => decide (x ∈ os lot)) (fun x => R.dat (mo x)) stands_nil (os order) (fun x _ => ⟨_, rfl, by
    have i : bIn false (.dat (mo x)) (.dat (TU (os (srt lot)))) [] = _ := in_sq false true x (os (srt lot)) []
    rw [if_neg (by simp), show decide (x ∈ os (srt lot)) = decide (x ∈ os lot) from decide_eq_decide.mpr ((srt_perm lot).map some).mem_iff] at i
    show (mB (eBin (bIn false) (eVar 4) (eVar 3))) [some (.dat (sq t (os order))), some (.dat (sq u (os lot))), some (.dat (.int (n : Nat))), some (.dat (TU (os (srt lot)))), some (.dat (mo x))] [] = _
    simp only [Pev.fnB, Pev.OutS.toF, Pev.sCons, Pev.sSet, Pev.sRet, Pev.sRetN, Pev.sIf, Pev.sSkip, Pev.sExpr, Pev.sTgt, Pev.sFor, Pev.sRaise, Pev.sPut, Pev.sAugS, Pev.sPar2, Pev.sPar3, Pev.OutS.fade, Pev.OutS.calm, Pev.Out.toS, Pev.Out.bind, Pev.noX, Pev.eVar, Pev.eC, Pev.eBin, Pev.eUn, Pev.eArgs, Pev.aCons, Pev.aNil, Pev.needN, Pev.eAnd, Pev.eOr, Pev.eNot, Pev.eIf, Pev.mAnd, Pev.mOr, Pev.mNot, Pev.mB, Pev.mT, Pev.eChain, Pev.truth, Pev.ofT, Pev.ofB, Pev.R.d?, Pev.eLc, Pev.iOf, Pev.iArgs, Pev.gN, Pev.gTp, Pev.gsCons, Pev.gsNil, Pev.tv, Pev.eBMl, Pev.eFld, Pev.tYes', Pev.wipeR, Pev.permL, List.map_cons, List.map_nil, List.length_cons, List.length_nil, List.cons_append, List.nil_append, List.append_nil, List.replicate, List.getElem?_cons_zero, List.getElem?_cons_succ, List.getElem?_nil, List.set_cons_zero, List.set_cons_succ, List.set_nil, List.filterMap_cons, List.filterMap_nil, Option.map_some, Option.map_none, Option.bind_some, Option.bind_none, if_true, if_false, Bool.not_true, Bool.not_false, Nat.reduceSub, Nat.reduceAdd, Nat.reduceEqDiff, Nat.reduceLeDiff, reduceIte, ite_true, ite_false, Bool.true_eq_false, Bool.false_eq_true, ↓reduceIte, Nat.zero_add, Nat.add_zero, Nat.sub_zero, id_eq, Bool.or_false, Bool.or_true, Bool.true_or, Bool.false_or, Bool.and_true, Bool.true_and, Bool.and_false, Bool.false_and, Bool.and_self, Bool.or_self, i], fun _ => rfl⟩)
  have fe : (os order).filter (fun x => decide (x ∈ os lot)) = os (flt order lot) := by
    unfold os flt
    rw [List.filter_map]
    congr 1
    refine List.filter_congr fun x _ => ?_
    exact decide_eq_decide.mpr mem_os
  rw [fe] at lc2
  have nl2 := nl_mo (os (flt order lot)) []
  have lf : (flt order lot).length ≤ 60 := Nat.le_trans (List.length_filter_le _ _) lo
  have ko := two_call (keptof_ok (r := flt order lot) (n := n) lf) []
  unfold Gv m_first_marks b_first_marks kpt
  simp only [Pev.fnB, Pev.OutS.toF, Pev.sCons, Pev.sSet, Pev.sRet, Pev.sRetN, Pev.sIf, Pev.sSkip, Pev.sExpr, Pev.sTgt, Pev.sFor, Pev.sRaise, Pev.sPut, Pev.sAugS, Pev.sPar2, Pev.sPar3, Pev.OutS.fade, Pev.OutS.calm, Pev.Out.toS, Pev.Out.bind, Pev.noX, Pev.eVar, Pev.eC, Pev.eBin, Pev.eUn, Pev.eArgs, Pev.aCons, Pev.aNil, Pev.needN, Pev.eAnd, Pev.eOr, Pev.eNot, Pev.eIf, Pev.mAnd, Pev.mOr, Pev.mNot, Pev.mB, Pev.mT, Pev.eChain, Pev.truth, Pev.ofT, Pev.ofB, Pev.R.d?, Pev.eLc, Pev.iOf, Pev.iArgs, Pev.gN, Pev.gTp, Pev.gsCons, Pev.gsNil, Pev.tv, Pev.eBMl, Pev.eFld, Pev.tYes', Pev.wipeR, Pev.permL, List.map_cons, List.map_nil, List.length_cons, List.length_nil, List.cons_append, List.nil_append, List.append_nil, List.replicate, List.getElem?_cons_zero, List.getElem?_cons_succ, List.getElem?_nil, List.set_cons_zero, List.set_cons_succ, List.set_nil, List.filterMap_cons, List.filterMap_nil, Option.map_some, Option.map_none, Option.bind_some, Option.bind_none, if_true, if_false, Bool.not_true, Bool.not_false, Nat.reduceSub, Nat.reduceAdd, Nat.reduceEqDiff, Nat.reduceLeDiff, reduceIte, ite_true, ite_false, Bool.true_eq_false, Bool.false_eq_true, ↓reduceIte, Nat.zero_add, Nat.add_zero, Nat.sub_zero, id_eq, Bool.or_false, Bool.or_true, Bool.true_or, Bool.false_or, Bool.and_true, Bool.true_and, Bool.and_false, Bool.false_and, Bool.and_self, Bool.or_self, m1, m2, it1, List.length_map, sz1, lc1, nl1, ga, nm, it2, sz2, lc2, nl2, ko, outD_dat]
end Lw
namespace Lw
open PySem Pev
open L2 (atI ixN cutS)
/-! ### lots near one another share what is kept: plain -/
theorem pre_share {α : Type} (p q : α → Bool) : ∀ (o : List α) (k1 k2 : Nat), (∀ x, x ∈ (o.filter p).take k1 → x ∈ (o.filter q).take k2 → False) → (∀ x ∈ (o.filter p).take k1, q x = false) ∨ (∀ x ∈ (o.filter q).take k2, p x = false)
  | [], k1, k2, _ => .inl fun x hx => by simp at hx
  | a :: o, 0, k2, _ => .inl fun x hx => by simp at hx
  | a :: o, k1 + 1, 0, _ => .inr fun x hx => by simp at hx
  | a :: o, k1 + 1, k2 + 1, h => by
    rw [List.filter_cons, List.filter_cons] at h ⊢
    cases ep : p a with
    | true =>
      cases eq : q a with
      | true =>
        rw [ep, eq] at h
        exact (h a (by simp) (by simp)).elim
      | false =>
        rw [ep, eq] at h
        simp only [if_true, Bool.false_eq_true, if_false, List.take_succ_cons] at h ⊢
        rcases pre_share p q o k1 (k2 + 1) fun x hx hy => h x (List.mem_cons_of_mem _ hx) hy with z | z
        · exact .inl fun x hx => by
            rcases List.mem_cons.mp hx with rfl | hx
            · exact eq
            · exact z x hx
        · exact .inr z
    | false =>
      cases eq : q a with
      | true =>
        rw [ep, eq] at h
        simp only [if_true, Bool.false_eq_true, if_false, List.take_succ_cons] at h ⊢
        rcases pre_share p q o (k1 + 1) k2 fun x hx hy => h x hx (List.mem_cons_of_mem _ hy) with z | z
        · exact .inl z
        · exact .inr fun x hx => by
            rcases List.mem_cons.mp hx with rfl | hx
            · exact ep
            · exact z x hx
      | false =>
        rw [ep, eq] at h
        simp only [Bool.false_eq_true, if_false] at h ⊢
        exact pre_share p q o (k1 + 1) (k2 + 1) h
theorem flt_perm {order a : List Nat} (no : order.Nodup) (na : a.Nodup) (hs : ∀ x ∈ a, x ∈ order) : (flt order a).Perm a :=
  (List.perm_ext_iff_of_nodup (List.Pairwise.filter _ no) na).mpr fun x => by
    rw [List.mem_filter, decide_eq_true_eq]
    exact ⟨fun h => h.2, fun h => ⟨hs x h, h⟩⟩
def off (a b : List Nat) : Nat := (a.filter fun x => !decide (x ∈ b)).length
theorem apart_os (a b : List Nat) : apart (os a) (os b) = off a b + off b a := by
  have g : ∀ a b : List Nat, ((os a).filter fun x => !decide (x ∈ os b)).length = off a b := fun a b => by
    unfold os off
    rw [List.filter_map, List.length_map]
    congr 1
    refine List.filter_congr fun x _ => ?_
    show (!decide (some x ∈ os b)) = _
    rw [show decide (some x ∈ os b) = decide (x ∈ b) from decide_eq_decide.mpr mem_os]
  unfold apart
  rw [g, g]
theorem off_perm {a a' b b' : List Nat} (h1 : a.Perm a') (h2 : b.Perm b') : off a b = off a' b' := by
  unfold off
  have e : (fun x => !decide (x ∈ b)) = fun x => !decide (x ∈ b') := by
    funext x
    rw [show decide (x ∈ b) = decide (x ∈ b') from decide_eq_decide.mpr h2.mem_iff]
  rw [e]
  exact (h1.filter _).length_eq
theorem off_ge {a b s : List Nat} (hs : s.Sublist a) (hb : ∀ x ∈ s, x ∉ b) : s.length ≤ off a b := by
  have e : s.filter (fun x => !decide (x ∈ b)) = s := List.filter_eq_self.mpr fun x hx => by rw [decide_eq_false (hb x hx)]; rfl
  have := (hs.filter fun x => !decide (x ∈ b)).length_le
  rw [e] at this
  exact this
theorem com_kof {r s : List Nat} {n : Nat} : com (kof r n) (kof s n) = true ↔ (∃ x, x ∈ r.take (n + 1) ∧ x ∈ s.take (n + 1)) ∨ (r.length ≤ n ∧ s.length ≤ n) := by
  have mk : ∀ (r : List Nat) (x : Nat), some x ∈ kof r n ↔ x ∈ r.take (n + 1) := fun r x => by
    unfold kof
    rw [List.mem_append, mem_os]
    constructor
    · rintro (h | h)
      · exact h
      · split at h
        · simp at h
        · simp at h
    · exact .inl
  have mn : ∀ (r : List Nat), none ∈ kof r n ↔ r.length ≤ n := fun r => by
    unfold kof
    rw [List.mem_append]
    constructor
    · rintro (h | h)
      · unfold os at h
        obtain ⟨_, _, e⟩ := List.mem_map.mp h
        cases e
      · split at h
        · assumption
        · simp at h
    · intro h
      rw [if_pos h]
      exact .inr (by simp)
  unfold com
  rw [List.any_eq_true]
  constructor
  · rintro ⟨x, h1, h2⟩
    have h2 := of_decide_eq_true h2
    cases x with
    | none => exact .inr ⟨(mn r).mp h1, (mn s).mp h2⟩
    | some x => exact .inl ⟨x, (mk r x).mp h1, (mk s x).mp h2⟩
  · rintro (⟨x, h1, h2⟩ | ⟨h1, h2⟩)
    · exact ⟨some x, (mk r x).mpr h1, decide_eq_true ((mk s x).mpr h2)⟩
    · exact ⟨none, (mn r).mpr h1, decide_eq_true ((mn s).mpr h2)⟩
theorem share_half {order a b : List Nat} {n : Nat} (no : order.Nodup) (na : a.Nodup) (nb : b.Nodup) (ha : ∀ x ∈ a, x ∈ order) (hb : ∀ x ∈ b, x ∈ order) (hn : ¬ ((flt order a).length ≤ n ∧ (flt order b).length ≤ n)) (h : ∀ x ∈ (flt order a).take (n + 1), x ∉ b) : n < off a b + off b a := by
  have pa := flt_perm no na ha
  have pb := flt_perm no nb hb
  have o1 := off_ge (List.take_sublist (n + 1) (flt order a)) h
  rw [off_perm pa (List.Perm.refl b)] at o1
  rw [List.length_take] at o1
  by_cases q : n + 1 ≤ (flt order a).length
  · omega
  · have e : (flt order a).take (n + 1) = flt order a := List.take_of_length_le (by omega)
    rw [e] at h
    have o2 := off_ge (s := (flt order b).take (n + 1)) (b := a) (List.take_sublist (n + 1) (flt order b)) fun x hx hxa => h x (pa.mem_iff.mpr hxa) (pb.mem_iff.mp (List.mem_of_mem_take hx))
    rw [off_perm pb (List.Perm.refl a), List.length_take] at o2
    omega
theorem share {order a b : List Nat} {n : Nat} (no : order.Nodup) (na : a.Nodup) (nb : b.Nodup) (ha : ∀ x ∈ a, x ∈ order) (hb : ∀ x ∈ b, x ∈ order) (h : apart (os a) (os b) ≤ n) : com (kpt order a n) (kpt order b n) = true := by
  rw [apart_os] at h
  unfold kpt
  apply Classical.byContradiction
  intro hc
  rw [com_kof] at hc
  have hn : ¬ ((flt order a).length ≤ n ∧ (flt order b).length ≤ n) := fun z => hc (.inr z)
  rcases pre_share (fun x => decide (x ∈ a)) (fun x => decide (x ∈ b)) order (n + 1) (n + 1) fun x h1 h2 => hc (.inl ⟨x, h1, h2⟩) with z | z
  · have := share_half no na nb ha hb hn fun x hx => of_decide_eq_false (z x hx)
    omega
  · have := share_half no nb na hb ha (fun z => hn ⟨z.2, z.1⟩) fun x hx => of_decide_eq_false (z x hx)
    omega
/-! ### the law's kept -/
theorem bm1 (S : Sto) : bMul false (.dat (.list [.none])) (.dat (.int 1)) S = .ok (.dat (LI [none])) S := by
  have sz := sz_of (show 1 * 1 ≤ 10000 by omega)
  unfold bMul
  dsimp only [lvt, lv]
  rw [if_pos ⟨by omega, by omega, of_eq_true sz⟩]
  rfl
theorem bm0 (S : Sto) : bMul false (.dat (.list [.none])) (.dat (.int 0)) S = .ok (.dat (LI [])) S := by
  have sz := sz_of (show 1 * 0 ≤ 10000 by omega)
  unfold bMul
  dsimp only [lvt, lv]
  rw [if_pos ⟨by omega, by omega, of_eq_true sz⟩]
  rfl
theorem eBin_ok {f : R → R → Sto → Out R} {a b : EM} {ρ : Rho} {S S1 S2 : Sto} {x y : R} {q : Out R} (h1 : a ρ S = .ok x S1) (h2 : b ρ S1 = .ok y S2) (h3 : f x y S2 = q) : eBin f a b ρ S = q := by
  unfold eBin
  rw [h1]
  simp only [Out.bind, h2]
  exact h3
theorem add_cel {l k : OL} (h : l.length + k.length ≤ 1000) {S : Sto} {j : Nat} (hS : S[j]? = some (.lst (l.map fun a => R.dat (mo a)))) : bAdd false (.obj j) (.dat (LI k)) S = .ok (.dat (LI (l ++ k))) S := by
  have sz := sz_of (show l.length + k.length ≤ 10000 by omega)
  unfold bAdd LI
  dsimp only [lvt, lv]
  rw [hS]
  dsimp only
  rw [List.length_map, List.length_map, List.length_map, if_pos (of_eq_true sz), map_dat, ← List.map_append, newL_f]
def lkB : SM := (sIf (mB (eBin (bIn false) (eVar 5) (eVar 1))) (sCons (sIf (mB (eBin bLe (eVar 4) (eVar 2))) (sExpr (eBMl gAppend (eVar 3) (aCons (eVar 5) aNil))) sSkip)
    (sSet 4 (eBin (bAdd false) (eVar 4) (eC (.int 1))))) sSkip)
def lkI : EM := (eArgs gInt (aCons (eBin bLe (eVar 4) (eVar 2)) aNil))
def lkN : EM := (eBin (bMul false) (eArgs (gLst false) (aCons (eC (.none)) aNil)) lkI)
theorem lawkept_eq : b__law_kept = sCons (sPar2 3 4 (aCons (eArgs (gLst true) aNil) (aCons (eC (.int 0)) aNil))) (sCons (sFor (iOf (eVar 0)) (gN 5) lkB) (sRet (eArgs gTuple (aCons (eBin (bAdd false) (eVar 3) lkN) aNil)))) := rfl
abbrev rhoK (t u : Bool) (o l : List Nat) (n k : Nat) (x5 : Option R) : Rho := [some (.dat (sq t (os o))), some (.dat (sq u (os l))), some (nR n), some (.obj 0), some (nR k), x5]
theorem sif_t {tm : TM} {b1 b2 : SM} {ρ : Rho} {S S1 : Sto} (h : tm ρ S = .ok true S1) : sIf tm b1 b2 ρ S = b1 ρ S1 := by
  unfold sIf
  rw [h]
  rfl
theorem sif_f {tm : TM} {b1 b2 : SM} {ρ : Rho} {S S1 : Sto} (h : tm ρ S = .ok false S1) : sIf tm b1 b2 ρ S = b2 ρ S1 := by
  unfold sIf
  rw [h]
  rfl
abbrev cel (l : OL) : Sto := [.lst (l.map fun a => R.dat (mo a))]
theorem lkB_ok {t u : Bool} {o l f : List Nat} {n m : Nat} {x5 : Option R} (hf : f.length ≤ 60) : ∃ x5', lkB (rhoK t u o l n f.length (some (.dat (mo (some m))))) (cel (os (f.take (n + 1)))) = .nx (rhoK t u o l n (f ++ if m ∈ l then [m] else []).length x5') (cel (os ((f ++ if m ∈ l then [m] else []).take (n + 1)))) := by
  have i := in_sq false u (some m) (os l) (cel (os (f.take (n + 1))))
  rw [if_neg (by simp), show decide (some m ∈ os l) = decide (m ∈ l) from decide_eq_decide.mpr mem_os] at i
  have te : (mB (eBin (bIn false) (eVar 5) (eVar 1))) (rhoK t u o l n f.length (some (.dat (mo (some m))))) (cel (os (f.take (n + 1)))) = .ok (decide (m ∈ l)) (cel (os (f.take (n + 1)))) := by
    unfold rhoK nR
    simp only [Pev.fnB, Pev.OutS.toF, Pev.sCons, Pev.sSet, Pev.sRet, Pev.sRetN, Pev.sIf, Pev.sSkip, Pev.sExpr, Pev.sTgt, Pev.sFor, Pev.sRaise, Pev.sPut, Pev.sAugS, Pev.sPar2, Pev.sPar3, Pev.OutS.fade, Pev.OutS.calm, Pev.Out.toS, Pev.Out.bind, Pev.noX, Pev.eVar, Pev.eC, Pev.eBin, Pev.eUn, Pev.eArgs, Pev.aCons, Pev.aNil, Pev.needN, Pev.eAnd, Pev.eOr, Pev.eNot, Pev.eIf, Pev.mAnd, Pev.mOr, Pev.mNot, Pev.mB, Pev.mT, Pev.eChain, Pev.truth, Pev.ofT, Pev.ofB, Pev.R.d?, Pev.eLc, Pev.iOf, Pev.iArgs, Pev.gN, Pev.gTp, Pev.gsCons, Pev.gsNil, Pev.tv, Pev.eBMl, Pev.eFld, Pev.tYes', Pev.wipeR, Pev.permL, List.map_cons, List.map_nil, List.length_cons, List.length_nil, List.cons_append, List.nil_append, List.append_nil, List.replicate, List.getElem?_cons_zero, List.getElem?_cons_succ, List.getElem?_nil, List.set_cons_zero, List.set_cons_succ, List.set_nil, List.filterMap_cons, List.filterMap_nil, Option.map_some, Option.map_none, Option.bind_some, Option.bind_none, if_true, if_false, Bool.not_true, Bool.not_false, Nat.reduceSub, Nat.reduceAdd, Nat.reduceEqDiff, Nat.reduceLeDiff, reduceIte, ite_true, ite_false, Bool.true_eq_false, Bool.false_eq_true, ↓reduceIte, Nat.zero_add, Nat.add_zero, Nat.sub_zero, id_eq, Bool.or_false, Bool.or_true, Bool.true_or, Bool.false_or, Bool.and_true, Bool.true_and, Bool.and_false, Bool.false_and, Bool.and_self, Bool.or_self, i]
  refine ⟨some (.dat (mo (some m))), ?_⟩
  by_cases hm : m ∈ l
  · rw [decide_eq_true hm] at te
    rw [if_pos hm]
    refine (sif_t te).trans ?_
    have le := le_ii (f.length : Int) (n : Int) (cel (os (f.take (n + 1))))
    have t2 : (mB (eBin bLe (eVar 4) (eVar 2))) (rhoK t u o l n f.length (some (.dat (mo (some m))))) (cel (os (f.take (n + 1)))) = .ok (decide ((f.length : Int) ≤ n)) (cel (os (f.take (n + 1)))) := by
      unfold rhoK nR
      simp only [Pev.fnB, Pev.OutS.toF, Pev.sCons, Pev.sSet, Pev.sRet, Pev.sRetN, Pev.sIf, Pev.sSkip, Pev.sExpr, Pev.sTgt, Pev.sFor, Pev.sRaise, Pev.sPut, Pev.sAugS, Pev.sPar2, Pev.sPar3, Pev.OutS.fade, Pev.OutS.calm, Pev.Out.toS, Pev.Out.bind, Pev.noX, Pev.eVar, Pev.eC, Pev.eBin, Pev.eUn, Pev.eArgs, Pev.aCons, Pev.aNil, Pev.needN, Pev.eAnd, Pev.eOr, Pev.eNot, Pev.eIf, Pev.mAnd, Pev.mOr, Pev.mNot, Pev.mB, Pev.mT, Pev.eChain, Pev.truth, Pev.ofT, Pev.ofB, Pev.R.d?, Pev.eLc, Pev.iOf, Pev.iArgs, Pev.gN, Pev.gTp, Pev.gsCons, Pev.gsNil, Pev.tv, Pev.eBMl, Pev.eFld, Pev.tYes', Pev.wipeR, Pev.permL, List.map_cons, List.map_nil, List.length_cons, List.length_nil, List.cons_append, List.nil_append, List.append_nil, List.replicate, List.getElem?_cons_zero, List.getElem?_cons_succ, List.getElem?_nil, List.set_cons_zero, List.set_cons_succ, List.set_nil, List.filterMap_cons, List.filterMap_nil, Option.map_some, Option.map_none, Option.bind_some, Option.bind_none, if_true, if_false, Bool.not_true, Bool.not_false, Nat.reduceSub, Nat.reduceAdd, Nat.reduceEqDiff, Nat.reduceLeDiff, reduceIte, ite_true, ite_false, Bool.true_eq_false, Bool.false_eq_true, ↓reduceIte, Nat.zero_add, Nat.add_zero, Nat.sub_zero, id_eq, Bool.or_false, Bool.or_true, Bool.true_or, Bool.false_or, Bool.and_true, Bool.true_and, Bool.and_false, Bool.false_and, Bool.and_self, Bool.or_self, le]
    have ls : (f ++ [m]).length = f.length + 1 := by simp
    have fin : ∀ S, (sSet 4 (eBin (bAdd false) (eVar 4) (eC (.int 1)))) (rhoK t u o l n f.length (some (.dat (mo (some m))))) S = .nx (rhoK t u o l n (f.length + 1) (some (.dat (mo (some m))))) S := fun S => rfl
    rw [ls]
    by_cases hn : f.length ≤ n
    · rw [decide_eq_true (by omega)] at t2
      have ap := appO (S := cel (os (f.take (n + 1)))) (k := 0) (rs := (os (f.take (n + 1))).map fun a => R.dat (mo a)) (mo := eVar 3) (me := eVar 5) (ρ := rhoK t u o l n f.length (some (.dat (mo (some m))))) (y := .dat (mo (some m))) rfl rfl rfl (by rw [List.length_map, os_len, List.length_take]; omega)
      have e1 := (sif_t (b1 := sExpr (eBMl gAppend (eVar 3) (aCons (eVar 5) aNil))) (b2 := sSkip) t2).trans ap
      rw [cons_nx e1, fin]
      rw [List.take_of_length_le (show f.length ≤ n + 1 by omega), List.take_of_length_le (show (f ++ [m]).length ≤ n + 1 by omega)]
      show OutS.nx _ [Cell.lst (((os f).map fun a => R.dat (mo a)) ++ [.dat (mo (some m))])] = .nx _ [Cell.lst ((os (f ++ [m])).map fun a => R.dat (mo a))]
      unfold os
      rw [List.map_append, List.map_append]
      rfl
    · rw [decide_eq_false (by omega)] at t2
      have e1 := (sif_f (b1 := sExpr (eBMl gAppend (eVar 3) (aCons (eVar 5) aNil))) (b2 := sSkip) t2).trans (show sSkip _ _ = .nx _ _ from rfl)
      rw [cons_nx e1, fin, List.take_append_of_le_length (by omega)]
  · rw [decide_eq_false hm] at te
    rw [if_neg hm, List.append_nil]
    exact (sif_f te).trans rfl
theorem lawkept_ok {order lot : List Nat} {n : Nat} (t u : Bool) (lo : order.length ≤ 50) (hn : n ≤ 50) : Gv m__law_kept [sq t (os order), sq u (os lot), .int (n : Nat)] (TU (kpt order lot n)) := by
  obtain ⟨ρ', S', e, x5, rfl, rfl⟩ := for_nx (keep := []) (g := gN 5) (b := lkB) (fun i ρ S => ∃ x5, ρ = rhoK t u order lot n (flt (order.take i) lot).length x5 ∧ S = cel (os ((flt (order.take i) lot).take (n + 1)))) ((os order).map fun a => R.dat (mo a)) (ρ := rhoK t u order lot n 0 none) (S := cel []) ⟨none, rfl, rfl⟩ (fun _ _ _ _ _ => stands_nil) (by
    rintro i q ρ S hq ⟨x5, rfl, rfl⟩
    rw [List.getElem?_map] at hq
    obtain ⟨mm, hm, rfl⟩ := Option.map_eq_some_iff.mp hq
    unfold os at hm
    rw [List.getElem?_map] at hm
    obtain ⟨m, hm2, rfl⟩ := Option.map_eq_some_iff.mp hm
    have fl : flt (order.take (i + 1)) lot = flt (order.take i) lot ++ if m ∈ lot then [m] else [] := by
      unfold flt
      rw [List.take_add_one, hm2, List.filter_append]
      congr 1
      show [m].filter _ = _
      rw [List.filter_cons, List.filter_nil]
      by_cases q : m ∈ lot
      · rw [if_pos q, decide_eq_true q]; rfl
      · rw [if_neg q, decide_eq_false q]; rfl
    obtain ⟨x5', e⟩ := lkB_ok (t := t) (u := u) (o := order) (l := lot) (f := flt (order.take i) lot) (n := n) (m := m) (x5 := x5) (Nat.le_trans (List.length_filter_le _ _) (by rw [List.length_take]; omega))
    rw [← fl] at e
    exact ⟨_, rfl, _, _, e, x5', rfl, rfl⟩)
  rw [List.length_map, os_len, List.take_length] at e
  have lf : (flt order lot).length ≤ 50 := Nat.le_trans (List.length_filter_le _ _) lo
  have e1 : (sPar2 3 4 (aCons (eArgs (gLst true) aNil) (aCons (eC (.int 0)) aNil))) [some (.dat (sq t (os order))), some (.dat (sq u (os lot))), some (nR n), none, none, none] [] = .nx (rhoK t u order lot n 0 none) (cel []) := rfl
  have e2 : sFor (iOf (eVar 0)) (gN 5) lkB (rhoK t u order lot n 0 none) (cel []) = .nx (rhoK t u order lot n (flt order lot).length x5) (cel (os ((flt order lot).take (n + 1)))) := by
    have it := it_sq t (os order) (cel [])
    unfold sFor
    rw [show iOf (eVar 0) (rhoK t u order lot n 0 none) (cel []) = _ from it]
    exact e
  have le := le_ii ((flt order lot).length : Int) (n : Int) (cel (os ((flt order lot).take (n + 1))))
  have nn : lkN (rhoK t u order lot n (flt order lot).length x5) (cel (os ((flt order lot).take (n + 1)))) = .ok (.dat (LI (if (flt order lot).length ≤ n then [none] else []))) (cel (os ((flt order lot).take (n + 1)))) := by
    unfold lkN
    by_cases h : (flt order lot).length ≤ n
    · rw [decide_eq_true (by omega)] at le
      rw [if_pos h]
      have g : lkI (rhoK t u order lot n (flt order lot).length x5) (cel (os ((flt order lot).take (n + 1)))) = .ok (.dat (.int 1)) (cel (os ((flt order lot).take (n + 1)))) := by
        unfold lkI rhoK nR
        simp only [Pev.fnB, Pev.OutS.toF, Pev.sCons, Pev.sSet, Pev.sRet, Pev.sRetN, Pev.sIf, Pev.sSkip, Pev.sExpr, Pev.sTgt, Pev.sFor, Pev.sRaise, Pev.sPut, Pev.sAugS, Pev.sPar2, Pev.sPar3, Pev.OutS.fade, Pev.OutS.calm, Pev.Out.toS, Pev.Out.bind, Pev.noX, Pev.eVar, Pev.eC, Pev.eBin, Pev.eUn, Pev.eArgs, Pev.aCons, Pev.aNil, Pev.needN, Pev.eAnd, Pev.eOr, Pev.eNot, Pev.eIf, Pev.mAnd, Pev.mOr, Pev.mNot, Pev.mB, Pev.mT, Pev.eChain, Pev.truth, Pev.ofT, Pev.ofB, Pev.R.d?, Pev.eLc, Pev.iOf, Pev.iArgs, Pev.gN, Pev.gTp, Pev.gsCons, Pev.gsNil, Pev.tv, Pev.eBMl, Pev.eFld, Pev.tYes', Pev.wipeR, Pev.permL, List.map_cons, List.map_nil, List.length_cons, List.length_nil, List.cons_append, List.nil_append, List.append_nil, List.replicate, List.getElem?_cons_zero, List.getElem?_cons_succ, List.getElem?_nil, List.set_cons_zero, List.set_cons_succ, List.set_nil, List.filterMap_cons, List.filterMap_nil, Option.map_some, Option.map_none, Option.bind_some, Option.bind_none, if_true, if_false, Bool.not_true, Bool.not_false, Nat.reduceSub, Nat.reduceAdd, Nat.reduceEqDiff, Nat.reduceLeDiff, reduceIte, ite_true, ite_false, Bool.true_eq_false, Bool.false_eq_true, ↓reduceIte, Nat.zero_add, Nat.add_zero, Nat.sub_zero, id_eq, Bool.or_false, Bool.or_true, Bool.true_or, Bool.false_or, Bool.and_true, Bool.true_and, Bool.and_false, Bool.false_and, Bool.and_self, Bool.or_self, le]
        rfl
      exact eBin_ok rfl g (bm1 _)
    · rw [decide_eq_false (by omega)] at le
      rw [if_neg h]
      have g : lkI (rhoK t u order lot n (flt order lot).length x5) (cel (os ((flt order lot).take (n + 1)))) = .ok (.dat (.int 0)) (cel (os ((flt order lot).take (n + 1)))) := by
        unfold lkI rhoK nR
        simp only [Pev.fnB, Pev.OutS.toF, Pev.sCons, Pev.sSet, Pev.sRet, Pev.sRetN, Pev.sIf, Pev.sSkip, Pev.sExpr, Pev.sTgt, Pev.sFor, Pev.sRaise, Pev.sPut, Pev.sAugS, Pev.sPar2, Pev.sPar3, Pev.OutS.fade, Pev.OutS.calm, Pev.Out.toS, Pev.Out.bind, Pev.noX, Pev.eVar, Pev.eC, Pev.eBin, Pev.eUn, Pev.eArgs, Pev.aCons, Pev.aNil, Pev.needN, Pev.eAnd, Pev.eOr, Pev.eNot, Pev.eIf, Pev.mAnd, Pev.mOr, Pev.mNot, Pev.mB, Pev.mT, Pev.eChain, Pev.truth, Pev.ofT, Pev.ofB, Pev.R.d?, Pev.eLc, Pev.iOf, Pev.iArgs, Pev.gN, Pev.gTp, Pev.gsCons, Pev.gsNil, Pev.tv, Pev.eBMl, Pev.eFld, Pev.tYes', Pev.wipeR, Pev.permL, List.map_cons, List.map_nil, List.length_cons, List.length_nil, List.cons_append, List.nil_append, List.append_nil, List.replicate, List.getElem?_cons_zero, List.getElem?_cons_succ, List.getElem?_nil, List.set_cons_zero, List.set_cons_succ, List.set_nil, List.filterMap_cons, List.filterMap_nil, Option.map_some, Option.map_none, Option.bind_some, Option.bind_none, if_true, if_false, Bool.not_true, Bool.not_false, Nat.reduceSub, Nat.reduceAdd, Nat.reduceEqDiff, Nat.reduceLeDiff, reduceIte, ite_true, ite_false, Bool.true_eq_false, Bool.false_eq_true, ↓reduceIte, Nat.zero_add, Nat.add_zero, Nat.sub_zero, id_eq, Bool.or_false, Bool.or_true, Bool.true_or, Bool.false_or, Bool.and_true, Bool.true_and, Bool.and_false, Bool.false_and, Bool.and_self, Bool.or_self, le]
        rfl
      exact eBin_ok rfl g (bm0 _)
  have ad := add_cel (l := os ((flt order lot).take (n + 1))) (k := if (flt order lot).length ≤ n then [none] else []) (by rw [os_len, List.length_take]; split <;> simp <;> omega) (S := cel (os ((flt order lot).take (n + 1)))) (j := 0) rfl
  have gt : gTuple [.dat (LI (os ((flt order lot).take (n + 1)) ++ if (flt order lot).length ≤ n then [none] else []))] (cel (os ((flt order lot).take (n + 1)))) = _ := gt_sq false _ _
  have ee := eBin_ok (a := eVar 3) (ρ := rhoK t u order lot n (flt order lot).length x5) (S := cel (os ((flt order lot).take (n + 1)))) rfl nn ad
  show outD (OutS.toF (b__law_kept [some (.dat (sq t (os order))), some (.dat (sq u (os lot))), some (nR n), none, none, none] [])) = _
  rw [lawkept_eq, cons_nx e1, cons_nx e2]
  unfold kpt kof
  generalize eBin (bAdd false) (eVar 3) lkN = m at ee
  simp only [Pev.fnB, Pev.OutS.toF, Pev.sCons, Pev.sSet, Pev.sRet, Pev.sRetN, Pev.sIf, Pev.sSkip, Pev.sExpr, Pev.sTgt, Pev.sFor, Pev.sRaise, Pev.sPut, Pev.sAugS, Pev.sPar2, Pev.sPar3, Pev.OutS.fade, Pev.OutS.calm, Pev.Out.toS, Pev.Out.bind, Pev.noX, Pev.eVar, Pev.eC, Pev.eBin, Pev.eUn, Pev.eArgs, Pev.aCons, Pev.aNil, Pev.needN, Pev.eAnd, Pev.eOr, Pev.eNot, Pev.eIf, Pev.mAnd, Pev.mOr, Pev.mNot, Pev.mB, Pev.mT, Pev.eChain, Pev.truth, Pev.ofT, Pev.ofB, Pev.R.d?, Pev.eLc, Pev.iOf, Pev.iArgs, Pev.gN, Pev.gTp, Pev.gsCons, Pev.gsNil, Pev.tv, Pev.eBMl, Pev.eFld, Pev.tYes', Pev.wipeR, Pev.permL, List.map_cons, List.map_nil, List.length_cons, List.length_nil, List.cons_append, List.nil_append, List.append_nil, List.replicate, List.getElem?_cons_zero, List.getElem?_cons_succ, List.getElem?_nil, List.set_cons_zero, List.set_cons_succ, List.set_nil, List.filterMap_cons, List.filterMap_nil, Option.map_some, Option.map_none, Option.bind_some, Option.bind_none, if_true, if_false, Bool.not_true, Bool.not_false, Nat.reduceSub, Nat.reduceAdd, Nat.reduceEqDiff, Nat.reduceLeDiff, reduceIte, ite_true, ite_false, Bool.true_eq_false, Bool.false_eq_true, ↓reduceIte, Nat.zero_add, Nat.add_zero, Nat.sub_zero, id_eq, Bool.or_false, Bool.or_true, Bool.true_or, Bool.false_or, Bool.and_true, Bool.true_and, Bool.and_false, Bool.false_and, Bool.and_self, Bool.or_self, ee, gt, outD_dat]
end Lw
namespace Lw
open PySem Pev
open L2 (atI ixN cutS)
/-! ### rows -/
structure Rw where
  t : Bool
  lot : List Nat
  kp : List Nat
def rD (b : Bool) (r : Rw) : PyData := if b then .tuple [sq r.t (os r.lot), TU (os r.kp)] else .list [sq r.t (os r.lot), TU (os r.kp)]
def sD (r : Rw) : PyData := .tuple [TU (os (srt r.lot)), TU (os (srt r.kp))]
structure GR (rs : List Rw) : Prop where
  nl : ∀ r ∈ rs, r.lot.Nodup ∧ r.kp.Nodup ∧ (∀ x ∈ r.kp, x ∈ r.lot) ∧ r.lot.length ≤ 50 ∧ r.kp.length ≤ 50
  un : rs.Pairwise fun a b => ¬ a.lot.Perm b.lot
  few : rs.length ≤ 50
theorem for_go {g : GM} {b : SM} (I : Nat → Rho → Sto → Prop) (ys : List R) : ∀ (xs : List R) (i : Nat) (ρ : Rho) (S : Sto), I i ρ S → (∀ j a, xs[j]? = some a → ∀ ρ S, I (i + j) ρ S → ∃ ρ1 ρ2 S2, g a ρ = some ρ1 ∧ b ρ1 S = .nx ρ2 S2 ∧ I (i + j + 1) ρ2 S2) →
    ∃ ρ' S', I (i + xs.length) ρ' S' ∧ forLoop [] g b (xs ++ ys) ρ S = forLoop [] g b ys ρ' S'
  | [], i, ρ, S, h, _ => ⟨ρ, S, h, rfl⟩
  | a :: xs, i, ρ, S, h, hs => by
    obtain ⟨ρ1, ρ2, S2, h1, h2, h3⟩ := hs 0 a rfl ρ S h
    obtain ⟨ρ', S', k1, k2⟩ := for_go I ys xs (i + 1) ρ2 S2 h3 fun j c hc ρ S hI => by
      have := hs (j + 1) c (by simpa using hc) ρ S (by rw [show i + (j + 1) = i + 1 + j by omega]; exact hI)
      rw [show i + (j + 1) + 1 = i + 1 + j + 1 by omega] at this
      exact this
    refine ⟨ρ', S', by rw [List.length_cons, show i + (xs.length + 1) = i + 1 + xs.length by omega]; exact k1, ?_⟩
    rw [List.cons_append]
    conv => lhs; unfold forLoop
    rw [if_pos stands_nil, h1]
    dsimp only
    rw [h2]
    exact k2
def nk1 : SM := (sIf (mNot (mT (eArgs (needN 1 (pureF m_is_pair)) (aCons (eVar 3) aNil)))) (sRaise 0 (eVar 2)) sSkip)
def nk2 : SM := (sPar2 4 5 (aCons (eArgs (needN 2 (pureF m_need_marks)) (aCons (eBin bIx (eVar 3) (eC (.int 0))) (aCons (eVar 2) aNil))) (aCons (eArgs (needN 2 (pureF m_need_marks)) (aCons (eBin bIx (eVar 3) (eC (.int 1))) (aCons (eVar 2) aNil))) aNil)))
def nkO : EM := (eLc false (iOf (eVar 1)) (gTp 2 (gsCons (gN 6) (gsCons (gN 7) gsNil))) tYes' (eVar 6) [6, 7])
def nkA : EM := (eArgs gAll (aCons (eLc false (iOf (eVar 5)) (gN 8) tYes' (eBin (bIn false) (eVar 8) (eVar 4)) [8]) aNil))
def nk3t : TM := (mOr (mNot (mT nkA)) (mB (eBin (bIn false) (eVar 4) nkO)))
def nk3 : SM := sIf nk3t (sRaise 0 (eVar 2)) sSkip
def nk4 : SM := (sExpr (eBMl gAppend (eVar 1) (aCons (eArgs gTup (aCons (eVar 4) (aCons (eVar 5) aNil))) aNil)))
def nkB : SM := sCons nk1 (sCons nk2 (sCons nk3 nk4))
def nk0 : SM := (sIf (mNot (mT (eArgs (needN 1 (pureF m_is_sequence)) (aCons (eVar 0) aNil)))) (sRaise 0 (eUn uNeg (eC (.int 1)))) sSkip)
def nkT : GM := (gTp 2 (gsCons (gN 2) (gsCons (gN 3) gsNil)))
theorem nk_eq : b_need_kept_rows = sCons nk0 (sCons (sSet 1 (eArgs (gLst true) aNil)) (sCons (sFor (iArgs gEnumU (aCons (eVar 0) aNil)) nkT nkB) (sRet (eVar 1)))) := rfl
abbrev celR (rs : List Rw) : Sto := [.lst (rs.map fun r => R.dat (sD r))]
abbrev rhoN (v : PyData) (x2 x3 x4 x5 x6 x7 x8 : Option R) : Rho := [some (.dat v), some (.obj 0), x2, x3, x4, x5, x6, x7, x8]
section
variable {v : PyData} {rs : List Rw} {r : Rw} {b : Bool} {i : Nat} {x2 x3 x4 x5 x6 x7 x8 : Option R}
theorem ispair_ok (b : Bool) (r : Rw) : Gv m_is_pair [rD b r] (.bool true) := by cases b <;> rfl
theorem nk1_ok : nk1 (rhoN v x2 (some (.dat (rD b r))) x4 x5 x6 x7 x8) (celR rs) = .nx (rhoN v x2 (some (.dat (rD b r))) x4 x5 x6 x7 x8) (celR rs) := by
  have p := one_call (ispair_ok b r) (celR rs)
  unfold nk1
  simp only [Pev.fnB, Pev.OutS.toF, Pev.sCons, Pev.sSet, Pev.sRet, Pev.sRetN, Pev.sIf, Pev.sSkip, Pev.sExpr, Pev.sTgt, Pev.sFor, Pev.sRaise, Pev.sPut, Pev.sAugS, Pev.sPar2, Pev.sPar3, Pev.OutS.fade, Pev.OutS.calm, Pev.Out.toS, Pev.Out.bind, Pev.noX, Pev.eVar, Pev.eC, Pev.eBin, Pev.eUn, Pev.eArgs, Pev.aCons, Pev.aNil, Pev.needN, Pev.eAnd, Pev.eOr, Pev.eNot, Pev.eIf, Pev.mAnd, Pev.mOr, Pev.mNot, Pev.mB, Pev.mT, Pev.eChain, Pev.truth, Pev.ofT, Pev.ofB, Pev.R.d?, Pev.eLc, Pev.iOf, Pev.iArgs, Pev.gN, Pev.gTp, Pev.gsCons, Pev.gsNil, Pev.tv, Pev.eBMl, Pev.eFld, Pev.tYes', Pev.wipeR, Pev.permL, List.map_cons, List.map_nil, List.length_cons, List.length_nil, List.cons_append, List.nil_append, List.append_nil, List.replicate, List.getElem?_cons_zero, List.getElem?_cons_succ, List.getElem?_nil, List.set_cons_zero, List.set_cons_succ, List.set_nil, List.filterMap_cons, List.filterMap_nil, Option.map_some, Option.map_none, Option.bind_some, Option.bind_none, if_true, if_false, Bool.not_true, Bool.not_false, Nat.reduceSub, Nat.reduceAdd, Nat.reduceEqDiff, Nat.reduceLeDiff, reduceIte, ite_true, ite_false, Bool.true_eq_false, Bool.false_eq_true, ↓reduceIte, Nat.zero_add, Nat.add_zero, Nat.sub_zero, id_eq, Bool.or_false, Bool.or_true, Bool.true_or, Bool.false_or, Bool.and_true, Bool.true_and, Bool.and_false, Bool.false_and, Bool.and_self, Bool.or_self, p]
theorem ix0 (b : Bool) (r : Rw) (S : Sto) : bIx (.dat (rD b r)) (.dat (.int 0)) S = .ok (.dat (sq r.t (os r.lot))) S := by cases b <;> rfl
theorem ix1 (b : Bool) (r : Rw) (S : Sto) : bIx (.dat (rD b r)) (.dat (.int 1)) S = .ok (.dat (TU (os r.kp))) S := by cases b <;> rfl
theorem nk2_ok (h1 : r.lot.Nodup) (h2 : r.kp.Nodup) (l1 : r.lot.length ≤ 50) (l2 : r.kp.length ≤ 50) : nk2 (rhoN v (some (nR i)) (some (.dat (rD b r))) x4 x5 x6 x7 x8) (celR rs) = .nx (rhoN v (some (nR i)) (some (.dat (rD b r))) (some (.dat (TU (os (srt r.lot))))) (some (.dat (TU (os (srt r.kp))))) x6 x7 x8) (celR rs) := by
  have a0 := ix0 b r (celR rs)
  have a1 := ix1 b r (celR rs)
  have m0 := two_call (marks_ok r.t (.int (i : Nat)) h1 (by omega)) (celR rs)
  have m1 : pureF m_need_marks [.dat (TU (os r.kp)), .dat (.int (i : Nat))] (celR rs) = _ := two_call (marks_ok true (.int (i : Nat)) h2 (by omega)) (celR rs)
  unfold nk2
  unfold nR at *
  simp only [Pev.fnB, Pev.OutS.toF, Pev.sCons, Pev.sSet, Pev.sRet, Pev.sRetN, Pev.sIf, Pev.sSkip, Pev.sExpr, Pev.sTgt, Pev.sFor, Pev.sRaise, Pev.sPut, Pev.sAugS, Pev.sPar2, Pev.sPar3, Pev.OutS.fade, Pev.OutS.calm, Pev.Out.toS, Pev.Out.bind, Pev.noX, Pev.eVar, Pev.eC, Pev.eBin, Pev.eUn, Pev.eArgs, Pev.aCons, Pev.aNil, Pev.needN, Pev.eAnd, Pev.eOr, Pev.eNot, Pev.eIf, Pev.mAnd, Pev.mOr, Pev.mNot, Pev.mB, Pev.mT, Pev.eChain, Pev.truth, Pev.ofT, Pev.ofB, Pev.R.d?, Pev.eLc, Pev.iOf, Pev.iArgs, Pev.gN, Pev.gTp, Pev.gsCons, Pev.gsNil, Pev.tv, Pev.eBMl, Pev.eFld, Pev.tYes', Pev.wipeR, Pev.permL, List.map_cons, List.map_nil, List.length_cons, List.length_nil, List.cons_append, List.nil_append, List.append_nil, List.replicate, List.getElem?_cons_zero, List.getElem?_cons_succ, List.getElem?_nil, List.set_cons_zero, List.set_cons_succ, List.set_nil, List.filterMap_cons, List.filterMap_nil, Option.map_some, Option.map_none, Option.bind_some, Option.bind_none, if_true, if_false, Bool.not_true, Bool.not_false, Nat.reduceSub, Nat.reduceAdd, Nat.reduceEqDiff, Nat.reduceLeDiff, reduceIte, ite_true, ite_false, Bool.true_eq_false, Bool.false_eq_true, ↓reduceIte, Nat.zero_add, Nat.add_zero, Nat.sub_zero, id_eq, Bool.or_false, Bool.or_true, Bool.true_or, Bool.false_or, Bool.and_true, Bool.true_and, Bool.and_false, Bool.false_and, Bool.and_self, Bool.or_self, a0, a1, m0, m1]
theorem in_lots (l : List Nat) (rs : List Rw) (S : Sto) : bIn false (.dat (TU (os (srt l)))) (.dat (.list (rs.map fun r => TU (os (srt r.lot))))) S = .ok (.dat (.bool (rs.any fun r => decide (os (srt r.lot) = os (srt l))))) S := by
  have fl : Fit 2 (.list (rs.map fun r => TU (os (srt r.lot)))) := fit_lst fun d hd => by
    obtain ⟨a, _, rfl⟩ := List.mem_map.mp hd
    exact TU_fit _
  have := bin_list (neg := false) (S := S) ((TU_fit (os (srt l))).up (show 1 ≤ 2 by omega)) fl
  rw [if_neg (by simp), any_eqv (fun r : Rw => TU (os (srt r.lot))) (fun r => decide (os (srt r.lot) = os (srt l))) fun r _ => eqv_TU _ _] at this
  exact this
theorem srt_inj {l k : List Nat} (h : os (srt l) = os (srt k)) : l.Perm k := by
  have : srt l = srt k := by
    unfold os at h
    exact List.map_inj_right (fun x y e => Option.some.inj e) |>.mp h
  exact (srt_perm l).symm.trans (this ▸ srt_perm k)
theorem nkO_ok {l : R} (hl : rs.length ≤ 50) : nkO (rhoN v x2 x3 x4 x5 x6 x7 x8) (celR rs) = .ok (.dat (.list (rs.map fun r => TU (os (srt r.lot))))) (celR rs) := by
  have st : stands (celR rs) [(0, rs.map fun r => R.dat (sD r))] = true := stands_one (S := celR rs) rfl (by
    have : ∀ l : List Rw, sameRs (l.map fun r => R.dat (sD r)) (l.map fun r => R.dat (sD r)) = true := fun l => by
      induction l with
      | nil => rfl
      | cons a l ih =>
        rw [List.map_cons]
        unfold sameRs
        rw [ih, Bool.and_true]
        show same (sD a) (sD a) = true
        have tu : ∀ l : List Nat, same (TU (os l)) (TU (os l)) = true := fun l => by
          unfold TU
          rw [os_map]
          show sameAll _ _ = true
          induction l with
          | nil => rfl
          | cons a l ih =>
            rw [List.map_cons]
            unfold sameAll
            rw [ih, Bool.and_true]
            show decide _ = true
            exact decide_eq_true rfl
        unfold sD same sameAll
        rw [tu]
        show (true && sameAll [TU (os (srt a.kp))] _) = true
        unfold sameAll
        rw [tu]
        rfl
    exact this rs)
  have lc : lcLoop [(0, rs.map fun r => R.dat (sD r))] (gTp 2 (gsCons (gN 6) (gsCons (gN 7) gsNil))) tYes' (eVar 6) (rhoN v x2 x3 x4 x5 none none x8) (rs.map fun r => R.dat (sD r)) (celR rs) = .ok (rs.map fun r => R.dat (TU (os (srt r.lot)))) (celR rs) := by
    have := lc_pure (keep := [(0, rs.map fun r => R.dat (sD r))]) (g := (gTp 2 (gsCons (gN 6) (gsCons (gN 7) gsNil)))) (t := tYes') (elt := eVar 6) (ρ := rhoN v x2 x3 x4 x5 none none x8) (S := celR rs) (fun r : Rw => R.dat (sD r)) (fun _ => true) (fun r => R.dat (TU (os (srt r.lot)))) st rs (fun r _ => ⟨_, rfl, rfl, fun _ => rfl⟩)
    rw [List.filter_eq_self.mpr fun _ _ => rfl] at this
    exact this
  have it : itOf (.obj 0) (celR rs) = .ok ⟨rs.map fun r => R.dat (sD r), [(0, rs.map fun r => R.dat (sD r))]⟩ (celR rs) := rfl
  have sz := sz_of (show rs.length ≤ 10000 by omega)
  have nl := newL_f (fun r : Rw => TU (os (srt r.lot))) rs (celR rs)
  unfold nkO
  simp only [Pev.fnB, Pev.OutS.toF, Pev.sCons, Pev.sSet, Pev.sRet, Pev.sRetN, Pev.sIf, Pev.sSkip, Pev.sExpr, Pev.sTgt, Pev.sFor, Pev.sRaise, Pev.sPut, Pev.sAugS, Pev.sPar2, Pev.sPar3, Pev.OutS.fade, Pev.OutS.calm, Pev.Out.toS, Pev.Out.bind, Pev.noX, Pev.eVar, Pev.eC, Pev.eBin, Pev.eUn, Pev.eArgs, Pev.aCons, Pev.aNil, Pev.needN, Pev.eAnd, Pev.eOr, Pev.eNot, Pev.eIf, Pev.mAnd, Pev.mOr, Pev.mNot, Pev.mB, Pev.mT, Pev.eChain, Pev.truth, Pev.ofT, Pev.ofB, Pev.R.d?, Pev.eLc, Pev.iOf, Pev.iArgs, Pev.gN, Pev.gTp, Pev.gsCons, Pev.gsNil, Pev.tv, Pev.eBMl, Pev.eFld, Pev.tYes', Pev.wipeR, Pev.permL, List.map_cons, List.map_nil, List.length_cons, List.length_nil, List.cons_append, List.nil_append, List.append_nil, List.replicate, List.getElem?_cons_zero, List.getElem?_cons_succ, List.getElem?_nil, List.set_cons_zero, List.set_cons_succ, List.set_nil, List.filterMap_cons, List.filterMap_nil, Option.map_some, Option.map_none, Option.bind_some, Option.bind_none, if_true, if_false, Bool.not_true, Bool.not_false, Nat.reduceSub, Nat.reduceAdd, Nat.reduceEqDiff, Nat.reduceLeDiff, reduceIte, ite_true, ite_false, Bool.true_eq_false, Bool.false_eq_true, ↓reduceIte, Nat.zero_add, Nat.add_zero, Nat.sub_zero, id_eq, Bool.or_false, Bool.or_true, Bool.true_or, Bool.false_or, Bool.and_true, Bool.true_and, Bool.and_false, Bool.false_and, Bool.and_self, Bool.or_self, it, List.length_map, sz, lc, nl]
theorem nkA_ok (hs : ∀ x ∈ r.kp, x ∈ r.lot) (l2 : r.kp.length ≤ 50) : nkA (rhoN v x2 x3 (some (.dat (TU (os (srt r.lot))))) (some (.dat (TU (os (srt r.kp))))) x6 x7 x8) (celR rs) = .ok (.dat (.bool true)) (celR rs) := by
  have lk := (srt_perm r.kp).length_eq
  have it : itOf (.dat (TU (os (srt r.kp)))) (celR rs) = _ := it_sq true (os (srt r.kp)) (celR rs)
  have sz := sz_of (show (os (srt r.kp)).length ≤ 10000 by rw [os_len]; omega)
  have lc := lc_all (g := gN 8) (elt := (eBin (bIn false) (eVar 8) (eVar 4))) (ρ := rhoN v x2 x3 (some (.dat (TU (os (srt r.lot))))) (some (.dat (TU (os (srt r.kp))))) x6 x7 none) (S := celR rs) (fun a : Option Nat => R.dat (mo a)) (fun _ => R.dat (.bool true)) (os (srt r.kp)) fun a ha => ⟨_, rfl, by
    obtain ⟨n, hn, rfl⟩ := List.mem_map.mp ha
    have i : bIn false (.dat (mo (some n))) (.dat (TU (os (srt r.lot)))) (celR rs) = _ := in_sq false true (some n) (os (srt r.lot)) (celR rs)
    rw [if_neg (by simp), decide_eq_true (mem_os.mpr ((srt_perm r.lot).mem_iff.mpr (hs n ((srt_perm r.kp).mem_iff.mp hn))))] at i
    show (eBin (bIn false) (eVar 8) (eVar 4)) (rhoN v x2 x3 (some (.dat (TU (os (srt r.lot))))) (some (.dat (TU (os (srt r.kp))))) x6 x7 (some (.dat (mo (some n))))) (celR rs) = _
    simp only [Pev.fnB, Pev.OutS.toF, Pev.sCons, Pev.sSet, Pev.sRet, Pev.sRetN, Pev.sIf, Pev.sSkip, Pev.sExpr, Pev.sTgt, Pev.sFor, Pev.sRaise, Pev.sPut, Pev.sAugS, Pev.sPar2, Pev.sPar3, Pev.OutS.fade, Pev.OutS.calm, Pev.Out.toS, Pev.Out.bind, Pev.noX, Pev.eVar, Pev.eC, Pev.eBin, Pev.eUn, Pev.eArgs, Pev.aCons, Pev.aNil, Pev.needN, Pev.eAnd, Pev.eOr, Pev.eNot, Pev.eIf, Pev.mAnd, Pev.mOr, Pev.mNot, Pev.mB, Pev.mT, Pev.eChain, Pev.truth, Pev.ofT, Pev.ofB, Pev.R.d?, Pev.eLc, Pev.iOf, Pev.iArgs, Pev.gN, Pev.gTp, Pev.gsCons, Pev.gsNil, Pev.tv, Pev.eBMl, Pev.eFld, Pev.tYes', Pev.wipeR, Pev.permL, List.map_cons, List.map_nil, List.length_cons, List.length_nil, List.cons_append, List.nil_append, List.append_nil, List.replicate, List.getElem?_cons_zero, List.getElem?_cons_succ, List.getElem?_nil, List.set_cons_zero, List.set_cons_succ, List.set_nil, List.filterMap_cons, List.filterMap_nil, Option.map_some, Option.map_none, Option.bind_some, Option.bind_none, if_true, if_false, Bool.not_true, Bool.not_false, Nat.reduceSub, Nat.reduceAdd, Nat.reduceEqDiff, Nat.reduceLeDiff, reduceIte, ite_true, ite_false, Bool.true_eq_false, Bool.false_eq_true, ↓reduceIte, Nat.zero_add, Nat.add_zero, Nat.sub_zero, id_eq, Bool.or_false, Bool.or_true, Bool.true_or, Bool.false_or, Bool.and_true, Bool.true_and, Bool.and_false, Bool.false_and, Bool.and_self, Bool.or_self, i]⟩
  have nl := newL_f (fun _ : Option Nat => PyData.bool true) (os (srt r.kp)) (celR rs)
  have ga := all_t (os (srt r.kp)) (celR rs)
  unfold nkA
  simp only [Pev.fnB, Pev.OutS.toF, Pev.sCons, Pev.sSet, Pev.sRet, Pev.sRetN, Pev.sIf, Pev.sSkip, Pev.sExpr, Pev.sTgt, Pev.sFor, Pev.sRaise, Pev.sPut, Pev.sAugS, Pev.sPar2, Pev.sPar3, Pev.OutS.fade, Pev.OutS.calm, Pev.Out.toS, Pev.Out.bind, Pev.noX, Pev.eVar, Pev.eC, Pev.eBin, Pev.eUn, Pev.eArgs, Pev.aCons, Pev.aNil, Pev.needN, Pev.eAnd, Pev.eOr, Pev.eNot, Pev.eIf, Pev.mAnd, Pev.mOr, Pev.mNot, Pev.mB, Pev.mT, Pev.eChain, Pev.truth, Pev.ofT, Pev.ofB, Pev.R.d?, Pev.eLc, Pev.iOf, Pev.iArgs, Pev.gN, Pev.gTp, Pev.gsCons, Pev.gsNil, Pev.tv, Pev.eBMl, Pev.eFld, Pev.tYes', Pev.wipeR, Pev.permL, List.map_cons, List.map_nil, List.length_cons, List.length_nil, List.cons_append, List.nil_append, List.append_nil, List.replicate, List.getElem?_cons_zero, List.getElem?_cons_succ, List.getElem?_nil, List.set_cons_zero, List.set_cons_succ, List.set_nil, List.filterMap_cons, List.filterMap_nil, Option.map_some, Option.map_none, Option.bind_some, Option.bind_none, if_true, if_false, Bool.not_true, Bool.not_false, Nat.reduceSub, Nat.reduceAdd, Nat.reduceEqDiff, Nat.reduceLeDiff, reduceIte, ite_true, ite_false, Bool.true_eq_false, Bool.false_eq_true, ↓reduceIte, Nat.zero_add, Nat.add_zero, Nat.sub_zero, id_eq, Bool.or_false, Bool.or_true, Bool.true_or, Bool.false_or, Bool.and_true, Bool.true_and, Bool.and_false, Bool.false_and, Bool.and_self, Bool.or_self, it, List.length_map, sz, lc, nl, ga]
theorem nk3t_ok (hs : ∀ x ∈ r.kp, x ∈ r.lot) (l2 : r.kp.length ≤ 50) (hl : rs.length ≤ 50) : nk3t (rhoN v x2 x3 (some (.dat (TU (os (srt r.lot))))) (some (.dat (TU (os (srt r.kp))))) x6 x7 x8) (celR rs) = .ok (rs.any fun q => decide (os (srt q.lot) = os (srt r.lot))) (celR rs) := by
  have a := nkA_ok (v := v) (rs := rs) (x2 := x2) (x3 := x3) (x6 := x6) (x7 := x7) (x8 := x8) hs l2
  have o := nkO_ok (v := v) (rs := rs) (x2 := x2) (x3 := x3) (x4 := some (.dat (TU (os (srt r.lot))))) (x5 := some (.dat (TU (os (srt r.kp))))) (x6 := x6) (x7 := x7) (x8 := x8) (l := nR 0) hl
  have i := in_lots r.lot rs (celR rs)
  unfold nk3t
  generalize nkA = m1 at a
  generalize nkO = m2 at o
  simp only [Pev.fnB, Pev.OutS.toF, Pev.sCons, Pev.sSet, Pev.sRet, Pev.sRetN, Pev.sIf, Pev.sSkip, Pev.sExpr, Pev.sTgt, Pev.sFor, Pev.sRaise, Pev.sPut, Pev.sAugS, Pev.sPar2, Pev.sPar3, Pev.OutS.fade, Pev.OutS.calm, Pev.Out.toS, Pev.Out.bind, Pev.noX, Pev.eVar, Pev.eC, Pev.eBin, Pev.eUn, Pev.eArgs, Pev.aCons, Pev.aNil, Pev.needN, Pev.eAnd, Pev.eOr, Pev.eNot, Pev.eIf, Pev.mAnd, Pev.mOr, Pev.mNot, Pev.mB, Pev.mT, Pev.eChain, Pev.truth, Pev.ofT, Pev.ofB, Pev.R.d?, Pev.eLc, Pev.iOf, Pev.iArgs, Pev.gN, Pev.gTp, Pev.gsCons, Pev.gsNil, Pev.tv, Pev.eBMl, Pev.eFld, Pev.tYes', Pev.wipeR, Pev.permL, List.map_cons, List.map_nil, List.length_cons, List.length_nil, List.cons_append, List.nil_append, List.append_nil, List.replicate, List.getElem?_cons_zero, List.getElem?_cons_succ, List.getElem?_nil, List.set_cons_zero, List.set_cons_succ, List.set_nil, List.filterMap_cons, List.filterMap_nil, Option.map_some, Option.map_none, Option.bind_some, Option.bind_none, if_true, if_false, Bool.not_true, Bool.not_false, Nat.reduceSub, Nat.reduceAdd, Nat.reduceEqDiff, Nat.reduceLeDiff, reduceIte, ite_true, ite_false, Bool.true_eq_false, Bool.false_eq_true, ↓reduceIte, Nat.zero_add, Nat.add_zero, Nat.sub_zero, id_eq, Bool.or_false, Bool.or_true, Bool.true_or, Bool.false_or, Bool.and_true, Bool.true_and, Bool.and_false, Bool.false_and, Bool.and_self, Bool.or_self, a, o, i]
theorem nkB_ok (h1 : r.lot.Nodup) (h2 : r.kp.Nodup) (hs : ∀ x ∈ r.kp, x ∈ r.lot) (l1 : r.lot.length ≤ 50) (l2 : r.kp.length ≤ 50) (hl : rs.length ≤ 50) (hu : ∀ q ∈ rs, ¬ q.lot.Perm r.lot) : ∃ x4' x5', nkB (rhoN v (some (nR i)) (some (.dat (rD b r))) x4 x5 x6 x7 x8) (celR rs) = .nx (rhoN v (some (nR i)) (some (.dat (rD b r))) x4' x5' x6 x7 x8) (celR (rs ++ [r])) := by
  have e1 := nk1_ok (v := v) (rs := rs) (r := r) (b := b) (x2 := some (nR i)) (x4 := x4) (x5 := x5) (x6 := x6) (x7 := x7) (x8 := x8)
  have e2 := nk2_ok (v := v) (rs := rs) (b := b) (i := i) (x4 := x4) (x5 := x5) (x6 := x6) (x7 := x7) (x8 := x8) h1 h2 l1 l2
  have t3 := nk3t_ok (v := v) (rs := rs) (x2 := some (nR i)) (x3 := some (.dat (rD b r))) (x6 := x6) (x7 := x7) (x8 := x8) hs l2 hl
  have f : (rs.any fun q => decide (os (srt q.lot) = os (srt r.lot))) = false := by
    rw [List.any_eq_false]
    intro q hq h
    exact hu q hq (srt_inj (of_decide_eq_true h))
  rw [f] at t3
  have e3 : nk3 (rhoN v (some (nR i)) (some (.dat (rD b r))) (some (.dat (TU (os (srt r.lot))))) (some (.dat (TU (os (srt r.kp))))) x6 x7 x8) (celR rs) = .nx (rhoN v (some (nR i)) (some (.dat (rD b r))) (some (.dat (TU (os (srt r.lot))))) (some (.dat (TU (os (srt r.kp))))) x6 x7 x8) (celR rs) := (sif_f t3).trans rfl
  have ap := appO (S := celR rs) (k := 0) (rs := rs.map fun r => R.dat (sD r)) (mo := eVar 1) (me := (eArgs gTup (aCons (eVar 4) (aCons (eVar 5) aNil)))) (ρ := rhoN v (some (nR i)) (some (.dat (rD b r))) (some (.dat (TU (os (srt r.lot))))) (some (.dat (TU (os (srt r.kp))))) x6 x7 x8) (y := .dat (sD r)) rfl rfl rfl (by rw [List.length_map]; omega)
  have e4 : nk4 (rhoN v (some (nR i)) (some (.dat (rD b r))) (some (.dat (TU (os (srt r.lot))))) (some (.dat (TU (os (srt r.kp))))) x6 x7 x8) (celR rs) = .nx (rhoN v (some (nR i)) (some (.dat (rD b r))) (some (.dat (TU (os (srt r.lot))))) (some (.dat (TU (os (srt r.kp))))) x6 x7 x8) (celR (rs ++ [r])) := by
    refine ap.trans ?_
    show OutS.nx _ [Cell.lst ((rs.map fun r => R.dat (sD r)) ++ [.dat (sD r)])] = .nx _ [Cell.lst ((rs ++ [r]).map fun r => R.dat (sD r))]
    rw [List.map_append]
    rfl
  exact ⟨_, _, (cons_nx e1).trans ((cons_nx e2).trans ((cons_nx e3).trans e4))⟩
end
/-- the loop over good rows, more may follow -/
theorem rows_go {rs : List Rw} (hG : GR rs) (b : Bool) (v : PyData) (more : List R) : ∃ x2 x3 x4 x5, forLoop [] nkT nkB (((pairsF 0 (rs.map (rD b))).map R.dat) ++ more) (rhoN v none none none none none none none) (celR []) = forLoop [] nkT nkB more (rhoN v x2 x3 x4 x5 none none none) (celR rs) := by
  obtain ⟨ρ', S', ⟨x2, x3, x4, x5, rfl, rfl⟩, e⟩ := for_go (g := nkT) (b := nkB) (fun i ρ S => ∃ x2 x3 x4 x5, ρ = rhoN v x2 x3 x4 x5 none none none ∧ S = celR (rs.take i)) more ((pairsF 0 (rs.map (rD b))).map R.dat) 0 (rhoN v none none none none none none none) (celR []) ⟨none, none, none, none, rfl, rfl⟩ (by
    rintro j a hj ρ S ⟨x2, x3, x4, x5, rfl, rfl⟩
    rw [pairs_f, List.getElem?_map] at hj
    obtain ⟨⟨r, j'⟩, hz, rfl⟩ := Option.map_eq_some_iff.mp hj
    rw [List.getElem?_zipIdx] at hz
    obtain ⟨r', hr, e⟩ := Option.map_eq_some_iff.mp hz
    have e1 : r' = r := (Prod.mk.inj e).1
    have e2 : j = j' := by have := (Prod.mk.inj e).2; omega
    subst e1; subst e2
    rw [Nat.zero_add]
    obtain ⟨h1, h2, h3, h4, h5⟩ := hG.nl r' (List.mem_of_getElem? hr)
    have hlt := (List.getElem?_eq_some_iff.mp hr).1
    have hu : ∀ q ∈ rs.take j, ¬ q.lot.Perm r'.lot := fun q hq => by
      obtain ⟨m, hm⟩ := List.mem_iff_getElem?.mp hq
      rw [List.getElem?_take] at hm
      split at hm
      · rename_i lt
        obtain ⟨m1, m2⟩ := List.getElem?_eq_some_iff.mp hm
        obtain ⟨r1, r2⟩ := List.getElem?_eq_some_iff.mp hr
        have := List.pairwise_iff_getElem.mp hG.un m j m1 r1 lt
        rw [m2, r2] at this
        exact this
      · cases hm
    obtain ⟨y4, y5, e⟩ := nkB_ok (v := v) (rs := rs.take j) (r := r') (b := b) (i := j) (x4 := x4) (x5 := x5) (x6 := none) (x7 := none) (x8 := none) h1 h2 h3 h4 h5 (by rw [List.length_take]; have := hG.few; omega) hu
    refine ⟨_, _, _, rfl, e, _, _, _, _, rfl, ?_⟩
    rw [List.take_add_one, hr]
    rfl)
  rw [Nat.zero_add, List.length_map, pairsF_len, List.length_map, List.take_length] at e
  exact ⟨x2, x3, x4, x5, e⟩
theorem needrows_ok {rs : List Rw} (hG : GR rs) (b : Bool) : Gv m_need_kept_rows [.list (rs.map (rD b))] (.list (rs.map sD)) := by
  have is : Gv m_is_sequence [.list (rs.map (rD b))] (.bool true) := rfl
  have is := one_call is []
  have e0 : nk0 [some (.dat (.list (rs.map (rD b)))), none, none, none, none, none, none, none, none] [] = .nx [some (.dat (.list (rs.map (rD b)))), none, none, none, none, none, none, none, none] [] := by
    unfold nk0
    simp only [Pev.fnB, Pev.OutS.toF, Pev.sCons, Pev.sSet, Pev.sRet, Pev.sRetN, Pev.sIf, Pev.sSkip, Pev.sExpr, Pev.sTgt, Pev.sFor, Pev.sRaise, Pev.sPut, Pev.sAugS, Pev.sPar2, Pev.sPar3, Pev.OutS.fade, Pev.OutS.calm, Pev.Out.toS, Pev.Out.bind, Pev.noX, Pev.eVar, Pev.eC, Pev.eBin, Pev.eUn, Pev.eArgs, Pev.aCons, Pev.aNil, Pev.needN, Pev.eAnd, Pev.eOr, Pev.eNot, Pev.eIf, Pev.mAnd, Pev.mOr, Pev.mNot, Pev.mB, Pev.mT, Pev.eChain, Pev.truth, Pev.ofT, Pev.ofB, Pev.R.d?, Pev.eLc, Pev.iOf, Pev.iArgs, Pev.gN, Pev.gTp, Pev.gsCons, Pev.gsNil, Pev.tv, Pev.eBMl, Pev.eFld, Pev.tYes', Pev.wipeR, Pev.permL, List.map_cons, List.map_nil, List.length_cons, List.length_nil, List.cons_append, List.nil_append, List.append_nil, List.replicate, List.getElem?_cons_zero, List.getElem?_cons_succ, List.getElem?_nil, List.set_cons_zero, List.set_cons_succ, List.set_nil, List.filterMap_cons, List.filterMap_nil, Option.map_some, Option.map_none, Option.bind_some, Option.bind_none, if_true, if_false, Bool.not_true, Bool.not_false, Nat.reduceSub, Nat.reduceAdd, Nat.reduceEqDiff, Nat.reduceLeDiff, reduceIte, ite_true, ite_false, Bool.true_eq_false, Bool.false_eq_true, ↓reduceIte, Nat.zero_add, Nat.add_zero, Nat.sub_zero, id_eq, Bool.or_false, Bool.or_true, Bool.true_or, Bool.false_or, Bool.and_true, Bool.true_and, Bool.and_false, Bool.false_and, Bool.and_self, Bool.or_self, is]
  have e1 : sSet 1 (eArgs (gLst true) aNil) [some (.dat (.list (rs.map (rD b)))), none, none, none, none, none, none, none, none] [] = .nx (rhoN (.list (rs.map (rD b))) none none none none none none none) (celR []) := rfl
  obtain ⟨x2, x3, x4, x5, e⟩ := rows_go hG b (.list (rs.map (rD b))) []
  rw [List.append_nil] at e
  have e2 : sFor (iArgs gEnumU (aCons (eVar 0) aNil)) nkT nkB (rhoN (.list (rs.map (rD b))) none none none none none none none) (celR []) = .nx (rhoN (.list (rs.map (rD b))) x2 x3 x4 x5 none none none) (celR rs) := by
    unfold sFor
    rw [show iArgs gEnumU (aCons (eVar 0) aNil) (rhoN (.list (rs.map (rD b))) none none none none none none none) (celR []) = .ok (⟨(pairsF 0 (rs.map (rD b))).map R.dat, []⟩ : Items) (celR []) from rfl]
    show forLoop [] nkT nkB _ _ _ = _
    rw [e]
    unfold forLoop
    rw [if_pos stands_nil]
  show outD (OutS.toF (b_need_kept_rows [some (.dat (.list (rs.map (rD b)))), none, none, none, none, none, none, none, none] [])) = _
  rw [nk_eq, cons_nx e0, cons_nx e1, cons_nx e2]
  show snap (celR rs) depS (.obj 0) = _
  exact snap_obj sD rs rfl
/-! ### what is missed -/
def cnd (a b : Rw) (n : Nat) : Bool := decide (apart (os a.lot) (os b.lot) ≤ n) && (com (os a.lot) (os b.lot) && !com (os a.kp) (os b.kp))
theorem com_perm {a a' b b' : List Nat} (h1 : a.Perm a') (h2 : b.Perm b') : com (os a) (os b) = com (os a') (os b') := by
  unfold com
  rw [Bool.eq_iff_iff, List.any_eq_true, List.any_eq_true]
  constructor
  · rintro ⟨x, hx, hy⟩
    exact ⟨x, (h1.map some).mem_iff.mp hx, decide_eq_true ((h2.map some).mem_iff.mp (of_decide_eq_true hy))⟩
  · rintro ⟨x, hx, hy⟩
    exact ⟨x, (h1.map some).mem_iff.mpr hx, decide_eq_true ((h2.map some).mem_iff.mpr (of_decide_eq_true hy))⟩
theorem apart_perm {a a' b b' : List Nat} (h1 : a.Perm a') (h2 : b.Perm b') : apart (os a) (os b) = apart (os a') (os b') := by
  rw [apart_os, apart_os, off_perm h1 h2, off_perm h2 h1]
def msd (i : Nat) (k : Nat) : PyData := .tuple [.str "missed", .int (i : Nat), .int ((i : Int) + (k : Nat))]
def keptD : PyData := .tuple [.str "kept"]
def hitK (rs : List Rw) (n i k : Nat) : Option R := match rs[i]?, rs[i + k]? with
  | some a, some b => if cnd a b n then some (.dat (msd i k)) else none
  | _, _ => none
def hitI (rs : List Rw) (n i : Nat) : Option R := (List.range (rs.length - i)).findSome? (hitK rs n i)
def missR (rs : List Rw) (n : Nat) : Option R := (List.range rs.length).findSome? (hitI rs n)
end Lw
namespace Lw
open PySem Pev
open L2 (atI ixN cutS)
theorem ix_list {α : Type} {f : α → PyData} {xs : List α} {i : Nat} {a : α} (h : xs[i]? = some a) (S : Sto) : bIx (.dat (.list (xs.map f))) (.dat (.int (i : Nat))) S = .ok (.dat (f a)) S := by
  have e := at_map (f := fun a => R.dat (f a)) (xs := xs) (i := (i : Int)) (by omega) (by rw [Int.toNat_natCast]; exact h)
  unfold bIx
  dsimp only [lv]
  rw [map_dat, e]
theorem gr2 (i j : Int) (h1 : -1000 ≤ i) (h2 : i ≤ 1000) (h3 : -1000 ≤ j) (h4 : j ≤ 1000) (S : Sto) : gRange2 [.dat (.int i), .dat (.int j)] S = .ok ⟨(List.range (j - i).toNat).map fun k : Nat => R.dat (.int (i + k)), []⟩ S := by
  have e : (inR i && inR j) = true := by
    unfold inR
    rw [Bool.and_eq_true]
    exact ⟨decide_eq_true (by omega), decide_eq_true (by omega)⟩
  unfold gRange2
  dsimp only
  rw [if_pos e]
  rfl
theorem any_b {α : Type} (p : α → Bool) (xs : List α) (S : Sto) : gAny [.dat (.list (xs.map fun x => .bool (p x)))] S = .ok (.dat (.bool (xs.any p))) S := by
  unfold gAny
  simp only [Pev.fnB, Pev.OutS.toF, Pev.sCons, Pev.sSet, Pev.sRet, Pev.sRetN, Pev.sIf, Pev.sSkip, Pev.sExpr, Pev.sTgt, Pev.sFor, Pev.sRaise, Pev.sPut, Pev.putAt, Pev.sPar2, Pev.sPar3, Pev.sTry, Pev.hRun, Pev.OutS.fade, Pev.OutS.calm, Pev.Out.toS, Pev.Out.bind, Pev.noX, Pev.eVar, Pev.eC, Pev.eBin, Pev.eUn, Pev.eArgs, Pev.aCons, Pev.aNil, Pev.needN, Pev.eAnd, Pev.eOr, Pev.eNot, Pev.eIf, Pev.mAnd, Pev.mOr, Pev.mNot, Pev.mB, Pev.mT, Pev.eChain, Pev.truth, Pev.ans, Pev.ofT, Pev.ofB, Pev.bAdd, Pev.bSub, Pev.bMul, Pev.bDiv, Pev.bMod, Pev.bLt, Pev.bLe, Pev.bGt, Pev.bGe, Pev.bIsN, Pev.isNone?, Pev.uNeg, Pev.bIx, Pev.lv, Pev.lvt, Pev.gLen, Pev.gAbs, Pev.gInt, Pev.gBool, Pev.gList, Pev.gTuple, Pev.gTup, Pev.gLst, Pev.newL, Pev.newT, Pev.datAll, Pev.R.d?, Pev.uIs, Pev.tyOf, Pev.eLc, Pev.iOf, Pev.itOf, Pev.iArgs, Pev.gRange1, Pev.gRange2, Pev.gN, Pev.gTp, Pev.gsCons, Pev.gsNil, Pev.tv, Pev.eBMl, Pev.gAppend, Pev.gPop, Pev.gExtend, Pev.cellOf, Pev.eFld, Pev.tYes', Pev.wipeR, Pev.permL, List.map_cons, List.map_nil, List.length_cons, List.length_nil, List.cons_append, List.nil_append, List.append_nil, List.replicate, List.getElem?_cons_zero, List.getElem?_cons_succ, List.getElem?_nil, List.set_cons_zero, List.set_cons_succ, List.set_nil, List.filterMap_cons, List.filterMap_nil, Option.map_some, Option.map_none, Option.bind_some, Option.bind_none, if_true, if_false, Bool.not_true, Bool.not_false, Nat.reduceSub, Nat.reduceAdd, Nat.reduceEqDiff, Nat.reduceLeDiff, reduceIte, ite_true, ite_false, Bool.true_eq_false, Bool.false_eq_true, ↓reduceIte, Nat.zero_add, Nat.add_zero, Nat.sub_zero, Pev.outD_dat, Pev.snap_dat, Pev.outX, List.any_cons, List.any_nil, List.all_cons, List.all_nil, id_eq, Bool.or_false, Bool.or_true, Bool.true_or, Bool.false_or, Bool.and_true, Bool.true_and, Bool.and_false, Bool.false_and, Bool.and_self, Bool.or_self, Int.cast_ofNat_Int, decide_true, decide_false, Pev.isa_self, Pev.isa_bi, Pev.isa_tl, Pev.isa_lt, Pev.isa_ti, Pev.isa_li, Pev.isa_it, Pev.gAll, Pev.gAny, Pev.gSum, Pev.bls?, Pev.ints?, Pev.eq_ints, Pev.datAll_map, Pev.map_dat, Pev.app_map, Pev.datAll_f, Pev.ints_f, Pev.bls_f, Pev.at0, Pev.at1, Pev.at2, Pev.atLast, Pev.two_small, Pev.three_small, Pev.one_small, Pev.nil_small, Pev.oPart, Pev.toI, Pev.eSl, Pev.gSl, Pev.uRev, List.isEmpty_cons, List.isEmpty_nil, ]
  rw [List.any_map]
  rfl
theorem len_list {α : Type} (f : α → PyData) (xs : List α) (hl : xs.length ≤ 1000) (S : Sto) : gLen [.dat (.list (xs.map f))] S = .ok (nR xs.length) S := by
  have sz := sz_of (show xs.length ≤ 10000 by omega)
  simp only [Pev.fnB, Pev.OutS.toF, Pev.sCons, Pev.sSet, Pev.sRet, Pev.sRetN, Pev.sIf, Pev.sSkip, Pev.sExpr, Pev.sTgt, Pev.sFor, Pev.sRaise, Pev.sPut, Pev.putAt, Pev.sPar2, Pev.sPar3, Pev.sTry, Pev.hRun, Pev.OutS.fade, Pev.OutS.calm, Pev.Out.toS, Pev.Out.bind, Pev.noX, Pev.eVar, Pev.eC, Pev.eBin, Pev.eUn, Pev.eArgs, Pev.aCons, Pev.aNil, Pev.needN, Pev.eAnd, Pev.eOr, Pev.eNot, Pev.eIf, Pev.mAnd, Pev.mOr, Pev.mNot, Pev.mB, Pev.mT, Pev.eChain, Pev.truth, Pev.ans, Pev.ofT, Pev.ofB, Pev.bAdd, Pev.bSub, Pev.bMul, Pev.bDiv, Pev.bMod, Pev.bLt, Pev.bLe, Pev.bGt, Pev.bGe, Pev.bIsN, Pev.isNone?, Pev.uNeg, Pev.bIx, Pev.lv, Pev.lvt, Pev.gLen, Pev.gAbs, Pev.gInt, Pev.gBool, Pev.gList, Pev.gTuple, Pev.gTup, Pev.gLst, Pev.newL, Pev.newT, Pev.datAll, Pev.R.d?, Pev.uIs, Pev.tyOf, Pev.eLc, Pev.iOf, Pev.itOf, Pev.iArgs, Pev.gRange1, Pev.gRange2, Pev.gN, Pev.gTp, Pev.gsCons, Pev.gsNil, Pev.tv, Pev.eBMl, Pev.gAppend, Pev.gPop, Pev.gExtend, Pev.cellOf, Pev.eFld, Pev.tYes', Pev.wipeR, Pev.permL, List.map_cons, List.map_nil, List.length_cons, List.length_nil, List.cons_append, List.nil_append, List.append_nil, List.replicate, List.getElem?_cons_zero, List.getElem?_cons_succ, List.getElem?_nil, List.set_cons_zero, List.set_cons_succ, List.set_nil, List.filterMap_cons, List.filterMap_nil, Option.map_some, Option.map_none, Option.bind_some, Option.bind_none, if_true, if_false, Bool.not_true, Bool.not_false, Nat.reduceSub, Nat.reduceAdd, Nat.reduceEqDiff, Nat.reduceLeDiff, reduceIte, ite_true, ite_false, Bool.true_eq_false, Bool.false_eq_true, ↓reduceIte, Nat.zero_add, Nat.add_zero, Nat.sub_zero, Pev.outD_dat, Pev.snap_dat, Pev.outX, List.any_cons, List.any_nil, List.all_cons, List.all_nil, id_eq, Bool.or_false, Bool.or_true, Bool.true_or, Bool.false_or, Bool.and_true, Bool.true_and, Bool.and_false, Bool.false_and, Bool.and_self, Bool.or_self, Int.cast_ofNat_Int, decide_true, decide_false, Pev.isa_self, Pev.isa_bi, Pev.isa_tl, Pev.isa_lt, Pev.isa_ti, Pev.isa_li, Pev.isa_it, Pev.gAll, Pev.gAny, Pev.gSum, Pev.bls?, Pev.ints?, Pev.eq_ints, Pev.datAll_map, Pev.map_dat, Pev.app_map, Pev.datAll_f, Pev.ints_f, Pev.bls_f, Pev.at0, Pev.at1, Pev.at2, Pev.atLast, Pev.two_small, Pev.three_small, Pev.one_small, Pev.nil_small, Pev.oPart, Pev.toI, Pev.eSl, Pev.gSl, Pev.uRev, List.isEmpty_cons, List.isEmpty_nil, List.length_map, sz]
def kpT : SM := (sTgt (gTp 2 (gsCons (gTp 2 (gsCons (gN 4) (gsCons (gN 5) gsNil))) (gsCons (gTp 2 (gsCons (gN 6) (gsCons (gN 7) gsNil))) gsNil))) (eArgs gTup (aCons (eBin bIx (eVar 0) (eVar 2)) (aCons (eBin bIx (eVar 0) (eVar 3)) aNil))))
def kpR : SM := (sRet (eArgs gTup (aCons (eC (.str "missed")) (aCons (eVar 2) (aCons (eVar 3) aNil)))))
def kc1 : TM := (mB (eBin bLe (eArgs (needN 2 (pureF m_lots_apart)) (aCons (eVar 4) (aCons (eVar 6) aNil))) (eVar 1)))
def kc2 : TM := (mT (eArgs gAny (aCons (eLc false (iOf (eVar 4)) (gN 8) tYes' (eBin (bIn false) (eVar 8) (eVar 6)) [8]) aNil)))
def kc3 : TM := (mT (eArgs gAny (aCons (eLc false (iOf (eVar 5)) (gN 8) tYes' (eBin (bIn false) (eVar 8) (eVar 7)) [8]) aNil)))
def kpI : SM := sIf (mAnd kc1 kc2) (sIf (mNot kc3) kpR sSkip) sSkip
def kpF : SM := (sFor (iArgs gRange2 (aCons (eVar 2) (aCons (eArgs gLen (aCons (eVar 0) aNil)) aNil))) (gN 3) (sCons kpT kpI))
theorem kp_eq : b_keeping_paper = sCons (sSet 0 (eArgs (needN 1 (pureF m_need_kept_rows)) (aCons (eVar 0) aNil))) (sCons (sExpr (eArgs (fun rs => needN 3 (pureF m_need_many) (rs ++ [.int 0].map .dat)) (aCons (eVar 1) (aCons (eC (.str "near")) aNil))))
    (sCons (sFor (iArgs gRange1 (aCons (eArgs gLen (aCons (eVar 0) aNil)) aNil)) (gN 2) kpF) (sRet (eArgs gTup (aCons (eC (.str "kept")) aNil))))) := rfl
def lc1 : TM := (mB (eBin bLe (eArgs (needN 2 (pureF m__law_apart)) (aCons (eVar 4) (aCons (eVar 6) aNil))) (eVar 1)))
def lc2 : TM := (mT (eArgs (needN 2 (pureF m__law_common)) (aCons (eVar 4) (aCons (eVar 6) aNil))))
def lc3 : TM := (mT (eArgs (needN 2 (pureF m__law_common)) (aCons (eVar 5) (aCons (eVar 7) aNil))))
def lmI : SM := sIf (mAnd lc1 (mAnd lc2 (mNot lc3))) kpR sSkip
def lmF : SM := (sFor (iArgs gRange2 (aCons (eVar 2) (aCons (eArgs gLen (aCons (eVar 0) aNil)) aNil))) (gN 3) (sCons kpT lmI))
theorem lm_eq : b__law_missed = sCons (sFor (iArgs gRange1 (aCons (eArgs gLen (aCons (eVar 0) aNil)) aNil)) (gN 2) lmF) (sRet (eArgs gTup (aCons (eC (.str "kept")) aNil))) := rfl
theorem mNot_ok {a : TM} {ρ : Rho} {S : Sto} {p : Bool} (h : a ρ S = .ok p S) : mNot a ρ S = .ok (!p) S := by
  unfold mNot
  rw [h]
  rfl
/-! the two turns -/
section
variable {rs : List Rw} {n i k : Nat} {a b : Rw} {v : PyData} {x2 x3 x4 x5 x6 x7 x8 : Option R}
abbrev rhoP (v : PyData) (n : Nat) (x2 x3 x4 x5 x6 x7 x8 : Option R) : Rho := [some (.dat v), some (nR n), x2, x3, x4, x5, x6, x7, x8]
abbrev rhoM (v : PyData) (n : Nat) (x2 x3 x4 x5 x6 x7 : Option R) : Rho := [some (.dat v), some (nR n), x2, x3, x4, x5, x6, x7]
def iR (i k : Nat) : R := .dat (.int ((i : Int) + (k : Nat)))
theorem any_com (t u : Bool) (la lb : OL) (ll : la.length ≤ 60) (ρ : Rho) (j m : Nat) (hj : (wipeR ρ [8])[j]? = ρ[j]?) (h1 : ρ[j]? = some (some (.dat (sq t la)))) (h2 : ∀ y, (((wipeR ρ [8]).set 8 y))[m]? = some (some (.dat (sq u lb)))) (h8 : ∀ y, ((wipeR ρ [8]).set 8 y)[8]? = some y) : (mT (eArgs gAny (aCons (eLc false (iOf (eVar j)) (gN 8) tYes' (eBin (bIn false) (eVar 8) (eVar m)) [8]) aNil))) ρ [] = .ok (com la lb) [] := by
  have it := it_sq t la []
  have sz := sz_of (show la.length ≤ 10000 by omega)
  have lc := lc_all (g := gN 8) (elt := (eBin (bIn false) (eVar 8) (eVar m))) (ρ := wipeR ρ [8]) (S := []) (fun x : Option Nat => R.dat (mo x)) (fun x => R.dat (.bool (decide (x ∈ lb)))) la (fun x _ => ⟨_, rfl, by
    have i := in_sq false u x lb []
    rw [if_neg (by simp)] at i
    have g1 := h8 (some (.dat (mo x)))
    have g2 := h2 (some (.dat (mo x)))
    generalize (wipeR ρ [8]).set 8 (some (.dat (mo x))) = ρ2 at g1 g2
    simp only [Pev.fnB, Pev.OutS.toF, Pev.sCons, Pev.sSet, Pev.sRet, Pev.sRetN, Pev.sIf, Pev.sSkip, Pev.sExpr, Pev.sTgt, Pev.sFor, Pev.sRaise, Pev.sPut, Pev.sAugS, Pev.sPar2, Pev.sPar3, Pev.OutS.fade, Pev.OutS.calm, Pev.Out.toS, Pev.Out.bind, Pev.noX, Pev.eVar, Pev.eC, Pev.eBin, Pev.eUn, Pev.eArgs, Pev.aCons, Pev.aNil, Pev.needN, Pev.eAnd, Pev.eOr, Pev.eNot, Pev.eIf, Pev.mAnd, Pev.mOr, Pev.mNot, Pev.mB, Pev.mT, Pev.eChain, Pev.truth, Pev.ofT, Pev.ofB, Pev.R.d?, Pev.eLc, Pev.iOf, Pev.iArgs, Pev.gN, Pev.gTp, Pev.gsCons, Pev.gsNil, Pev.tv, Pev.eBMl, Pev.eFld, Pev.tYes', Pev.wipeR, Pev.permL, List.map_cons, List.map_nil, List.length_cons, List.length_nil, List.cons_append, List.nil_append, List.append_nil, List.replicate, List.getElem?_cons_zero, List.getElem?_cons_succ, List.getElem?_nil, List.set_cons_zero, List.set_cons_succ, List.set_nil, List.filterMap_cons, List.filterMap_nil, Option.map_some, Option.map_none, Option.bind_some, Option.bind_none, if_true, if_false, Bool.not_true, Bool.not_false, Nat.reduceSub, Nat.reduceAdd, Nat.reduceEqDiff, Nat.reduceLeDiff, reduceIte, ite_true, ite_false, Bool.true_eq_false, Bool.false_eq_true, ↓reduceIte, Nat.zero_add, Nat.add_zero, Nat.sub_zero, id_eq, Bool.or_false, Bool.or_true, Bool.true_or, Bool.false_or, Bool.and_true, Bool.true_and, Bool.and_false, Bool.false_and, Bool.and_self, Bool.or_self, g1, g2, i]⟩)
  have nl := newL_f (fun x : Option Nat => PyData.bool (decide (x ∈ lb))) la []
  have ga := any_b (fun x : Option Nat => decide (x ∈ lb)) la []
  have el : eLc false (iOf (eVar j)) (gN 8) tYes' (eBin (bIn false) (eVar 8) (eVar m)) [8] ρ [] = .ok (.dat (.list (la.map fun x => .bool (decide (x ∈ lb))))) [] := by
    unfold eLc
    have ei : iOf (eVar j) ρ [] = .ok ⟨la.map fun a => R.dat (mo a), []⟩ [] := by
      unfold iOf eVar
      rw [h1]
      exact it
    rw [ei]
    dsimp only [Out.bind]
    rw [List.length_map, if_pos (of_eq_true sz), lc]
    dsimp only
    exact nl
  generalize eLc false (iOf (eVar j)) (gN 8) tYes' (eBin (bIn false) (eVar 8) (eVar m)) [8] = mm at el
  unfold com
  simp only [Pev.fnB, Pev.OutS.toF, Pev.sCons, Pev.sSet, Pev.sRet, Pev.sRetN, Pev.sIf, Pev.sSkip, Pev.sExpr, Pev.sTgt, Pev.sFor, Pev.sRaise, Pev.sPut, Pev.sAugS, Pev.sPar2, Pev.sPar3, Pev.OutS.fade, Pev.OutS.calm, Pev.Out.toS, Pev.Out.bind, Pev.noX, Pev.eVar, Pev.eC, Pev.eBin, Pev.eUn, Pev.eArgs, Pev.aCons, Pev.aNil, Pev.needN, Pev.eAnd, Pev.eOr, Pev.eNot, Pev.eIf, Pev.mAnd, Pev.mOr, Pev.mNot, Pev.mB, Pev.mT, Pev.eChain, Pev.truth, Pev.ofT, Pev.ofB, Pev.R.d?, Pev.eLc, Pev.iOf, Pev.iArgs, Pev.gN, Pev.gTp, Pev.gsCons, Pev.gsNil, Pev.tv, Pev.eBMl, Pev.eFld, Pev.tYes', Pev.wipeR, Pev.permL, List.map_cons, List.map_nil, List.length_cons, List.length_nil, List.cons_append, List.nil_append, List.append_nil, List.replicate, List.getElem?_cons_zero, List.getElem?_cons_succ, List.getElem?_nil, List.set_cons_zero, List.set_cons_succ, List.set_nil, List.filterMap_cons, List.filterMap_nil, Option.map_some, Option.map_none, Option.bind_some, Option.bind_none, if_true, if_false, Bool.not_true, Bool.not_false, Nat.reduceSub, Nat.reduceAdd, Nat.reduceEqDiff, Nat.reduceLeDiff, reduceIte, ite_true, ite_false, Bool.true_eq_false, Bool.false_eq_true, ↓reduceIte, Nat.zero_add, Nat.add_zero, Nat.sub_zero, id_eq, Bool.or_false, Bool.or_true, Bool.true_or, Bool.false_or, Bool.and_true, Bool.true_and, Bool.and_false, Bool.false_and, Bool.and_self, Bool.or_self, el, ga]
theorem kpI_ok (ha : (os a.lot).length ≤ 50 ∧ (os a.kp).length ≤ 50) (hb : (os b.lot).length ≤ 50) : kpI (rhoP v n (some (nR i)) (some (iR i k)) (some (.dat (TU (os (srt a.lot))))) (some (.dat (TU (os (srt a.kp))))) (some (.dat (TU (os (srt b.lot))))) (some (.dat (TU (os (srt b.kp))))) x8) [] =
    if cnd a b n then .rt (.dat (msd i k)) [] else .nx (rhoP v n (some (nR i)) (some (iR i k)) (some (.dat (TU (os (srt a.lot))))) (some (.dat (TU (os (srt a.kp))))) (some (.dat (TU (os (srt b.lot))))) (some (.dat (TU (os (srt b.kp))))) x8) [] := by
  rw [os_len, os_len] at ha
  rw [os_len] at hb
  have la := (srt_perm a.lot).length_eq
  have lb := (srt_perm b.lot).length_eq
  have lk := (srt_perm a.kp).length_eq
  have ap : pureF m_lots_apart [.dat (TU (os (srt a.lot))), .dat (TU (os (srt b.lot)))] [] = _ := two_call (apart_ok true true (by rw [os_len]; omega) (by rw [os_len]; omega)) []
  rw [← apart_perm (srt_perm a.lot).symm (srt_perm b.lot).symm] at ap
  have le := le_ii (apart (os a.lot) (os b.lot) : Nat) (n : Int) []
  rw [show decide (((apart (os a.lot) (os b.lot) : Nat) : Int) ≤ n) = decide (apart (os a.lot) (os b.lot) ≤ n) from decide_eq_decide.mpr (by omega)] at le
  have t1 : kc1 (rhoP v n (some (nR i)) (some (iR i k)) (some (.dat (TU (os (srt a.lot))))) (some (.dat (TU (os (srt a.kp))))) (some (.dat (TU (os (srt b.lot))))) (some (.dat (TU (os (srt b.kp))))) x8) [] = .ok (decide (apart (os a.lot) (os b.lot) ≤ n)) [] := by
    unfold kc1 rhoP nR
    simp only [Pev.fnB, Pev.OutS.toF, Pev.sCons, Pev.sSet, Pev.sRet, Pev.sRetN, Pev.sIf, Pev.sSkip, Pev.sExpr, Pev.sTgt, Pev.sFor, Pev.sRaise, Pev.sPut, Pev.sAugS, Pev.sPar2, Pev.sPar3, Pev.OutS.fade, Pev.OutS.calm, Pev.Out.toS, Pev.Out.bind, Pev.noX, Pev.eVar, Pev.eC, Pev.eBin, Pev.eUn, Pev.eArgs, Pev.aCons, Pev.aNil, Pev.needN, Pev.eAnd, Pev.eOr, Pev.eNot, Pev.eIf, Pev.mAnd, Pev.mOr, Pev.mNot, Pev.mB, Pev.mT, Pev.eChain, Pev.truth, Pev.ofT, Pev.ofB, Pev.R.d?, Pev.eLc, Pev.iOf, Pev.iArgs, Pev.gN, Pev.gTp, Pev.gsCons, Pev.gsNil, Pev.tv, Pev.eBMl, Pev.eFld, Pev.tYes', Pev.wipeR, Pev.permL, List.map_cons, List.map_nil, List.length_cons, List.length_nil, List.cons_append, List.nil_append, List.append_nil, List.replicate, List.getElem?_cons_zero, List.getElem?_cons_succ, List.getElem?_nil, List.set_cons_zero, List.set_cons_succ, List.set_nil, List.filterMap_cons, List.filterMap_nil, Option.map_some, Option.map_none, Option.bind_some, Option.bind_none, if_true, if_false, Bool.not_true, Bool.not_false, Nat.reduceSub, Nat.reduceAdd, Nat.reduceEqDiff, Nat.reduceLeDiff, reduceIte, ite_true, ite_false, Bool.true_eq_false, Bool.false_eq_true, ↓reduceIte, Nat.zero_add, Nat.add_zero, Nat.sub_zero, id_eq, Bool.or_false, Bool.or_true, Bool.true_or, Bool.false_or, Bool.and_true, Bool.true_and, Bool.and_false, Bool.false_and, Bool.and_self, Bool.or_self, ap, le]
  have t2 : kc2 (rhoP v n (some (nR i)) (some (iR i k)) (some (.dat (TU (os (srt a.lot))))) (some (.dat (TU (os (srt a.kp))))) (some (.dat (TU (os (srt b.lot))))) (some (.dat (TU (os (srt b.kp))))) x8) [] = .ok (com (os a.lot) (os b.lot)) [] := by
    rw [com_perm (srt_perm a.lot).symm (srt_perm b.lot).symm]
    exact any_com true true _ _ (by rw [os_len]; omega) _ 4 6 rfl rfl (fun _ => rfl) (fun _ => rfl)
  have t3 : kc3 (rhoP v n (some (nR i)) (some (iR i k)) (some (.dat (TU (os (srt a.lot))))) (some (.dat (TU (os (srt a.kp))))) (some (.dat (TU (os (srt b.lot))))) (some (.dat (TU (os (srt b.kp))))) x8) [] = .ok (com (os a.kp) (os b.kp)) [] := by
    rw [com_perm (srt_perm a.kp).symm (srt_perm b.kp).symm]
    exact any_com true true _ _ (by rw [os_len]; omega) _ 5 7 rfl rfl (fun _ => rfl) (fun _ => rfl)
  have t12 := mAnd_ok t1 t2
  have t3n := mNot_ok t3
  unfold cnd
  cases c1 : decide (apart (os a.lot) (os b.lot) ≤ n) with
  | false =>
    rw [c1] at t12
    exact (sif_f t12).trans rfl
  | true =>
    cases c2 : com (os a.lot) (os b.lot) with
    | false =>
      rw [c1, c2] at t12
      exact (sif_f t12).trans rfl
    | true =>
      rw [c1, c2] at t12
      refine (sif_t t12).trans ?_
      cases c3 : com (os a.kp) (os b.kp) with
      | false =>
        rw [c3] at t3n
        exact (sif_t t3n).trans rfl
      | true =>
        rw [c3] at t3n
        exact (sif_f t3n).trans rfl
theorem lmI_ok (ha : a.lot.length ≤ 50 ∧ a.kp.length ≤ 50) (hb : b.lot.length ≤ 50) : lmI (rhoM v n (some (nR i)) (some (iR i k)) (some (.dat (sq a.t (os a.lot)))) (some (.dat (TU (os a.kp)))) (some (.dat (sq b.t (os b.lot)))) (some (.dat (TU (os b.kp))))) [] =
    if cnd a b n then .rt (.dat (msd i k)) [] else .nx (rhoM v n (some (nR i)) (some (iR i k)) (some (.dat (sq a.t (os a.lot)))) (some (.dat (TU (os a.kp)))) (some (.dat (sq b.t (os b.lot)))) (some (.dat (TU (os b.kp))))) [] := by
  have ap := two_call (lawapart_ok a.t b.t (show (os a.lot).length ≤ 60 by rw [os_len]; omega) (show (os b.lot).length ≤ 60 by rw [os_len]; omega)) []
  have le := le_ii (apart (os a.lot) (os b.lot) : Nat) (n : Int) []
  rw [show decide (((apart (os a.lot) (os b.lot) : Nat) : Int) ≤ n) = decide (apart (os a.lot) (os b.lot) ≤ n) from decide_eq_decide.mpr (by omega)] at le
  have q2 := two_call (com_ok (b := os b.lot) a.t b.t (show (os a.lot).length ≤ 60 by rw [os_len]; omega)) []
  have q3 : pureF m__law_common [.dat (TU (os a.kp)), .dat (TU (os b.kp))] [] = _ := two_call (com_ok (b := os b.kp) true true (show (os a.kp).length ≤ 60 by rw [os_len]; omega)) []
  have t1 : lc1 (rhoM v n (some (nR i)) (some (iR i k)) (some (.dat (sq a.t (os a.lot)))) (some (.dat (TU (os a.kp)))) (some (.dat (sq b.t (os b.lot)))) (some (.dat (TU (os b.kp))))) [] = .ok (decide (apart (os a.lot) (os b.lot) ≤ n)) [] := by
    unfold lc1 rhoM nR
    simp only [Pev.fnB, Pev.OutS.toF, Pev.sCons, Pev.sSet, Pev.sRet, Pev.sRetN, Pev.sIf, Pev.sSkip, Pev.sExpr, Pev.sTgt, Pev.sFor, Pev.sRaise, Pev.sPut, Pev.sAugS, Pev.sPar2, Pev.sPar3, Pev.OutS.fade, Pev.OutS.calm, Pev.Out.toS, Pev.Out.bind, Pev.noX, Pev.eVar, Pev.eC, Pev.eBin, Pev.eUn, Pev.eArgs, Pev.aCons, Pev.aNil, Pev.needN, Pev.eAnd, Pev.eOr, Pev.eNot, Pev.eIf, Pev.mAnd, Pev.mOr, Pev.mNot, Pev.mB, Pev.mT, Pev.eChain, Pev.truth, Pev.ofT, Pev.ofB, Pev.R.d?, Pev.eLc, Pev.iOf, Pev.iArgs, Pev.gN, Pev.gTp, Pev.gsCons, Pev.gsNil, Pev.tv, Pev.eBMl, Pev.eFld, Pev.tYes', Pev.wipeR, Pev.permL, List.map_cons, List.map_nil, List.length_cons, List.length_nil, List.cons_append, List.nil_append, List.append_nil, List.replicate, List.getElem?_cons_zero, List.getElem?_cons_succ, List.getElem?_nil, List.set_cons_zero, List.set_cons_succ, List.set_nil, List.filterMap_cons, List.filterMap_nil, Option.map_some, Option.map_none, Option.bind_some, Option.bind_none, if_true, if_false, Bool.not_true, Bool.not_false, Nat.reduceSub, Nat.reduceAdd, Nat.reduceEqDiff, Nat.reduceLeDiff, reduceIte, ite_true, ite_false, Bool.true_eq_false, Bool.false_eq_true, ↓reduceIte, Nat.zero_add, Nat.add_zero, Nat.sub_zero, id_eq, Bool.or_false, Bool.or_true, Bool.true_or, Bool.false_or, Bool.and_true, Bool.true_and, Bool.and_false, Bool.false_and, Bool.and_self, Bool.or_self, ap, le]
  have t2 : lc2 (rhoM v n (some (nR i)) (some (iR i k)) (some (.dat (sq a.t (os a.lot)))) (some (.dat (TU (os a.kp)))) (some (.dat (sq b.t (os b.lot)))) (some (.dat (TU (os b.kp))))) [] = .ok (com (os a.lot) (os b.lot)) [] := by
    unfold lc2 rhoM nR
    simp only [Pev.fnB, Pev.OutS.toF, Pev.sCons, Pev.sSet, Pev.sRet, Pev.sRetN, Pev.sIf, Pev.sSkip, Pev.sExpr, Pev.sTgt, Pev.sFor, Pev.sRaise, Pev.sPut, Pev.sAugS, Pev.sPar2, Pev.sPar3, Pev.OutS.fade, Pev.OutS.calm, Pev.Out.toS, Pev.Out.bind, Pev.noX, Pev.eVar, Pev.eC, Pev.eBin, Pev.eUn, Pev.eArgs, Pev.aCons, Pev.aNil, Pev.needN, Pev.eAnd, Pev.eOr, Pev.eNot, Pev.eIf, Pev.mAnd, Pev.mOr, Pev.mNot, Pev.mB, Pev.mT, Pev.eChain, Pev.truth, Pev.ofT, Pev.ofB, Pev.R.d?, Pev.eLc, Pev.iOf, Pev.iArgs, Pev.gN, Pev.gTp, Pev.gsCons, Pev.gsNil, Pev.tv, Pev.eBMl, Pev.eFld, Pev.tYes', Pev.wipeR, Pev.permL, List.map_cons, List.map_nil, List.length_cons, List.length_nil, List.cons_append, List.nil_append, List.append_nil, List.replicate, List.getElem?_cons_zero, List.getElem?_cons_succ, List.getElem?_nil, List.set_cons_zero, List.set_cons_succ, List.set_nil, List.filterMap_cons, List.filterMap_nil, Option.map_some, Option.map_none, Option.bind_some, Option.bind_none, if_true, if_false, Bool.not_true, Bool.not_false, Nat.reduceSub, Nat.reduceAdd, Nat.reduceEqDiff, Nat.reduceLeDiff, reduceIte, ite_true, ite_false, Bool.true_eq_false, Bool.false_eq_true, ↓reduceIte, Nat.zero_add, Nat.add_zero, Nat.sub_zero, id_eq, Bool.or_false, Bool.or_true, Bool.true_or, Bool.false_or, Bool.and_true, Bool.true_and, Bool.and_false, Bool.false_and, Bool.and_self, Bool.or_self, q2]
  have t3 : lc3 (rhoM v n (some (nR i)) (some (iR i k)) (some (.dat (sq a.t (os a.lot)))) (some (.dat (TU (os a.kp)))) (some (.dat (sq b.t (os b.lot)))) (some (.dat (TU (os b.kp))))) [] = .ok (com (os a.kp) (os b.kp)) [] := by
    unfold lc3 rhoM nR
    simp only [Pev.fnB, Pev.OutS.toF, Pev.sCons, Pev.sSet, Pev.sRet, Pev.sRetN, Pev.sIf, Pev.sSkip, Pev.sExpr, Pev.sTgt, Pev.sFor, Pev.sRaise, Pev.sPut, Pev.sAugS, Pev.sPar2, Pev.sPar3, Pev.OutS.fade, Pev.OutS.calm, Pev.Out.toS, Pev.Out.bind, Pev.noX, Pev.eVar, Pev.eC, Pev.eBin, Pev.eUn, Pev.eArgs, Pev.aCons, Pev.aNil, Pev.needN, Pev.eAnd, Pev.eOr, Pev.eNot, Pev.eIf, Pev.mAnd, Pev.mOr, Pev.mNot, Pev.mB, Pev.mT, Pev.eChain, Pev.truth, Pev.ofT, Pev.ofB, Pev.R.d?, Pev.eLc, Pev.iOf, Pev.iArgs, Pev.gN, Pev.gTp, Pev.gsCons, Pev.gsNil, Pev.tv, Pev.eBMl, Pev.eFld, Pev.tYes', Pev.wipeR, Pev.permL, List.map_cons, List.map_nil, List.length_cons, List.length_nil, List.cons_append, List.nil_append, List.append_nil, List.replicate, List.getElem?_cons_zero, List.getElem?_cons_succ, List.getElem?_nil, List.set_cons_zero, List.set_cons_succ, List.set_nil, List.filterMap_cons, List.filterMap_nil, Option.map_some, Option.map_none, Option.bind_some, Option.bind_none, if_true, if_false, Bool.not_true, Bool.not_false, Nat.reduceSub, Nat.reduceAdd, Nat.reduceEqDiff, Nat.reduceLeDiff, reduceIte, ite_true, ite_false, Bool.true_eq_false, Bool.false_eq_true, ↓reduceIte, Nat.zero_add, Nat.add_zero, Nat.sub_zero, id_eq, Bool.or_false, Bool.or_true, Bool.true_or, Bool.false_or, Bool.and_true, Bool.true_and, Bool.and_false, Bool.false_and, Bool.and_self, Bool.or_self, q3]
  have tt := mAnd_ok t1 (mAnd_ok t2 (mNot_ok t3))
  have tt : (mAnd lc1 (mAnd lc2 (mNot lc3))) (rhoM v n (some (nR i)) (some (iR i k)) (some (.dat (sq a.t (os a.lot)))) (some (.dat (TU (os a.kp)))) (some (.dat (sq b.t (os b.lot)))) (some (.dat (TU (os b.kp))))) [] = .ok (cnd a b n) [] := tt
  cases c : cnd a b n with
  | true => rw [c] at tt; exact (sif_t tt).trans rfl
  | false => rw [c] at tt; exact (sif_f tt).trans rfl
/-! the two loops -/
theorem kpT_ok (ha : rs[i]? = some a) (hb : rs[i + k]? = some b) : kpT (rhoP (.list (rs.map sD)) n (some (nR i)) (some (iR i k)) x4 x5 x6 x7 x8) [] = .nx (rhoP (.list (rs.map sD)) n (some (nR i)) (some (iR i k)) (some (.dat (TU (os (srt a.lot))))) (some (.dat (TU (os (srt a.kp))))) (some (.dat (TU (os (srt b.lot))))) (some (.dat (TU (os (srt b.kp))))) x8) [] := by
  have i1 := ix_list (f := sD) ha []
  have i2 : bIx (.dat (.list (rs.map sD))) (iR i k) [] = .ok (.dat (sD b)) [] := ix_list (f := sD) hb []
  have ee : (eArgs gTup (aCons (eBin bIx (eVar 0) (eVar 2)) (aCons (eBin bIx (eVar 0) (eVar 3)) aNil))) (rhoP (.list (rs.map sD)) n (some (nR i)) (some (iR i k)) x4 x5 x6 x7 x8) [] = .ok (.dat (.tuple [sD a, sD b])) [] := by
    unfold rhoP nR iR at *
    simp only [Pev.fnB, Pev.OutS.toF, Pev.sCons, Pev.sSet, Pev.sRet, Pev.sRetN, Pev.sIf, Pev.sSkip, Pev.sExpr, Pev.sTgt, Pev.sFor, Pev.sRaise, Pev.sPut, Pev.sAugS, Pev.sPar2, Pev.sPar3, Pev.OutS.fade, Pev.OutS.calm, Pev.Out.toS, Pev.Out.bind, Pev.noX, Pev.eVar, Pev.eC, Pev.eBin, Pev.eUn, Pev.eArgs, Pev.aCons, Pev.aNil, Pev.needN, Pev.eAnd, Pev.eOr, Pev.eNot, Pev.eIf, Pev.mAnd, Pev.mOr, Pev.mNot, Pev.mB, Pev.mT, Pev.eChain, Pev.truth, Pev.ofT, Pev.ofB, Pev.R.d?, Pev.eLc, Pev.iOf, Pev.iArgs, Pev.gN, Pev.gTp, Pev.gsCons, Pev.gsNil, Pev.tv, Pev.eBMl, Pev.eFld, Pev.tYes', Pev.wipeR, Pev.permL, List.map_cons, List.map_nil, List.length_cons, List.length_nil, List.cons_append, List.nil_append, List.append_nil, List.replicate, List.getElem?_cons_zero, List.getElem?_cons_succ, List.getElem?_nil, List.set_cons_zero, List.set_cons_succ, List.set_nil, List.filterMap_cons, List.filterMap_nil, Option.map_some, Option.map_none, Option.bind_some, Option.bind_none, if_true, if_false, Bool.not_true, Bool.not_false, Nat.reduceSub, Nat.reduceAdd, Nat.reduceEqDiff, Nat.reduceLeDiff, reduceIte, ite_true, ite_false, Bool.true_eq_false, Bool.false_eq_true, ↓reduceIte, Nat.zero_add, Nat.add_zero, Nat.sub_zero, id_eq, Bool.or_false, Bool.or_true, Bool.true_or, Bool.false_or, Bool.and_true, Bool.true_and, Bool.and_false, Bool.false_and, Bool.and_self, Bool.or_self, i1, i2]
    rfl
  unfold kpT sTgt
  rw [ee]
  rfl
theorem lmT_ok (ha : rs[i]? = some a) (hb : rs[i + k]? = some b) : kpT (rhoM (.list (rs.map (rD true))) n (some (nR i)) (some (iR i k)) x4 x5 x6 x7) [] = .nx (rhoM (.list (rs.map (rD true))) n (some (nR i)) (some (iR i k)) (some (.dat (sq a.t (os a.lot)))) (some (.dat (TU (os a.kp)))) (some (.dat (sq b.t (os b.lot)))) (some (.dat (TU (os b.kp))))) [] := by
  have i1 := ix_list (f := rD true) ha []
  have i2 : bIx (.dat (.list (rs.map (rD true)))) (iR i k) [] = .ok (.dat (rD true b)) [] := ix_list (f := rD true) hb []
  have ee : (eArgs gTup (aCons (eBin bIx (eVar 0) (eVar 2)) (aCons (eBin bIx (eVar 0) (eVar 3)) aNil))) (rhoM (.list (rs.map (rD true))) n (some (nR i)) (some (iR i k)) x4 x5 x6 x7) [] = .ok (.dat (.tuple [rD true a, rD true b])) [] := by
    unfold rhoM nR iR at *
    simp only [Pev.fnB, Pev.OutS.toF, Pev.sCons, Pev.sSet, Pev.sRet, Pev.sRetN, Pev.sIf, Pev.sSkip, Pev.sExpr, Pev.sTgt, Pev.sFor, Pev.sRaise, Pev.sPut, Pev.sAugS, Pev.sPar2, Pev.sPar3, Pev.OutS.fade, Pev.OutS.calm, Pev.Out.toS, Pev.Out.bind, Pev.noX, Pev.eVar, Pev.eC, Pev.eBin, Pev.eUn, Pev.eArgs, Pev.aCons, Pev.aNil, Pev.needN, Pev.eAnd, Pev.eOr, Pev.eNot, Pev.eIf, Pev.mAnd, Pev.mOr, Pev.mNot, Pev.mB, Pev.mT, Pev.eChain, Pev.truth, Pev.ofT, Pev.ofB, Pev.R.d?, Pev.eLc, Pev.iOf, Pev.iArgs, Pev.gN, Pev.gTp, Pev.gsCons, Pev.gsNil, Pev.tv, Pev.eBMl, Pev.eFld, Pev.tYes', Pev.wipeR, Pev.permL, List.map_cons, List.map_nil, List.length_cons, List.length_nil, List.cons_append, List.nil_append, List.append_nil, List.replicate, List.getElem?_cons_zero, List.getElem?_cons_succ, List.getElem?_nil, List.set_cons_zero, List.set_cons_succ, List.set_nil, List.filterMap_cons, List.filterMap_nil, Option.map_some, Option.map_none, Option.bind_some, Option.bind_none, if_true, if_false, Bool.not_true, Bool.not_false, Nat.reduceSub, Nat.reduceAdd, Nat.reduceEqDiff, Nat.reduceLeDiff, reduceIte, ite_true, ite_false, Bool.true_eq_false, Bool.false_eq_true, ↓reduceIte, Nat.zero_add, Nat.add_zero, Nat.sub_zero, id_eq, Bool.or_false, Bool.or_true, Bool.true_or, Bool.false_or, Bool.and_true, Bool.true_and, Bool.and_false, Bool.false_and, Bool.and_self, Bool.or_self, i1, i2]
    rfl
  unfold kpT sTgt
  rw [ee]
  rfl
theorem kpF_ok (hG : GR rs) (hi : i < rs.length) : match hitI rs n i with | some r => kpF (rhoP (.list (rs.map sD)) n (some (nR i)) x3 x4 x5 x6 x7 x8) [] = .rt r [] | none => ∃ x3' x4' x5' x6' x7' x8', kpF (rhoP (.list (rs.map sD)) n (some (nR i)) x3 x4 x5 x6 x7 x8) [] = .nx (rhoP (.list (rs.map sD)) n (some (nR i)) x3' x4' x5' x6' x7' x8') [] := by
  have hf := hG.few
  have ff := for_find (keep := []) (g := gN 3) (b := sCons kpT kpI) (S := []) (fun k : Nat => R.dat (.int ((i : Int) + (k : Nat)))) (hitK rs n i) (fun ρ => ∃ x3 x4 x5 x6 x7 x8, ρ = rhoP (.list (rs.map sD)) n (some (nR i)) x3 x4 x5 x6 x7 x8) stands_nil (List.range (rs.length - i)) (rhoP (.list (rs.map sD)) n (some (nR i)) x3 x4 x5 x6 x7 x8) ⟨_, _, _, _, _, _, rfl⟩ (by
    rintro k hk ρ ⟨x3, x4, x5, x6, x7, x8, rfl⟩
    have hk := List.mem_range.mp hk
    have ea : rs[i]? = some rs[i] := List.getElem?_eq_getElem hi
    have eb : rs[i + k]? = some (rs[i + k]'(by omega)) := List.getElem?_eq_getElem (by omega)
    obtain ⟨_, _, _, h4, h5⟩ := hG.nl rs[i] (List.getElem_mem hi)
    obtain ⟨_, _, _, h6, h7⟩ := hG.nl (rs[i + k]'(by omega)) (List.getElem_mem _)
    have e1 := kpT_ok (n := n) (x4 := x4) (x5 := x5) (x6 := x6) (x7 := x7) (x8 := x8) ea eb
    have e2 := kpI_ok (v := .list (rs.map sD)) (n := n) (i := i) (k := k) (a := rs[i]) (b := rs[i + k]'(by omega)) (x8 := x8) (by rw [os_len, os_len]; exact ⟨h4, h5⟩) (by rw [os_len]; exact h6)
    have e3 := (cons_nx e1).trans e2
    refine ⟨_, rfl, ?_⟩
    unfold hitK
    rw [ea, eb]
    dsimp only
    cases c : cnd rs[i] (rs[i + k]'(by omega)) n with
    | true =>
      rw [c] at e3
      exact e3
    | false =>
      rw [c] at e3
      exact ⟨_, e3, _, _, _, _, _, _, rfl⟩)
  have gl := len_list sD rs (by omega) []
  have gr := gr2 (i : Int) (rs.length : Int) (by omega) (by omega) (by omega) (by omega) []
  rw [show ((rs.length : Int) - i).toNat = rs.length - i by omega] at gr
  have ei : (iArgs gRange2 (aCons (eVar 2) (aCons (eArgs gLen (aCons (eVar 0) aNil)) aNil))) (rhoP (.list (rs.map sD)) n (some (nR i)) x3 x4 x5 x6 x7 x8) [] = .ok ⟨(List.range (rs.length - i)).map fun k : Nat => R.dat (.int ((i : Int) + (k : Nat))), []⟩ [] := by
    unfold rhoP nR at *
    simp only [Pev.fnB, Pev.OutS.toF, Pev.sCons, Pev.sSet, Pev.sRet, Pev.sRetN, Pev.sIf, Pev.sSkip, Pev.sExpr, Pev.sTgt, Pev.sFor, Pev.sRaise, Pev.sPut, Pev.sAugS, Pev.sPar2, Pev.sPar3, Pev.OutS.fade, Pev.OutS.calm, Pev.Out.toS, Pev.Out.bind, Pev.noX, Pev.eVar, Pev.eC, Pev.eBin, Pev.eUn, Pev.eArgs, Pev.aCons, Pev.aNil, Pev.needN, Pev.eAnd, Pev.eOr, Pev.eNot, Pev.eIf, Pev.mAnd, Pev.mOr, Pev.mNot, Pev.mB, Pev.mT, Pev.eChain, Pev.truth, Pev.ofT, Pev.ofB, Pev.R.d?, Pev.eLc, Pev.iOf, Pev.iArgs, Pev.gN, Pev.gTp, Pev.gsCons, Pev.gsNil, Pev.tv, Pev.eBMl, Pev.eFld, Pev.tYes', Pev.wipeR, Pev.permL, List.map_cons, List.map_nil, List.length_cons, List.length_nil, List.cons_append, List.nil_append, List.append_nil, List.replicate, List.getElem?_cons_zero, List.getElem?_cons_succ, List.getElem?_nil, List.set_cons_zero, List.set_cons_succ, List.set_nil, List.filterMap_cons, List.filterMap_nil, Option.map_some, Option.map_none, Option.bind_some, Option.bind_none, if_true, if_false, Bool.not_true, Bool.not_false, Nat.reduceSub, Nat.reduceAdd, Nat.reduceEqDiff, Nat.reduceLeDiff, reduceIte, ite_true, ite_false, Bool.true_eq_false, Bool.false_eq_true, ↓reduceIte, Nat.zero_add, Nat.add_zero, Nat.sub_zero, id_eq, Bool.or_false, Bool.or_true, Bool.true_or, Bool.false_or, Bool.and_true, Bool.true_and, Bool.and_false, Bool.false_and, Bool.and_self, Bool.or_self, gl, gr]
  have eF : kpF (rhoP (.list (rs.map sD)) n (some (nR i)) x3 x4 x5 x6 x7 x8) [] = forLoop [] (gN 3) (sCons kpT kpI) ((List.range (rs.length - i)).map fun k : Nat => R.dat (.int ((i : Int) + (k : Nat)))) (rhoP (.list (rs.map sD)) n (some (nR i)) x3 x4 x5 x6 x7 x8) [] := by
    unfold kpF sFor
    rw [ei]
    rfl
  rw [eF]
  unfold hitI
  cases q : (List.range (rs.length - i)).findSome? (hitK rs n i) with
  | some r => rw [q] at ff; exact ff
  | none =>
    rw [q] at ff
    obtain ⟨ρ', e, x3', x4', x5', x6', x7', x8', rfl⟩ := ff
    exact ⟨_, _, _, _, _, _, e⟩
theorem lmF_ok (hG : GR rs) (hi : i < rs.length) : match hitI rs n i with | some r => lmF (rhoM (.list (rs.map (rD true))) n (some (nR i)) x3 x4 x5 x6 x7) [] = .rt r [] | none => ∃ x3' x4' x5' x6' x7', lmF (rhoM (.list (rs.map (rD true))) n (some (nR i)) x3 x4 x5 x6 x7) [] = .nx (rhoM (.list (rs.map (rD true))) n (some (nR i)) x3' x4' x5' x6' x7') [] := by
  have hf := hG.few
  have ff := for_find (keep := []) (g := gN 3) (b := sCons kpT lmI) (S := []) (fun k : Nat => R.dat (.int ((i : Int) + (k : Nat)))) (hitK rs n i) (fun ρ => ∃ x3 x4 x5 x6 x7, ρ = rhoM (.list (rs.map (rD true))) n (some (nR i)) x3 x4 x5 x6 x7) stands_nil (List.range (rs.length - i)) (rhoM (.list (rs.map (rD true))) n (some (nR i)) x3 x4 x5 x6 x7) ⟨_, _, _, _, _, rfl⟩ (by
    rintro k hk ρ ⟨x3, x4, x5, x6, x7, rfl⟩
    have hk := List.mem_range.mp hk
    have ea : rs[i]? = some rs[i] := List.getElem?_eq_getElem hi
    have eb : rs[i + k]? = some (rs[i + k]'(by omega)) := List.getElem?_eq_getElem (by omega)
    obtain ⟨_, _, _, h4, h5⟩ := hG.nl rs[i] (List.getElem_mem hi)
    obtain ⟨_, _, _, h6, h7⟩ := hG.nl (rs[i + k]'(by omega)) (List.getElem_mem _)
    have e1 := lmT_ok (n := n) (x4 := x4) (x5 := x5) (x6 := x6) (x7 := x7) ea eb
    have e2 := lmI_ok (v := .list (rs.map (rD true))) (n := n) (i := i) (k := k) (a := rs[i]) (b := rs[i + k]'(by omega)) ⟨h4, h5⟩ h6
    have e3 := (cons_nx e1).trans e2
    refine ⟨_, rfl, ?_⟩
    unfold hitK
    rw [ea, eb]
    dsimp only
    cases c : cnd rs[i] (rs[i + k]'(by omega)) n with
    | true =>
      rw [c] at e3
      exact e3
    | false =>
      rw [c] at e3
      exact ⟨_, e3, _, _, _, _, _, rfl⟩)
  have gl := len_list (rD true) rs (by omega) []
  have gr := gr2 (i : Int) (rs.length : Int) (by omega) (by omega) (by omega) (by omega) []
  rw [show ((rs.length : Int) - i).toNat = rs.length - i by omega] at gr
  have ei : (iArgs gRange2 (aCons (eVar 2) (aCons (eArgs gLen (aCons (eVar 0) aNil)) aNil))) (rhoM (.list (rs.map (rD true))) n (some (nR i)) x3 x4 x5 x6 x7) [] = .ok ⟨(List.range (rs.length - i)).map fun k : Nat => R.dat (.int ((i : Int) + (k : Nat))), []⟩ [] := by
    unfold rhoM nR at *
    simp only [Pev.fnB, Pev.OutS.toF, Pev.sCons, Pev.sSet, Pev.sRet, Pev.sRetN, Pev.sIf, Pev.sSkip, Pev.sExpr, Pev.sTgt, Pev.sFor, Pev.sRaise, Pev.sPut, Pev.sAugS, Pev.sPar2, Pev.sPar3, Pev.OutS.fade, Pev.OutS.calm, Pev.Out.toS, Pev.Out.bind, Pev.noX, Pev.eVar, Pev.eC, Pev.eBin, Pev.eUn, Pev.eArgs, Pev.aCons, Pev.aNil, Pev.needN, Pev.eAnd, Pev.eOr, Pev.eNot, Pev.eIf, Pev.mAnd, Pev.mOr, Pev.mNot, Pev.mB, Pev.mT, Pev.eChain, Pev.truth, Pev.ofT, Pev.ofB, Pev.R.d?, Pev.eLc, Pev.iOf, Pev.iArgs, Pev.gN, Pev.gTp, Pev.gsCons, Pev.gsNil, Pev.tv, Pev.eBMl, Pev.eFld, Pev.tYes', Pev.wipeR, Pev.permL, List.map_cons, List.map_nil, List.length_cons, List.length_nil, List.cons_append, List.nil_append, List.append_nil, List.replicate, List.getElem?_cons_zero, List.getElem?_cons_succ, List.getElem?_nil, List.set_cons_zero, List.set_cons_succ, List.set_nil, List.filterMap_cons, List.filterMap_nil, Option.map_some, Option.map_none, Option.bind_some, Option.bind_none, if_true, if_false, Bool.not_true, Bool.not_false, Nat.reduceSub, Nat.reduceAdd, Nat.reduceEqDiff, Nat.reduceLeDiff, reduceIte, ite_true, ite_false, Bool.true_eq_false, Bool.false_eq_true, ↓reduceIte, Nat.zero_add, Nat.add_zero, Nat.sub_zero, id_eq, Bool.or_false, Bool.or_true, Bool.true_or, Bool.false_or, Bool.and_true, Bool.true_and, Bool.and_false, Bool.false_and, Bool.and_self, Bool.or_self, gl, gr]
  have eF : lmF (rhoM (.list (rs.map (rD true))) n (some (nR i)) x3 x4 x5 x6 x7) [] = forLoop [] (gN 3) (sCons kpT lmI) ((List.range (rs.length - i)).map fun k : Nat => R.dat (.int ((i : Int) + (k : Nat)))) (rhoM (.list (rs.map (rD true))) n (some (nR i)) x3 x4 x5 x6 x7) [] := by
    unfold lmF sFor
    rw [ei]
    rfl
  rw [eF]
  unfold hitI
  cases q : (List.range (rs.length - i)).findSome? (hitK rs n i) with
  | some r => rw [q] at ff; exact ff
  | none =>
    rw [q] at ff
    obtain ⟨ρ', e, x3', x4', x5', x6', x7', rfl⟩ := ff
    exact ⟨_, _, _, _, _, e⟩
end
theorem hitK_dat {rs : List Rw} {n i k : Nat} {r : R} (h : hitK rs n i k = some r) : r = .dat (msd i k) := by
  unfold hitK at h
  split at h
  · split at h
    · exact (Option.some.inj h).symm
    · cases h
  · cases h
theorem missR_dat {rs : List Rw} {n : Nat} {r : R} (h : missR rs n = some r) : ∃ i k, r = .dat (msd i k) := by
  unfold missR at h
  obtain ⟨i, _, h⟩ := List.exists_of_findSome?_eq_some h
  unfold hitI at h
  obtain ⟨k, _, h⟩ := List.exists_of_findSome?_eq_some h
  exact ⟨i, k, hitK_dat h⟩
def resD (rs : List Rw) (n : Nat) : PyData := match missR rs n with
  | some (.dat d) => d
  | _ => keptD
theorem res_kept {rs : List Rw} {n : Nat} (h : resD rs n = keptD) {i j : Nat} {a b : Rw} (ha : rs[i]? = some a) (hb : rs[j]? = some b) (hij : i ≤ j) : cnd a b n = false := by
  unfold resD at h
  cases q : missR rs n with
  | some r =>
    obtain ⟨i, k, rfl⟩ := missR_dat q
    rw [q] at h
    dsimp only at h
    unfold msd keptD at h
    injection h with h
    injection h with h1 h2
    cases h2
  | none =>
    unfold missR at q
    have q1 := List.findSome?_eq_none_iff.mp q i (List.mem_range.mpr (List.getElem?_eq_some_iff.mp ha).1)
    unfold hitI at q1
    have lj := (List.getElem?_eq_some_iff.mp hb).1
    have q2 := List.findSome?_eq_none_iff.mp q1 (j - i) (List.mem_range.mpr (by omega))
    unfold hitK at q2
    rw [ha, show i + (j - i) = j by omega, hb] at q2
    dsimp only at q2
    cases c : cnd a b n with
    | false => rfl
    | true => rw [c] at q2; simp at q2
theorem paper_ok {rs : List Rw} {n : Nat} (hG : GR rs) (b : Bool) : Gv m_keeping_paper [.list (rs.map (rD b)), .int (n : Nat)] (resD rs n) := by
  have hf := hG.few
  have nr := one_call (needrows_ok hG b) []
  have nm := three_call (need_ok (n := n) (w := "near")) []
  have e1 : sSet 0 (eArgs (needN 1 (pureF m_need_kept_rows)) (aCons (eVar 0) aNil)) (rhoP (.list (rs.map (rD b))) n none none none none none none none) [] = .nx (rhoP (.list (rs.map sD)) n none none none none none none none) [] := by
    unfold rhoP
    simp only [Pev.fnB, Pev.OutS.toF, Pev.sCons, Pev.sSet, Pev.sRet, Pev.sRetN, Pev.sIf, Pev.sSkip, Pev.sExpr, Pev.sTgt, Pev.sFor, Pev.sRaise, Pev.sPut, Pev.sAugS, Pev.sPar2, Pev.sPar3, Pev.OutS.fade, Pev.OutS.calm, Pev.Out.toS, Pev.Out.bind, Pev.noX, Pev.eVar, Pev.eC, Pev.eBin, Pev.eUn, Pev.eArgs, Pev.aCons, Pev.aNil, Pev.needN, Pev.eAnd, Pev.eOr, Pev.eNot, Pev.eIf, Pev.mAnd, Pev.mOr, Pev.mNot, Pev.mB, Pev.mT, Pev.eChain, Pev.truth, Pev.ofT, Pev.ofB, Pev.R.d?, Pev.eLc, Pev.iOf, Pev.iArgs, Pev.gN, Pev.gTp, Pev.gsCons, Pev.gsNil, Pev.tv, Pev.eBMl, Pev.eFld, Pev.tYes', Pev.wipeR, Pev.permL, List.map_cons, List.map_nil, List.length_cons, List.length_nil, List.cons_append, List.nil_append, List.append_nil, List.replicate, List.getElem?_cons_zero, List.getElem?_cons_succ, List.getElem?_nil, List.set_cons_zero, List.set_cons_succ, List.set_nil, List.filterMap_cons, List.filterMap_nil, Option.map_some, Option.map_none, Option.bind_some, Option.bind_none, if_true, if_false, Bool.not_true, Bool.not_false, Nat.reduceSub, Nat.reduceAdd, Nat.reduceEqDiff, Nat.reduceLeDiff, reduceIte, ite_true, ite_false, Bool.true_eq_false, Bool.false_eq_true, ↓reduceIte, Nat.zero_add, Nat.add_zero, Nat.sub_zero, id_eq, Bool.or_false, Bool.or_true, Bool.true_or, Bool.false_or, Bool.and_true, Bool.true_and, Bool.and_false, Bool.false_and, Bool.and_self, Bool.or_self, nr]
  have e2 : (sExpr (eArgs (fun rs => needN 3 (pureF m_need_many) (rs ++ [.int 0].map .dat)) (aCons (eVar 1) (aCons (eC (.str "near")) aNil)))) (rhoP (.list (rs.map sD)) n none none none none none none none) [] = .nx (rhoP (.list (rs.map sD)) n none none none none none none none) [] := by
    unfold rhoP nR
    simp only [Pev.fnB, Pev.OutS.toF, Pev.sCons, Pev.sSet, Pev.sRet, Pev.sRetN, Pev.sIf, Pev.sSkip, Pev.sExpr, Pev.sTgt, Pev.sFor, Pev.sRaise, Pev.sPut, Pev.sAugS, Pev.sPar2, Pev.sPar3, Pev.OutS.fade, Pev.OutS.calm, Pev.Out.toS, Pev.Out.bind, Pev.noX, Pev.eVar, Pev.eC, Pev.eBin, Pev.eUn, Pev.eArgs, Pev.aCons, Pev.aNil, Pev.needN, Pev.eAnd, Pev.eOr, Pev.eNot, Pev.eIf, Pev.mAnd, Pev.mOr, Pev.mNot, Pev.mB, Pev.mT, Pev.eChain, Pev.truth, Pev.ofT, Pev.ofB, Pev.R.d?, Pev.eLc, Pev.iOf, Pev.iArgs, Pev.gN, Pev.gTp, Pev.gsCons, Pev.gsNil, Pev.tv, Pev.eBMl, Pev.eFld, Pev.tYes', Pev.wipeR, Pev.permL, List.map_cons, List.map_nil, List.length_cons, List.length_nil, List.cons_append, List.nil_append, List.append_nil, List.replicate, List.getElem?_cons_zero, List.getElem?_cons_succ, List.getElem?_nil, List.set_cons_zero, List.set_cons_succ, List.set_nil, List.filterMap_cons, List.filterMap_nil, Option.map_some, Option.map_none, Option.bind_some, Option.bind_none, if_true, if_false, Bool.not_true, Bool.not_false, Nat.reduceSub, Nat.reduceAdd, Nat.reduceEqDiff, Nat.reduceLeDiff, reduceIte, ite_true, ite_false, Bool.true_eq_false, Bool.false_eq_true, ↓reduceIte, Nat.zero_add, Nat.add_zero, Nat.sub_zero, id_eq, Bool.or_false, Bool.or_true, Bool.true_or, Bool.false_or, Bool.and_true, Bool.true_and, Bool.and_false, Bool.false_and, Bool.and_self, Bool.or_self, nm]
  have ff := for_find (keep := []) (g := gN 2) (b := kpF) (S := []) (fun i : Nat => R.dat (.int (i : Nat))) (hitI rs n) (fun ρ => ∃ x2 x3 x4 x5 x6 x7 x8, ρ = rhoP (.list (rs.map sD)) n x2 x3 x4 x5 x6 x7 x8) stands_nil (List.range rs.length) (rhoP (.list (rs.map sD)) n none none none none none none none) ⟨_, _, _, _, _, _, _, rfl⟩ (by
    rintro i hi ρ ⟨x2, x3, x4, x5, x6, x7, x8, rfl⟩
    have hi := List.mem_range.mp hi
    have k := kpF_ok (n := n) (x3 := x3) (x4 := x4) (x5 := x5) (x6 := x6) (x7 := x7) (x8 := x8) hG hi
    refine ⟨_, rfl, ?_⟩
    cases q : hitI rs n i with
    | some r => rw [q] at k; exact k
    | none =>
      rw [q] at k
      obtain ⟨_, _, _, _, _, _, e⟩ := k
      exact ⟨_, e, _, _, _, _, _, _, _, rfl⟩)
  have gl := len_list sD rs (by omega) []
  have gr := gr1 rs.length (by omega) []
  have ei : (iArgs gRange1 (aCons (eArgs gLen (aCons (eVar 0) aNil)) aNil)) (rhoP (.list (rs.map sD)) n none none none none none none none) [] = .ok ⟨(List.range rs.length).map fun i : Nat => R.dat (.int (i : Nat)), []⟩ [] := by
    unfold rhoP nR at *
    simp only [Pev.fnB, Pev.OutS.toF, Pev.sCons, Pev.sSet, Pev.sRet, Pev.sRetN, Pev.sIf, Pev.sSkip, Pev.sExpr, Pev.sTgt, Pev.sFor, Pev.sRaise, Pev.sPut, Pev.sAugS, Pev.sPar2, Pev.sPar3, Pev.OutS.fade, Pev.OutS.calm, Pev.Out.toS, Pev.Out.bind, Pev.noX, Pev.eVar, Pev.eC, Pev.eBin, Pev.eUn, Pev.eArgs, Pev.aCons, Pev.aNil, Pev.needN, Pev.eAnd, Pev.eOr, Pev.eNot, Pev.eIf, Pev.mAnd, Pev.mOr, Pev.mNot, Pev.mB, Pev.mT, Pev.eChain, Pev.truth, Pev.ofT, Pev.ofB, Pev.R.d?, Pev.eLc, Pev.iOf, Pev.iArgs, Pev.gN, Pev.gTp, Pev.gsCons, Pev.gsNil, Pev.tv, Pev.eBMl, Pev.eFld, Pev.tYes', Pev.wipeR, Pev.permL, List.map_cons, List.map_nil, List.length_cons, List.length_nil, List.cons_append, List.nil_append, List.append_nil, List.replicate, List.getElem?_cons_zero, List.getElem?_cons_succ, List.getElem?_nil, List.set_cons_zero, List.set_cons_succ, List.set_nil, List.filterMap_cons, List.filterMap_nil, Option.map_some, Option.map_none, Option.bind_some, Option.bind_none, if_true, if_false, Bool.not_true, Bool.not_false, Nat.reduceSub, Nat.reduceAdd, Nat.reduceEqDiff, Nat.reduceLeDiff, reduceIte, ite_true, ite_false, Bool.true_eq_false, Bool.false_eq_true, ↓reduceIte, Nat.zero_add, Nat.add_zero, Nat.sub_zero, id_eq, Bool.or_false, Bool.or_true, Bool.true_or, Bool.false_or, Bool.and_true, Bool.true_and, Bool.and_false, Bool.false_and, Bool.and_self, Bool.or_self, gl, gr]
  have eF : sFor (iArgs gRange1 (aCons (eArgs gLen (aCons (eVar 0) aNil)) aNil)) (gN 2) kpF (rhoP (.list (rs.map sD)) n none none none none none none none) [] = forLoop [] (gN 2) kpF ((List.range rs.length).map fun i : Nat => R.dat (.int (i : Nat))) (rhoP (.list (rs.map sD)) n none none none none none none none) [] := by
    unfold sFor
    rw [ei]
    rfl
  show outD (OutS.toF (b_keeping_paper (rhoP (.list (rs.map (rD b))) n none none none none none none none) [])) = _
  rw [kp_eq, cons_nx e1, cons_nx e2]
  unfold resD missR
  cases q : (List.range rs.length).findSome? (hitI rs n) with
  | some r =>
    obtain ⟨i, k, rfl⟩ := missR_dat (show missR rs n = some r from q)
    rw [q] at ff
    have ff : forLoop [] (gN 2) kpF ((List.range rs.length).map fun i : Nat => R.dat (.int (i : Nat))) (rhoP (.list (rs.map sD)) n none none none none none none none) [] = .rt (.dat (msd i k)) [] := ff
    have : ∀ b, sCons (sFor (iArgs gRange1 (aCons (eArgs gLen (aCons (eVar 0) aNil)) aNil)) (gN 2) kpF) b (rhoP (.list (rs.map sD)) n none none none none none none none) [] = .rt (.dat (msd i k)) [] := fun b => by
      unfold sCons
      rw [eF, ff]
    rw [this]
    rfl
  | none =>
    rw [q] at ff
    obtain ⟨ρ', e, x2, x3, x4, x5, x6, x7, x8, rfl⟩ := ff
    rw [cons_nx (eF.trans e)]
    rfl
theorem missed_ok {rs : List Rw} {n : Nat} (hG : GR rs) : Gv m__law_missed [.list (rs.map (rD true)), .int (n : Nat)] (resD rs n) := by
  have hf := hG.few
  have ff := for_find (keep := []) (g := gN 2) (b := lmF) (S := []) (fun i : Nat => R.dat (.int (i : Nat))) (hitI rs n) (fun ρ => ∃ x2 x3 x4 x5 x6 x7, ρ = rhoM (.list (rs.map (rD true))) n x2 x3 x4 x5 x6 x7) stands_nil (List.range rs.length) (rhoM (.list (rs.map (rD true))) n none none none none none none) ⟨_, _, _, _, _, _, rfl⟩ (by
    rintro i hi ρ ⟨x2, x3, x4, x5, x6, x7, rfl⟩
    have hi := List.mem_range.mp hi
    have k := lmF_ok (n := n) (x3 := x3) (x4 := x4) (x5 := x5) (x6 := x6) (x7 := x7) hG hi
    refine ⟨_, rfl, ?_⟩
    cases q : hitI rs n i with
    | some r => rw [q] at k; exact k
    | none =>
      rw [q] at k
      obtain ⟨_, _, _, _, _, e⟩ := k
      exact ⟨_, e, _, _, _, _, _, _, rfl⟩)
  have gl := len_list (rD true) rs (by omega) []
  have gr := gr1 rs.length (by omega) []
  have ei : (iArgs gRange1 (aCons (eArgs gLen (aCons (eVar 0) aNil)) aNil)) (rhoM (.list (rs.map (rD true))) n none none none none none none) [] = .ok ⟨(List.range rs.length).map fun i : Nat => R.dat (.int (i : Nat)), []⟩ [] := by
    unfold rhoM nR at *
    simp only [Pev.fnB, Pev.OutS.toF, Pev.sCons, Pev.sSet, Pev.sRet, Pev.sRetN, Pev.sIf, Pev.sSkip, Pev.sExpr, Pev.sTgt, Pev.sFor, Pev.sRaise, Pev.sPut, Pev.sAugS, Pev.sPar2, Pev.sPar3, Pev.OutS.fade, Pev.OutS.calm, Pev.Out.toS, Pev.Out.bind, Pev.noX, Pev.eVar, Pev.eC, Pev.eBin, Pev.eUn, Pev.eArgs, Pev.aCons, Pev.aNil, Pev.needN, Pev.eAnd, Pev.eOr, Pev.eNot, Pev.eIf, Pev.mAnd, Pev.mOr, Pev.mNot, Pev.mB, Pev.mT, Pev.eChain, Pev.truth, Pev.ofT, Pev.ofB, Pev.R.d?, Pev.eLc, Pev.iOf, Pev.iArgs, Pev.gN, Pev.gTp, Pev.gsCons, Pev.gsNil, Pev.tv, Pev.eBMl, Pev.eFld, Pev.tYes', Pev.wipeR, Pev.permL, List.map_cons, List.map_nil, List.length_cons, List.length_nil, List.cons_append, List.nil_append, List.append_nil, List.replicate, List.getElem?_cons_zero, List.getElem?_cons_succ, List.getElem?_nil, List.set_cons_zero, List.set_cons_succ, List.set_nil, List.filterMap_cons, List.filterMap_nil, Option.map_some, Option.map_none, Option.bind_some, Option.bind_none, if_true, if_false, Bool.not_true, Bool.not_false, Nat.reduceSub, Nat.reduceAdd, Nat.reduceEqDiff, Nat.reduceLeDiff, reduceIte, ite_true, ite_false, Bool.true_eq_false, Bool.false_eq_true, ↓reduceIte, Nat.zero_add, Nat.add_zero, Nat.sub_zero, id_eq, Bool.or_false, Bool.or_true, Bool.true_or, Bool.false_or, Bool.and_true, Bool.true_and, Bool.and_false, Bool.false_and, Bool.and_self, Bool.or_self, gl, gr]
  have eF : sFor (iArgs gRange1 (aCons (eArgs gLen (aCons (eVar 0) aNil)) aNil)) (gN 2) lmF (rhoM (.list (rs.map (rD true))) n none none none none none none) [] = forLoop [] (gN 2) lmF ((List.range rs.length).map fun i : Nat => R.dat (.int (i : Nat))) (rhoM (.list (rs.map (rD true))) n none none none none none none) [] := by
    unfold sFor
    rw [ei]
    rfl
  show outD (OutS.toF (b__law_missed (rhoM (.list (rs.map (rD true))) n none none none none none none) [])) = _
  rw [lm_eq]
  unfold resD missR
  cases q : (List.range rs.length).findSome? (hitI rs n) with
  | some r =>
    obtain ⟨i, k, rfl⟩ := missR_dat (show missR rs n = some r from q)
    rw [q] at ff
    have ff : forLoop [] (gN 2) lmF ((List.range rs.length).map fun i : Nat => R.dat (.int (i : Nat))) (rhoM (.list (rs.map (rD true))) n none none none none none none) [] = .rt (.dat (msd i k)) [] := ff
    have : ∀ b, sCons (sFor (iArgs gRange1 (aCons (eArgs gLen (aCons (eVar 0) aNil)) aNil)) (gN 2) lmF) b (rhoM (.list (rs.map (rD true))) n none none none none none none) [] = .rt (.dat (msd i k)) [] := fun b => by
      unfold sCons
      rw [eF, ff]
    rw [this]
    rfl
  | none =>
    rw [q] at ff
    obtain ⟨ρ', e, x2, x3, x4, x5, x6, x7, rfl⟩ := ff
    rw [cons_nx (eF.trans e)]
    rfl
end Lw
namespace Lw
open PySem Pev
open L2 (atI ixN cutS)
/-! ### parts: plain -/
def prtF (f : List (List Nat)) (m : Nat) : List (List Nat) := f ++ f.map fun p => p ++ [m]
def prt (ms : List Nat) : List (List Nat) := ms.foldl prtF [[]]
theorem prt_snoc (ms : List Nat) (m : Nat) : prt (ms ++ [m]) = prt ms ++ (prt ms).map fun p => p ++ [m] := by
  unfold prt
  rw [List.foldl_append]
  rfl
theorem snoc_ind {P : List Nat → Prop} (h0 : P []) (h1 : ∀ l m, P l → P (l ++ [m])) : ∀ l, P l := by
  have : ∀ n (l : List Nat), l.length = n → P l := by
    intro n
    induction n with
    | zero => intro l h; rw [List.length_eq_zero_iff.mp h]; exact h0
    | succ n ih =>
      intro l h
      rcases List.eq_nil_or_concat l with rfl | ⟨k, c, rfl⟩
      · cases h
      · rw [List.concat_eq_append] at h ⊢
        exact h1 k c (ih k (by simpa using h))
  exact fun l => this _ l rfl
theorem prt_sub : ∀ ms : List Nat, ∀ p ∈ prt ms, p.Sublist ms := by
  refine snoc_ind (fun p hp => ?_) fun ms m ih p hp => ?_
  · rw [List.mem_singleton.mp hp]
    exact List.Sublist.refl _
  · rw [prt_snoc] at hp
    rcases List.mem_append.mp hp with hp | hp
    · exact (ih p hp).trans (List.sublist_append_left _ _)
    · obtain ⟨q, hq, rfl⟩ := List.mem_map.mp hp
      exact (ih q hq).append (List.Sublist.refl _)
theorem prt_all (P : Nat → Bool) : ∀ ms : List Nat, ms.filter P ∈ prt ms := by
  refine snoc_ind (List.mem_singleton.mpr rfl) fun ms m ih => ?_
  rw [prt_snoc, List.filter_append]
  cases q : P m with
  | true =>
    rw [show [m].filter P = [m] by rw [List.filter_cons, q]; rfl]
    exact List.mem_append_right _ (List.mem_map.mpr ⟨_, ih, rfl⟩)
  | false =>
    rw [show [m].filter P = [] by rw [List.filter_cons, q]; rfl, List.append_nil]
    exact List.mem_append_left _ ih
theorem prt_head : ∀ ms : List Nat, prt ms = [] :: (prt ms).drop 1 := by
  refine snoc_ind rfl fun ms m ih => ?_
  rw [prt_snoc]
  rw [ih]
  rfl
theorem prt_nodup : ∀ ms : List Nat, ms.Nodup → (prt ms).Nodup := by
  refine snoc_ind (fun _ => by unfold prt; simp) fun ms m ih h => ?_
  rw [prt_snoc]
  obtain ⟨h1, h2, h3⟩ := List.nodup_append.mp h
  refine List.nodup_append.mpr ⟨ih h1, ?_, ?_⟩
  · exact List.pairwise_map.mpr ((ih h1).imp fun {a b} hab e => hab (List.append_inj' e rfl).1)
  · intro p hp q hq e
    obtain ⟨r, hr, rfl⟩ := List.mem_map.mp hq
    subst e
    have := (prt_sub ms _ hp).subset (List.mem_append_right r (List.mem_singleton.mpr rfl))
    exact h3 m this m (List.mem_singleton.mpr rfl) rfl
theorem sub_filter {s ms : List Nat} (h : s.Sublist ms) (nd : ms.Nodup) : s = ms.filter fun x => decide (x ∈ s) := by
  induction h with
  | slnil => rfl
  | @cons s ms a h ih =>
    obtain ⟨na, nd⟩ := List.nodup_cons.mp nd
    rw [List.filter_cons, if_neg (by rw [decide_eq_true_eq]; exact fun z => na (h.subset z))]
    exact ih nd
  | @cons_cons s ms a h ih =>
    obtain ⟨na, nd⟩ := List.nodup_cons.mp nd
    rw [List.filter_cons, if_pos (by rw [decide_eq_true_eq]; exact List.mem_cons_self)]
    congr 1
    conv => lhs; rw [ih nd]
    refine List.filter_congr fun x hx => decide_eq_decide.mpr ?_
    rw [List.mem_cons]
    exact ⟨.inr, fun z => z.resolve_left fun e => na (e ▸ hx)⟩
def parts (ms : List Nat) : List (List Nat) := (prt ms).drop 1
theorem parts_perm {ms p q : List Nat} (nd : ms.Nodup) (hp : p ∈ prt ms) (hq : q ∈ prt ms) (h : p.Perm q) : p = q := by
  rw [sub_filter (prt_sub ms p hp) nd, sub_filter (prt_sub ms q hq) nd]
  refine List.filter_congr fun x _ => decide_eq_decide.mpr h.mem_iff
theorem parts_nd {ms : List Nat} (nd : ms.Nodup) : (parts ms).Nodup ∧ [] ∉ parts ms := by
  have h := prt_nodup ms nd
  rw [prt_head] at h
  exact ⟨(List.nodup_cons.mp h).2, (List.nodup_cons.mp h).1⟩
theorem parts_un {ms : List Nat} (nd : ms.Nodup) : (parts ms).Pairwise fun a b => ¬ a.Perm b := by
  refine List.Pairwise.imp_of_mem ?_ (parts_nd nd).1
  intro a b ha hb hab z
  exact hab (parts_perm nd (List.mem_of_mem_drop ha) (List.mem_of_mem_drop hb) z)
theorem parts_all {ms : List Nat} (P : Nat → Bool) (h : ms.filter P ≠ []) : ms.filter P ∈ parts ms := by
  have := prt_all P ms
  rw [prt_head] at this
  rcases List.mem_cons.mp this with e | e
  · exact absurd e h
  · exact e
theorem prt_len : ∀ ms : List Nat, (prt ms).length = 2 ^ ms.length := by
  refine snoc_ind rfl fun ms m ih => ?_
  rw [prt_snoc, List.length_append, List.length_map, ih, List.length_append, List.length_singleton, Nat.pow_succ]
  omega
/-! ### the law's parts -/
def paB : SM := (sSet 1 (eBin (bAdd false) (eVar 1) (eLc false (iOf (eVar 1)) (gN 3) tYes' (eBin (bAdd false) (eVar 3) (eArgs gTup (aCons (eVar 2) aNil))) [3])))
theorem parts_eq : b__law_parts = sCons (sSet 1 (eArgs (gLst false) (aCons (eArgs gTup aNil) aNil))) (sCons (sFor (iOf (eVar 0)) (gN 2) paB) (sRet (eSl false (eVar 1) (some (eC (.int 1))) none))) := rfl
def ptD (p : List Nat) : PyData := TU (os p)
def ptsD (f : List (List Nat)) : PyData := .list (f.map ptD)
theorem add_TU (a b : OL) (h : a.length + b.length ≤ 1000) (S : Sto) : bAdd false (.dat (TU a)) (.dat (TU b)) S = .ok (.dat (TU (a ++ b))) S := by
  have sz := sz_of (show a.length + b.length ≤ 10000 by omega)
  unfold TU bAdd
  dsimp only
  rw [List.length_map, List.length_map, if_pos (of_eq_true sz), List.map_append]
  rfl
theorem add_list {α : Type} (f : α → PyData) (xs ys : List α) (h : xs.length + ys.length ≤ 1000) (S : Sto) : bAdd false (.dat (.list (xs.map f))) (.dat (.list (ys.map f))) S = .ok (.dat (.list ((xs ++ ys).map f))) S := by
  have sz := sz_of (show xs.length + ys.length ≤ 10000 by omega)
  unfold bAdd
  dsimp only [lvt, lv]
  rw [List.length_map, List.length_map, List.length_map, List.length_map, if_pos (of_eq_true sz), map_dat, map_dat, ← List.map_append, newL_f]
theorem paB_ok {v : PyData} {m : Nat} {ms : List Nat} {x3 : Option R} (hl : ms.length ≤ 5) : paB [some (.dat v), some (.dat (ptsD (prt ms))), some (.dat (mo (some m))), x3] [] = .nx [some (.dat v), some (.dat (ptsD (prt (ms ++ [m])))), some (.dat (mo (some m))), x3] [] := by
  have pl := prt_len ms
  have p2 : 2 ^ ms.length ≤ 2 ^ 5 := Nat.pow_le_pow_right (by omega) hl
  have it : itOf (.dat (ptsD (prt ms))) [] = .ok ⟨(prt ms).map fun p => R.dat (ptD p), []⟩ [] := by
    show Out.ok (⟨((prt ms).map ptD).map .dat, []⟩ : Items) [] = _
    rw [map_dat]
  have sz := sz_of (show (prt ms).length ≤ 10000 by omega)
  have lc := lc_all (g := gN 3) (elt := (eBin (bAdd false) (eVar 3) (eArgs gTup (aCons (eVar 2) aNil)))) (ρ := [some (.dat v), some (.dat (ptsD (prt ms))), some (.dat (mo (some m))), none]) (S := []) (fun p : List Nat => R.dat (ptD p)) (fun p => R.dat (ptD (p ++ [m]))) (prt ms) (fun p hp => ⟨_, rfl, by
    have lp := (prt_sub ms p hp).length_le
    have ad := add_TU (os p) [some m] (by rw [os_len]; show p.length + 1 ≤ 1000; omega) []
    have tp : gTup [.dat (mo (some m))] [] = .ok (.dat (TU [some m])) [] := rfl
    have e : os (p ++ [m]) = os p ++ [some m] := by unfold os; rw [List.map_append]; rfl
    show (eBin (bAdd false) (eVar 3) (eArgs gTup (aCons (eVar 2) aNil))) [some (.dat v), some (.dat (ptsD (prt ms))), some (.dat (mo (some m))), some (.dat (ptD p))] [] = _
    unfold ptD
    rw [e]
    simp only [Pev.fnB, Pev.OutS.toF, Pev.sCons, Pev.sSet, Pev.sRet, Pev.sRetN, Pev.sIf, Pev.sSkip, Pev.sExpr, Pev.sTgt, Pev.sFor, Pev.sRaise, Pev.sPut, Pev.sAugS, Pev.sPar2, Pev.sPar3, Pev.OutS.fade, Pev.OutS.calm, Pev.Out.toS, Pev.Out.bind, Pev.noX, Pev.eVar, Pev.eC, Pev.eBin, Pev.eUn, Pev.eArgs, Pev.aCons, Pev.aNil, Pev.needN, Pev.eAnd, Pev.eOr, Pev.eNot, Pev.eIf, Pev.mAnd, Pev.mOr, Pev.mNot, Pev.mB, Pev.mT, Pev.eChain, Pev.truth, Pev.ofT, Pev.ofB, Pev.R.d?, Pev.eLc, Pev.iOf, Pev.iArgs, Pev.gN, Pev.gTp, Pev.gsCons, Pev.gsNil, Pev.tv, Pev.eBMl, Pev.eFld, Pev.tYes', Pev.wipeR, Pev.permL, List.map_cons, List.map_nil, List.length_cons, List.length_nil, List.cons_append, List.nil_append, List.append_nil, List.replicate, List.getElem?_cons_zero, List.getElem?_cons_succ, List.getElem?_nil, List.set_cons_zero, List.set_cons_succ, List.set_nil, List.filterMap_cons, List.filterMap_nil, Option.map_some, Option.map_none, Option.bind_some, Option.bind_none, if_true, if_false, Bool.not_true, Bool.not_false, Nat.reduceSub, Nat.reduceAdd, Nat.reduceEqDiff, Nat.reduceLeDiff, reduceIte, ite_true, ite_false, Bool.true_eq_false, Bool.false_eq_true, ↓reduceIte, Nat.zero_add, Nat.add_zero, Nat.sub_zero, id_eq, Bool.or_false, Bool.or_true, Bool.true_or, Bool.false_or, Bool.and_true, Bool.true_and, Bool.and_false, Bool.false_and, Bool.and_self, Bool.or_self, tp, ad]⟩)
  have nl := newL_f (fun p : List Nat => ptD (p ++ [m])) (prt ms) []
  have ad := add_list ptD (prt ms) ((prt ms).map fun p => p ++ [m]) (by rw [List.length_map]; omega) []
  rw [List.map_map, ← prt_snoc] at ad
  have ad : bAdd false (.dat (ptsD (prt ms))) (.dat (.list ((prt ms).map fun p => ptD (p ++ [m])))) [] = .ok (.dat (ptsD (prt (ms ++ [m])))) [] := ad
  unfold paB
  simp only [Pev.fnB, Pev.OutS.toF, Pev.sCons, Pev.sSet, Pev.sRet, Pev.sRetN, Pev.sIf, Pev.sSkip, Pev.sExpr, Pev.sTgt, Pev.sFor, Pev.sRaise, Pev.sPut, Pev.sAugS, Pev.sPar2, Pev.sPar3, Pev.OutS.fade, Pev.OutS.calm, Pev.Out.toS, Pev.Out.bind, Pev.noX, Pev.eVar, Pev.eC, Pev.eBin, Pev.eUn, Pev.eArgs, Pev.aCons, Pev.aNil, Pev.needN, Pev.eAnd, Pev.eOr, Pev.eNot, Pev.eIf, Pev.mAnd, Pev.mOr, Pev.mNot, Pev.mB, Pev.mT, Pev.eChain, Pev.truth, Pev.ofT, Pev.ofB, Pev.R.d?, Pev.eLc, Pev.iOf, Pev.iArgs, Pev.gN, Pev.gTp, Pev.gsCons, Pev.gsNil, Pev.tv, Pev.eBMl, Pev.eFld, Pev.tYes', Pev.wipeR, Pev.permL, List.map_cons, List.map_nil, List.length_cons, List.length_nil, List.cons_append, List.nil_append, List.append_nil, List.replicate, List.getElem?_cons_zero, List.getElem?_cons_succ, List.getElem?_nil, List.set_cons_zero, List.set_cons_succ, List.set_nil, List.filterMap_cons, List.filterMap_nil, Option.map_some, Option.map_none, Option.bind_some, Option.bind_none, if_true, if_false, Bool.not_true, Bool.not_false, Nat.reduceSub, Nat.reduceAdd, Nat.reduceEqDiff, Nat.reduceLeDiff, reduceIte, ite_true, ite_false, Bool.true_eq_false, Bool.false_eq_true, ↓reduceIte, Nat.zero_add, Nat.add_zero, Nat.sub_zero, id_eq, Bool.or_false, Bool.or_true, Bool.true_or, Bool.false_or, Bool.and_true, Bool.true_and, Bool.and_false, Bool.false_and, Bool.and_self, Bool.or_self, it, List.length_map, sz, lc, nl, ad]
theorem sl_list1 {α : Type} (f : α → PyData) (xs : List α) (S : Sto) : gSl false (.dat (.list (xs.map f))) (some 1) none S = .ok (.dat (.list ((xs.drop 1).map f))) S := by
  have e : cutR (xs.map fun a => R.dat (f a)) (some 1) none = (xs.drop 1).map fun a => R.dat (f a) := by
    rw [cutR_f]
    congr 1
    unfold cutR HT.sIx
    dsimp only
    rw [if_neg (by omega)]
    rcases Nat.lt_or_ge xs.length 1 with z | z
    · have : xs = [] := List.eq_nil_of_length_eq_zero (by omega)
      rw [this]; rfl
    · rw [show min (1 : Int).toNat xs.length = 1 by omega, List.take_of_length_le (by rw [List.length_drop]; omega)]
  unfold gSl
  dsimp only [lv]
  rw [map_dat, e, newL_f]
theorem lawparts_ok {ms : List Nat} (t : Bool) (hl : ms.length ≤ 5) : Gv m__law_parts [sq t (os ms)] (.list ((parts ms).map ptD)) := by
  obtain ⟨ρ', S', e, x2, x3, rfl, rfl⟩ := for_nx (keep := []) (g := gN 2) (b := paB) (fun i ρ S => ∃ x2 x3, ρ = [some (.dat (sq t (os ms))), some (.dat (ptsD (prt (ms.take i)))), x2, x3] ∧ S = []) ((os ms).map fun a => R.dat (mo a)) (ρ := [some (.dat (sq t (os ms))), some (.dat (ptsD [[]])), none, none]) (S := []) ⟨none, none, rfl, rfl⟩ (fun _ _ _ _ _ => stands_nil) (by
    rintro i q ρ S hq ⟨x2, x3, rfl, rfl⟩
    rw [List.getElem?_map] at hq
    obtain ⟨mm, hm, rfl⟩ := Option.map_eq_some_iff.mp hq
    unfold os at hm
    rw [List.getElem?_map] at hm
    obtain ⟨m, hm2, rfl⟩ := Option.map_eq_some_iff.mp hm
    refine ⟨_, rfl, _, _, paB_ok (by rw [List.length_take]; omega), some (.dat (mo (some m))), x3, ?_, rfl⟩
    rw [List.take_add_one, hm2]
    rfl)
  rw [List.length_map, os_len, List.take_length] at e
  have e1 : sSet 1 (eArgs (gLst false) (aCons (eArgs gTup aNil) aNil)) [some (.dat (sq t (os ms))), none, none, none] [] = .nx [some (.dat (sq t (os ms))), some (.dat (ptsD [[]])), none, none] [] := rfl
  have e2 : sFor (iOf (eVar 0)) (gN 2) paB [some (.dat (sq t (os ms))), some (.dat (ptsD [[]])), none, none] [] = .nx [some (.dat (sq t (os ms))), some (.dat (ptsD (prt ms))), x2, x3] [] := by
    have it := it_sq t (os ms) []
    unfold sFor
    rw [show iOf (eVar 0) [some (.dat (sq t (os ms))), some (.dat (ptsD [[]])), none, none] [] = _ from it]
    exact e
  have sl : gSl false (.dat (ptsD (prt ms))) (some 1) none [] = .ok (.dat (.list ((parts ms).map ptD))) [] := sl_list1 ptD (prt ms) []
  show outD (OutS.toF (b__law_parts [some (.dat (sq t (os ms))), none, none, none] [])) = _
  rw [parts_eq, cons_nx e1, cons_nx e2]
  simp only [Pev.fnB, Pev.OutS.toF, Pev.sCons, Pev.sSet, Pev.sRet, Pev.sRetN, Pev.sIf, Pev.sSkip, Pev.sExpr, Pev.sTgt, Pev.sFor, Pev.sRaise, Pev.sPut, Pev.sAugS, Pev.sPar2, Pev.sPar3, Pev.OutS.fade, Pev.OutS.calm, Pev.Out.toS, Pev.Out.bind, Pev.noX, Pev.eVar, Pev.eC, Pev.eBin, Pev.eUn, Pev.eArgs, Pev.aCons, Pev.aNil, Pev.needN, Pev.eAnd, Pev.eOr, Pev.eNot, Pev.eIf, Pev.mAnd, Pev.mOr, Pev.mNot, Pev.mB, Pev.mT, Pev.eChain, Pev.truth, Pev.ofT, Pev.ofB, Pev.R.d?, Pev.eLc, Pev.iOf, Pev.iArgs, Pev.gN, Pev.gTp, Pev.gsCons, Pev.gsNil, Pev.tv, Pev.eBMl, Pev.eFld, Pev.tYes', Pev.wipeR, Pev.permL, List.map_cons, List.map_nil, List.length_cons, List.length_nil, List.cons_append, List.nil_append, List.append_nil, List.replicate, List.getElem?_cons_zero, List.getElem?_cons_succ, List.getElem?_nil, List.set_cons_zero, List.set_cons_succ, List.set_nil, List.filterMap_cons, List.filterMap_nil, Option.map_some, Option.map_none, Option.bind_some, Option.bind_none, if_true, if_false, Bool.not_true, Bool.not_false, Nat.reduceSub, Nat.reduceAdd, Nat.reduceEqDiff, Nat.reduceLeDiff, reduceIte, ite_true, ite_false, Bool.true_eq_false, Bool.false_eq_true, ↓reduceIte, Nat.zero_add, Nat.add_zero, Nat.sub_zero, id_eq, Bool.or_false, Bool.or_true, Bool.true_or, Bool.false_or, Bool.and_true, Bool.true_and, Bool.and_false, Bool.false_and, Bool.and_self, Bool.or_self, eSl, oPart, toI_i, sl, outD_dat]
/-! ### when nothing is missed every row keeps enough: plain -/
theorem cnd_sym (a b : Rw) (n : Nat) : cnd a b n = cnd b a n := by
  have c : ∀ x y : OL, com x y = com y x := fun x y => by
    unfold com
    rw [Bool.eq_iff_iff, List.any_eq_true, List.any_eq_true]
    exact ⟨fun ⟨z, h1, h2⟩ => ⟨z, of_decide_eq_true h2, decide_eq_true h1⟩, fun ⟨z, h1, h2⟩ => ⟨z, of_decide_eq_true h2, decide_eq_true h1⟩⟩
  unfold cnd
  rw [c (os a.lot), c (os a.kp), apart_os, apart_os, Nat.add_comm]
theorem enough {rs : List Rw} {n : Nat} {ms : List Nat} (hk : resD rs n = keptD) (nm : ms.Nodup) {r : Rw} (hr : r ∈ rs) (nl : r.lot.Nodup) (nk : r.kp.Nodup) (hs : ∀ x ∈ r.kp, x ∈ r.lot) (hm : ∀ x ∈ r.lot, x ∈ ms) (hall : ∀ p ∈ parts ms, ∃ r' ∈ rs, r'.lot.Perm p ∧ ∀ x ∈ r'.kp, x ∈ r'.lot) : ¬ (r.kp.length < r.lot.length ∧ r.kp.length ≤ n) := by
  rintro ⟨h1, h2⟩
  obtain ⟨c, hc, hck⟩ : ∃ c, c ∈ r.lot ∧ c ∉ r.kp := by
    apply Classical.byContradiction
    intro hn
    have hsub : ∀ x ∈ r.lot, x ∈ r.kp := fun x hx => Classical.byContradiction fun z => hn ⟨x, hx, z⟩
    have := ((List.perm_ext_iff_of_nodup nl nk).mpr fun x => ⟨hsub x, hs x⟩).length_eq
    omega
  have fm : ∀ x, x ∈ ms.filter (fun x => decide (x ∈ r.lot ∧ x ∉ r.kp)) ↔ x ∈ r.lot ∧ x ∉ r.kp := fun x => by
    rw [List.mem_filter, decide_eq_true_eq]
    exact ⟨fun h => h.2, fun h => ⟨hm x h.1, h⟩⟩
  have hp : ms.filter (fun x => decide (x ∈ r.lot ∧ x ∉ r.kp)) ∈ parts ms := parts_all _ fun e => by
    have := (fm c).mpr ⟨hc, hck⟩
    rw [e] at this
    cases this
  obtain ⟨r', hr', pr, ks⟩ := hall _ hp
  have m' : ∀ x, x ∈ r'.lot ↔ x ∈ r.lot ∧ x ∉ r.kp := fun x => pr.mem_iff.trans (fm x)
  have ct : cnd r r' n = true := by
    unfold cnd
    rw [Bool.and_eq_true, Bool.and_eq_true, decide_eq_true_eq, apart_os]
    refine ⟨?_, ?_, ?_⟩
    · have o1 : off r'.lot r.lot = 0 := by
        unfold off
        rw [List.length_eq_zero_iff, List.filter_eq_nil_iff]
        intro x hx hq
        rw [decide_eq_true ((m' x).mp hx).1] at hq
        cases hq
      have o2 : off r.lot r'.lot = r.kp.length := by
        have := (flt_perm nl nk hs).length_eq
        rw [← this]
        unfold off flt
        congr 1
        refine List.filter_congr fun x hx => ?_
        by_cases q : x ∈ r.kp
        · rw [decide_eq_true q, decide_eq_false fun z => ((m' x).mp z).2 q]; rfl
        · rw [decide_eq_false q, decide_eq_true ((m' x).mpr ⟨hx, q⟩)]; rfl
      omega
    · unfold com
      rw [List.any_eq_true]
      exact ⟨some c, mem_os.mpr hc, decide_eq_true (mem_os.mpr ((m' c).mpr ⟨hc, hck⟩))⟩
    · rw [Bool.not_eq_true']
      unfold com
      rw [List.any_eq_false]
      rintro x hx hq
      have hq := of_decide_eq_true hq
      unfold os at hx
      obtain ⟨y, hy, rfl⟩ := List.mem_map.mp hx
      exact ((m' y).mp (ks y (mem_os.mp hq))).2 hy
  obtain ⟨i, hi⟩ := List.mem_iff_getElem?.mp hr
  obtain ⟨j, hj⟩ := List.mem_iff_getElem?.mp hr'
  rcases Nat.le_total i j with z | z
  · rw [res_kept hk hi hj z] at ct
    cases ct
  · rw [cnd_sym, res_kept hk hj hi z] at ct
    cases ct
end Lw
namespace Lw
open PySem Pev
open L2 (atI ixN cutS)
/-! ### draws -/
def Tk (k : Nat) (S : Sto) : Prop := ∃ a b c, S[k]? = some (three a b c)
/-- only one cell may have changed -/
def Ot (k : Nat) (S S' : Sto) : Prop := S'.length = S.length ∧ ∀ i, i ≠ k → S'[i]? = S[i]?
theorem Ot.set (k : Nat) (S : Sto) (c : Cell) : Ot k S (S.set k c) := ⟨List.length_set, fun i hi => List.getElem?_set_ne (Ne.symm hi)⟩
theorem Tk.set {k : Nat} {S : Sto} (h : Tk k S) (a b c : Int) : Tk k (S.set k (three a b c)) := by
  obtain ⟨_, _, _, h⟩ := h
  exact ⟨a, b, c, set_at (List.getElem?_eq_some_iff.mp h).1⟩
theorem Tk.ne {k j : Nat} {S : Sto} (h : Tk k S) (c : Cell) (hj : j ≠ k) : Tk k (S.set j c) := by
  obtain ⟨x, y, z, h⟩ := h
  exact ⟨x, y, z, by rw [List.getElem?_set_ne hj]; exact h⟩
theorem Tk.more {k : Nat} {S : Sto} (h : Tk k S) (T : Sto) : Tk k (S ++ T) := by
  obtain ⟨a, b, c, h⟩ := h
  exact ⟨a, b, c, by rw [List.getElem?_append_left (List.getElem?_eq_some_iff.mp h).1]; exact h⟩
theorem Tk.lt {k : Nat} {S : Sto} (h : Tk k S) : k < S.length := by
  obtain ⟨a, b, c, h⟩ := h
  exact (List.getElem?_eq_some_iff.mp h).1
theorem draw {S : Sto} {k : Nat} (h : Tk k S) (many : Nat) (h0 : 0 < many) (hb : many < 1000000) : ∃ (x : Nat) (S' : Sto), x < many ∧ Tk k S' ∧ Ot k S S' ∧ m__law_take [.obj k, .dat (.int (many : Nat))] S = .ok (nR x) S' := by
  obtain ⟨a, b, c, hS⟩ := h
  obtain ⟨x, a', b', c', h1, h2, h3⟩ := take_ok (p := 90007) (q := 58217) (r := 43) (s := 40289) (t := 27367) rfl rfl rfl hS (many := (many : Int)) (by omega) (by omega)
  obtain ⟨n, rfl⟩ : ∃ n : Nat, x = (n : Int) := ⟨x.toNat, by omega⟩
  exact ⟨n, _, by omega, Tk.set ⟨a, b, c, hS⟩ a' b' c', Ot.set _ _ _, h3⟩
def Ot2 (k : Nat) (S S' : Sto) : Prop := S.length ≤ S'.length ∧ ∀ i, i < S.length → i ≠ k → S'[i]? = S[i]?
theorem Ot.two {k : Nat} {S S' : Sto} (h : Ot k S S') : Ot2 k S S' := ⟨Nat.le_of_eq h.1.symm, fun i _ hi => h.2 i hi⟩
theorem Ot2.refl {k : Nat} {S : Sto} : Ot2 k S S := ⟨Nat.le_refl _, fun _ _ _ => rfl⟩
theorem Ot2.trans {k : Nat} {S S' S2 : Sto} (h : Ot2 k S S') (g : Ot2 k S' S2) : Ot2 k S S2 := ⟨Nat.le_trans h.1 g.1, fun i hi hk => (g.2 i (Nat.lt_of_lt_of_le hi h.1) hk).trans (h.2 i hi hk)⟩
theorem Ot2.cell {k i : Nat} {S S' : Sto} {c : Cell} (h : Ot2 k S S') (hi : S[i]? = some c) (hk : i ≠ k) : S'[i]? = some c := (h.2 i (List.getElem?_eq_some_iff.mp hi).1 hk).trans hi
theorem pick {S : Sto} {k : Nat} (h : Tk k S) {ds : List PyData} (h0 : 0 < ds.length) (hb : ds.length < 1000000) : ∃ (d : PyData) (S' : Sto), d ∈ ds ∧ Tk k S' ∧ Ot2 k S S' ∧ m__law_pick [.obj k, .dat (.list ds)] S = .ok (.dat d) S' := by
  obtain ⟨a, b, c, hS⟩ := h
  obtain ⟨d, a', b', c', h1, h2⟩ := pick_ok (p := 90007) (q := 58217) (r := 43) (s := 40289) (t := 27367) rfl rfl rfl hS h0 hb
  exact ⟨d, _, h1, Tk.set ⟨a, b, c, hS⟩ a' b' c', (Ot.set _ _ _).two, h2⟩
theorem newbox {ns : List Int} {j : Nat} {S : Sto} (hk : j < 100) (hl : ns.length ≤ 63) : ∃ S', Tk S.length S' ∧ S'.length = S.length + 1 ∧ m__law_box [.ro (ns.map .int), nR j] S = .ok (.obj S.length) S' := by
  obtain ⟨x, y, e⟩ := box_ok (a := 7919) (b := 401) (m := 50021) (c := 38377) (d := 71129) rfl rfl rfl rfl (S := S) hk hl
  exact ⟨_, ⟨x, y, 0, by rw [List.getElem?_append_right (Nat.le_refl _), Nat.sub_self]; rfl⟩, by rw [List.length_append]; rfl, e⟩
/-! ### things mixed -/
theorem appO2 {S S2 : Sto} {k : Nat} {rs0 rs : List R} {mo me : EM} {ρ : Rho} {y : R} (ho : mo ρ S = .ok (.obj k) S) (hk : S[k]? = some (.lst rs0)) (hy : me ρ S = .ok y S2) (hk2 : S2[k]? = some (.lst rs)) (hl : rs.length < 10000) : sExpr (eBMl gAppend mo (aCons me aNil)) ρ S = .nx ρ (S2.set k (.lst (rs ++ [y]))) := by
  have sz := sz_lt (show rs.length ≤ 10000 by omega)
  have l0 : lv S (.obj k) = some rs0 := by
    unfold lv
    dsimp only
    rw [hk]
  show ((eBMl gAppend mo (aCons me aNil)) ρ S).toS ρ _ = _
  unfold eBMl
  rw [ho]
  show ((match lv S (.obj k) with
    | some _ => ((aCons me aNil) ρ S).bind fun xs S2 => gAppend (.obj k) xs S2
    | none => .stuck) : Out R).toS ρ _ = _
  rw [l0]
  have a1 : (aCons me aNil) ρ S = .ok [y] S2 := by
    unfold aCons
    rw [hy]
    rfl
  dsimp only
  rw [a1]
  show (gAppend (.obj k) [y] S2).toS ρ _ = _
  unfold gAppend Pev.cellOf
  dsimp only
  rw [hk2]
  dsimp only
  rw [if_pos (of_eq_true sz)]
  rfl
def mxP : EM := (eBMl gPopI (eVar 2) (aCons (eArgs (needN 2 m__law_take) (aCons (eVar 0) (aCons (eArgs gLen (aCons (eVar 2) aNil)) aNil))) aNil))
def mxB : SM := (sExpr (eBMl gAppend (eVar 3) (aCons mxP aNil)))
theorem mixed_eq : b__law_mixed = (sCons (sPar2 2 3 (aCons (eArgs (gList true) (aCons (eVar 1) aNil)) (aCons (eArgs (gLst true) aNil) aNil)))
    (sCons (sFor (iArgs gRange1 (aCons (eArgs gLen (aCons (eVar 1) aNil)) aNil)) (gN 4) mxB) (sRet (eVar 3)))) := rfl
theorem erase_perm {α : Type} {l : List α} {i : Nat} (h : i < l.length) : (l[i] :: l.eraseIdx i).Perm l := by
  induction l generalizing i with
  | nil => simp at h
  | cons a l ih =>
    cases i with
    | zero => exact List.Perm.refl _
    | succ i =>
      rw [List.eraseIdx_cons_succ]
      exact (List.Perm.swap _ _ _).trans (List.Perm.cons a (ih (by simpa using h)))
theorem mixed_ok {α : Type} (f : α → PyData) (xs : List α) (hl : xs.length ≤ 100) {arg : PyData} (hlen : ∀ S, gLen [.dat arg] S = .ok (nR xs.length) S) (hlist : ∀ S, gList true [.dat arg] S = .ok (.obj S.length) (S ++ [.lst (xs.map fun a => R.dat (f a))])) {S : Sto} {k : Nat} (h : Tk k S) :
    ∃ (ys : List α) (S' : Sto), ys.Perm xs ∧ Tk k S' ∧ Ot2 k S S' ∧ S'[S.length + 1]? = some (.lst (ys.map fun a => R.dat (f a))) ∧ m__law_mixed [.obj k, .dat arg] S = .ok (.obj (S.length + 1)) S' := by
  have hk := h.lt
  have e1 : (sPar2 2 3 (aCons (eArgs (gList true) (aCons (eVar 1) aNil)) (aCons (eArgs (gLst true) aNil) aNil))) [some (.obj k), some (.dat arg), none, none, none] S = .nx [some (.obj k), some (.dat arg), some (.obj S.length), some (.obj (S.length + 1)), none] (S ++ [.lst (xs.map fun a => R.dat (f a))] ++ [.lst []]) := by
    have hg := hlist S
    have g2 : gLst true [] (S ++ [.lst (xs.map fun a => R.dat (f a))]) = .ok (.obj (S.length + 1)) (S ++ [.lst (xs.map fun a => R.dat (f a))] ++ [.lst []]) := by
      show Out.ok (R.obj (S ++ [Cell.lst (xs.map fun a => R.dat (f a))]).length) _ = _
      rw [List.length_append]
      rfl
    simp only [Pev.fnB, Pev.OutS.toF, Pev.sCons, Pev.sSet, Pev.sRet, Pev.sRetN, Pev.sIf, Pev.sSkip, Pev.sExpr, Pev.sTgt, Pev.sFor, Pev.sRaise, Pev.sPut, Pev.sAugS, Pev.sPar2, Pev.sPar3, Pev.OutS.fade, Pev.OutS.calm, Pev.Out.toS, Pev.Out.bind, Pev.noX, Pev.eVar, Pev.eC, Pev.eBin, Pev.eUn, Pev.eArgs, Pev.aCons, Pev.aNil, Pev.needN, Pev.eAnd, Pev.eOr, Pev.eNot, Pev.eIf, Pev.mAnd, Pev.mOr, Pev.mNot, Pev.mB, Pev.mT, Pev.eChain, Pev.truth, Pev.ofT, Pev.ofB, Pev.R.d?, Pev.eLc, Pev.iOf, Pev.iArgs, Pev.gN, Pev.gTp, Pev.gsCons, Pev.gsNil, Pev.tv, Pev.eBMl, Pev.eFld, Pev.tYes', Pev.wipeR, Pev.permL, List.map_cons, List.map_nil, List.length_cons, List.length_nil, List.cons_append, List.nil_append, List.append_nil, List.replicate, List.getElem?_cons_zero, List.getElem?_cons_succ, List.getElem?_nil, List.set_cons_zero, List.set_cons_succ, List.set_nil, List.filterMap_cons, List.filterMap_nil, Option.map_some, Option.map_none, Option.bind_some, Option.bind_none, if_true, if_false, Bool.not_true, Bool.not_false, Nat.reduceSub, Nat.reduceAdd, Nat.reduceEqDiff, Nat.reduceLeDiff, reduceIte, ite_true, ite_false, Bool.true_eq_false, Bool.false_eq_true, ↓reduceIte, Nat.zero_add, Nat.add_zero, Nat.sub_zero, id_eq, Bool.or_false, Bool.or_true, Bool.true_or, Bool.false_or, Bool.and_true, Bool.true_and, Bool.and_false, Bool.false_and, Bool.and_self, Bool.or_self, hg, g2]
  have c1 : (S ++ [.lst (xs.map fun a => R.dat (f a))] ++ [.lst []])[S.length]? = some (.lst (xs.map fun a => R.dat (f a))) := by
    rw [List.append_assoc, List.getElem?_append_right (Nat.le_refl _), Nat.sub_self]; rfl
  have c2 : (S ++ [.lst (xs.map fun a => R.dat (f a))] ++ [.lst []])[S.length + 1]? = some (.lst []) := by
    rw [List.append_assoc, List.getElem?_append_right (by omega), show S.length + 1 - S.length = 1 by omega]; rfl
  obtain ⟨ρ', S', e, left, row, x4, rfl, t1, t2, t3, t4, t5, t6⟩ := for_nx (keep := []) (g := gN 4) (b := mxB) (fun i ρ S' => ∃ (left row : List α) (x4 : Option R), ρ = [some (.obj k), some (.dat arg), some (.obj S.length), some (.obj (S.length + 1)), x4] ∧ Tk k S' ∧ S'[S.length]? = some (.lst (left.map fun a => R.dat (f a))) ∧ S'[S.length + 1]? = some (.lst (row.map fun a => R.dat (f a))) ∧ (row ++ left).Perm xs ∧ row.length = i ∧ Ot2 k S S') ((List.range xs.length).map fun j : Nat => R.dat (.int (j : Nat)))
    (ρ := [some (.obj k), some (.dat arg), some (.obj S.length), some (.obj (S.length + 1)), none]) (S := S ++ [.lst (xs.map fun a => R.dat (f a))] ++ [.lst []]) ⟨xs, [], none, rfl, (h.more _).more _, c1, c2, List.Perm.refl _, rfl, ⟨by rw [List.length_append, List.length_append]; omega, fun i hi _ => by rw [List.append_assoc, List.getElem?_append_left hi]⟩⟩ (fun _ _ _ _ _ => stands_nil) (by
    rintro i q ρ S1 hq ⟨left, row, x4, rfl, t1, t2, t3, t4, t5, t6⟩
    have hi := (List.getElem?_eq_some_iff.mp hq).1
    rw [List.length_map, List.length_range] at hi
    rw [List.getElem?_map, List.getElem?_range hi] at hq
    have := Option.some.inj hq
    subst this
    have pl := t4.length_eq
    rw [List.length_append] at pl
    obtain ⟨x, S2, d1, d2, d3, d4⟩ := draw t1 left.length (by omega) (by omega)
    have gl : gLen [.obj S.length] S1 = .ok (nR left.length) S1 := by
      have := lenO t2 (by rw [List.length_map]; omega)
      rwa [List.length_map] at this
    have k2 : S2[S.length]? = some (.lst (left.map fun a => R.dat (f a))) := by rw [d3.2 _ (by omega)]; exact t2
    have k3 : S2[S.length + 1]? = some (.lst (row.map fun a => R.dat (f a))) := by rw [d3.2 _ (by omega)]; exact t3
    have pp := popI_ok k2 (show (left.map fun a => R.dat (f a))[x]? = some (R.dat (f left[x])) by rw [List.getElem?_map, List.getElem?_eq_getElem d1]; rfl) (by rw [List.length_map]; omega)
    have em : (left.map fun a => R.dat (f a)).eraseIdx x = (left.eraseIdx x).map fun a => R.dat (f a) := by
      rw [List.eraseIdx_eq_take_drop_succ, ← List.map_take, ← List.map_drop, ← List.map_append, ← List.eraseIdx_eq_take_drop_succ]
    rw [em] at pp
    have l0 : lv S1 (.obj S.length) = some (left.map fun a => R.dat (f a)) := by
      unfold lv
      dsimp only
      rw [t2]
    have hy : mxP [some (.obj k), some (.dat arg), some (.obj S.length), some (.obj (S.length + 1)), some (nR i)] S1 = .ok (.dat (f left[x])) (S2.set S.length (.lst ((left.eraseIdx x).map fun a => R.dat (f a)))) := by
      unfold mxP
      unfold nR at *
      simp only [Pev.fnB, Pev.OutS.toF, Pev.sCons, Pev.sSet, Pev.sRet, Pev.sRetN, Pev.sIf, Pev.sSkip, Pev.sExpr, Pev.sTgt, Pev.sFor, Pev.sRaise, Pev.sPut, Pev.sAugS, Pev.sPar2, Pev.sPar3, Pev.OutS.fade, Pev.OutS.calm, Pev.Out.toS, Pev.Out.bind, Pev.noX, Pev.eVar, Pev.eC, Pev.eBin, Pev.eUn, Pev.eArgs, Pev.aCons, Pev.aNil, Pev.needN, Pev.eAnd, Pev.eOr, Pev.eNot, Pev.eIf, Pev.mAnd, Pev.mOr, Pev.mNot, Pev.mB, Pev.mT, Pev.eChain, Pev.truth, Pev.ofT, Pev.ofB, Pev.R.d?, Pev.eLc, Pev.iOf, Pev.iArgs, Pev.gN, Pev.gTp, Pev.gsCons, Pev.gsNil, Pev.tv, Pev.eBMl, Pev.eFld, Pev.tYes', Pev.wipeR, Pev.permL, List.map_cons, List.map_nil, List.length_cons, List.length_nil, List.cons_append, List.nil_append, List.append_nil, List.replicate, List.getElem?_cons_zero, List.getElem?_cons_succ, List.getElem?_nil, List.set_cons_zero, List.set_cons_succ, List.set_nil, List.filterMap_cons, List.filterMap_nil, Option.map_some, Option.map_none, Option.bind_some, Option.bind_none, if_true, if_false, Bool.not_true, Bool.not_false, Nat.reduceSub, Nat.reduceAdd, Nat.reduceEqDiff, Nat.reduceLeDiff, reduceIte, ite_true, ite_false, Bool.true_eq_false, Bool.false_eq_true, ↓reduceIte, Nat.zero_add, Nat.add_zero, Nat.sub_zero, id_eq, Bool.or_false, Bool.or_true, Bool.true_or, Bool.false_or, Bool.and_true, Bool.true_and, Bool.and_false, Bool.false_and, Bool.and_self, Bool.or_self, l0, gl, d4, pp]
    have hk2 : (S2.set S.length (.lst ((left.eraseIdx x).map fun a => R.dat (f a))))[S.length + 1]? = some (.lst (row.map fun a => R.dat (f a))) := by
      rw [List.getElem?_set_ne (by omega)]; exact k3
    have ap := appO2 (mo := eVar 3) (ρ := [some (.obj k), some (.dat arg), some (.obj S.length), some (.obj (S.length + 1)), some (nR i)]) rfl t3 hy hk2 (by rw [List.length_map]; omega)
    have z1 : S.length < S2.length := (List.getElem?_eq_some_iff.mp k2).1
    have z2 : S.length + 1 < (S2.set S.length (.lst ((left.eraseIdx x).map fun a => R.dat (f a)))).length := (List.getElem?_eq_some_iff.mp hk2).1
    refine ⟨_, rfl, _, _, ap, left.eraseIdx x, row ++ [left[x]], _, rfl, (d2.ne _ (by omega)).ne _ (by omega), ?_, ?_, ?_, ?_, ⟨by rw [List.length_set, List.length_set, d3.1]; exact t6.1, fun i hi hk => by rw [List.getElem?_set_ne (by omega), List.getElem?_set_ne (by omega), d3.2 i hk]; exact t6.2 i hi hk⟩⟩
    · rw [List.getElem?_set_ne (by omega)]; exact set_at z1
    · rw [set_at z2, List.map_append]; rfl
    · rw [List.append_assoc]
      exact (List.Perm.append_left row (erase_perm d1)).trans t4
    · rw [List.length_append, t5]; rfl)
  rw [List.length_map, List.length_range] at t5
  have pl := t4.length_eq
  rw [List.length_append] at pl
  have : left = [] := List.eq_nil_of_length_eq_zero (by omega)
  subst this
  rw [List.append_nil] at t4
  refine ⟨row, S', t4, t1, t6, t3, ?_⟩
  have e2 : (sFor (iArgs gRange1 (aCons (eArgs gLen (aCons (eVar 1) aNil)) aNil)) (gN 4) mxB) [some (.obj k), some (.dat arg), some (.obj S.length), some (.obj (S.length + 1)), none] (S ++ [.lst (xs.map fun a => R.dat (f a))] ++ [.lst []]) = .nx [some (.obj k), some (.dat arg), some (.obj S.length), some (.obj (S.length + 1)), x4] S' := by
    have gl := hlen (S ++ [.lst (xs.map fun a => R.dat (f a))] ++ [.lst []])
    have gr := gr1 xs.length (by omega) (S ++ [.lst (xs.map fun a => R.dat (f a))] ++ [.lst []])
    have ei : (iArgs gRange1 (aCons (eArgs gLen (aCons (eVar 1) aNil)) aNil)) [some (.obj k), some (.dat arg), some (.obj S.length), some (.obj (S.length + 1)), none] (S ++ [.lst (xs.map fun a => R.dat (f a))] ++ [.lst []]) = .ok ⟨(List.range xs.length).map fun j : Nat => R.dat (.int (j : Nat)), []⟩ (S ++ [.lst (xs.map fun a => R.dat (f a))] ++ [.lst []]) := by
      unfold nR at gl
      simp only [Pev.fnB, Pev.OutS.toF, Pev.sCons, Pev.sSet, Pev.sRet, Pev.sRetN, Pev.sIf, Pev.sSkip, Pev.sExpr, Pev.sTgt, Pev.sFor, Pev.sRaise, Pev.sPut, Pev.sAugS, Pev.sPar2, Pev.sPar3, Pev.OutS.fade, Pev.OutS.calm, Pev.Out.toS, Pev.Out.bind, Pev.noX, Pev.eVar, Pev.eC, Pev.eBin, Pev.eUn, Pev.eArgs, Pev.aCons, Pev.aNil, Pev.needN, Pev.eAnd, Pev.eOr, Pev.eNot, Pev.eIf, Pev.mAnd, Pev.mOr, Pev.mNot, Pev.mB, Pev.mT, Pev.eChain, Pev.truth, Pev.ofT, Pev.ofB, Pev.R.d?, Pev.eLc, Pev.iOf, Pev.iArgs, Pev.gN, Pev.gTp, Pev.gsCons, Pev.gsNil, Pev.tv, Pev.eBMl, Pev.eFld, Pev.tYes', Pev.wipeR, Pev.permL, List.map_cons, List.map_nil, List.length_cons, List.length_nil, List.cons_append, List.nil_append, List.append_nil, List.replicate, List.getElem?_cons_zero, List.getElem?_cons_succ, List.getElem?_nil, List.set_cons_zero, List.set_cons_succ, List.set_nil, List.filterMap_cons, List.filterMap_nil, Option.map_some, Option.map_none, Option.bind_some, Option.bind_none, if_true, if_false, Bool.not_true, Bool.not_false, Nat.reduceSub, Nat.reduceAdd, Nat.reduceEqDiff, Nat.reduceLeDiff, reduceIte, ite_true, ite_false, Bool.true_eq_false, Bool.false_eq_true, ↓reduceIte, Nat.zero_add, Nat.add_zero, Nat.sub_zero, id_eq, Bool.or_false, Bool.or_true, Bool.true_or, Bool.false_or, Bool.and_true, Bool.true_and, Bool.and_false, Bool.false_and, Bool.and_self, Bool.or_self, gl, gr]
    unfold sFor
    rw [ei]
    exact e
  show OutS.toF (b__law_mixed [some (.obj k), some (.dat arg), none, none, none] S) = _
  rw [mixed_eq, cons_nx e1, cons_nx e2]
  rfl
/-! ### comprehensions that draw -/
theorem lcQ {α β : Type} {keep : List (Nat × List R)} {g : GM} {elt : EM} {ρ : Rho} (P : Sto → Prop) (Q : α → β → Prop) (enc : α → R) (en2 : β → R) (hst : ∀ S, P S → stands S keep = true) : ∀ (xs : List α) (S : Sto), P S → (∀ a ∈ xs, ∀ S, P S → ∃ ρ1 y S', g (enc a) ρ = some ρ1 ∧ elt ρ1 S = .ok (en2 y) S' ∧ Q a y ∧ P S') →
    ∃ (ys : List β) (S' : Sto), lcLoop keep g tYes' elt ρ (xs.map enc) S = .ok (ys.map en2) S' ∧ P S' ∧ ys.length = xs.length ∧ ∀ (i : Nat) (a : α) (y : β), xs[i]? = some a → ys[i]? = some y → Q a y
  | [], S, hP, _ => ⟨[], S, by unfold lcLoop; rw [List.map_nil]; dsimp only; rw [if_pos (hst S hP)]; rfl, hP, rfl, fun i a y h => by simp at h⟩
  | a :: xs, S, hP, h => by
    obtain ⟨ρ1, y, S1, h1, h2, h3, h4⟩ := h a List.mem_cons_self S hP
    obtain ⟨ys, S2, k1, k2, k3, k4⟩ := lcQ P Q enc en2 hst xs S1 h4 fun b hb => h b (List.mem_cons_of_mem _ hb)
    refine ⟨y :: ys, S2, ?_, k2, by rw [List.length_cons, List.length_cons, k3], fun i b w hb hw => ?_⟩
    · rw [List.map_cons]
      unfold lcLoop
      rw [if_pos (hst S hP), h1]
      dsimp only
      simp only [tYes', Out.bind, noX, h2, k1]
      rfl
    · cases i with
      | zero =>
        rw [← Option.some.inj hb, ← Option.some.inj hw]
        exact h3
      | succ i => exact k4 i b w (by simpa using hb) (by simpa using hw)
theorem lcT {α : Type} {keep : List (Nat × List R)} {g : GM} {t : TM} {elt : EM} {ρ : Rho} (P : Sto → Prop) (enc : α → R) (hst : ∀ S, P S → stands S keep = true) : ∀ (xs : List α) (S : Sto), P S → (∀ a ∈ xs, ∀ S, P S → ∃ ρ1 q S', g (enc a) ρ = some ρ1 ∧ t ρ1 S = .ok q S' ∧ P S' ∧ elt ρ1 S' = .ok (enc a) S') →
    ∃ (ys : List α) (S' : Sto), lcLoop keep g t elt ρ (xs.map enc) S = .ok (ys.map enc) S' ∧ P S' ∧ ys.Sublist xs
  | [], S, hP, _ => ⟨[], S, by unfold lcLoop; rw [List.map_nil]; dsimp only; rw [if_pos (hst S hP)], hP, List.Sublist.refl _⟩
  | a :: xs, S, hP, h => by
    obtain ⟨ρ1, q, S1, h1, h2, h3, h4⟩ := h a List.mem_cons_self S hP
    obtain ⟨ys, S2, k1, k2, k3⟩ := lcT P enc hst xs S1 h3 fun b hb => h b (List.mem_cons_of_mem _ hb)
    cases q with
    | true =>
      refine ⟨a :: ys, S2, ?_, k2, k3.cons_cons _⟩
      rw [List.map_cons]
      unfold lcLoop
      rw [if_pos (hst S hP), h1]
      dsimp only
      simp only [Out.bind, noX, h2, h4, k1]
      rfl
    | false =>
      refine ⟨ys, S2, ?_, k2, k3.cons _⟩
      rw [List.map_cons]
      unfold lcLoop
      rw [if_pos (hst S hP), h1]
      dsimp only
      simp only [Out.bind, noX, h2, k1]
theorem listT (t : Bool) (l : OL) (S : Sto) : gList true [.dat (sq t l)] S = .ok (.obj S.length) (S ++ [.lst (l.map fun a => R.dat (mo a))]) := by
  cases t with
  | true =>
    show newL true ((l.map mo).map .dat) S = _
    rw [map_dat]
    rfl
  | false =>
    show newL true ((l.map mo).map .dat) S = _
    rw [map_dat]
    rfl
theorem listF {α : Type} (f : α → PyData) (xs : List α) (S : Sto) : gList true [.dat (.list (xs.map f))] S = .ok (.obj S.length) (S ++ [.lst (xs.map fun a => R.dat (f a))]) := by
  show newL true ((xs.map f).map .dat) S = _
  rw [map_dat]
  rfl
/-- marks mixed -/
theorem mixed_sq (t : Bool) (l : List Nat) (hl : l.length ≤ 100) {S : Sto} {k : Nat} (h : Tk k S) : ∃ (ys : List Nat) (S' : Sto), ys.Perm l ∧ Tk k S' ∧ Ot2 k S S' ∧ S'[S.length + 1]? = some (.lst ((os ys).map fun a => R.dat (mo a))) ∧ m__law_mixed [.obj k, .dat (sq t (os l))] S = .ok (.obj (S.length + 1)) S' := by
  have h1 := fun S => len_sq t (os l) (by rw [os_len]; omega) S
  have h2 := fun S => listT t (os l) S
  have e : (os l).map (fun a => R.dat (mo a)) = l.map fun n => R.dat (mo (some n)) := by unfold os; rw [List.map_map]; rfl
  rw [os_len] at h1
  simp only [e] at h2
  obtain ⟨ys, S', p1, p2, p3, p4, p5⟩ := mixed_ok (fun n => mo (some n)) l hl h1 h2 h
  refine ⟨ys, S', p1, p2, p3, ?_, p5⟩
  rw [p4]
  unfold os
  rw [List.map_map]
  rfl
end Lw
namespace Lw
open PySem Pev
open L2 (atI ixN cutS)
/-! ### what is refused -/
def dueOf (c : Nat) (f d : PyData) : Prop := (c = 0 ∧ d = .tuple [.str "lot", f]) ∨ (c = 1 ∧ d = .tuple [.str "size", f])
theorem refused_ok {hl : Nat → Sto → Out R} {i c : Nat} {f d : PyData} {S S' : Sto} (h : hl i S = .exc c (some f) S') (hd : dueOf c f d) : fnB 2 (b__law_refused hl) [.lam i none] S = .ok (.dat d) S' := by
  have e : sExpr (eWork 0 hl) [some (.lam i none), none] S = .exc c (some f) [some (.lam i none), none] S' := by
    show (hl i S).toS _ _ = _
    rw [h]
    rfl
  rcases hd with ⟨rfl, rfl⟩ | ⟨rfl, rfl⟩ <;>
  · show OutS.toF ((sCons (sTry (sExpr (eWork 0 hl)) _) _) [some (.lam i none), none] S) = _
    unfold sCons sTry
    rw [e]
    rfl
def wT (hl : Nat → Sto → Out R) : TM := (mB (eBin (bEq true) (eLCallB (fnB 2 (b__law_refused hl)) (eVar 7)) (eVar 8)))
theorem wt_ok {hl : Nat → Sto → Out R} {i c : Nat} {f d : PyData} {S S' : Sto} {ρ : Rho} (h : hl i S = .exc c (some f) S') (hd : dueOf c f d) (hq : bEq true (.dat d) (.dat d) S' = .ok (.dat (.bool false)) S') (h4 : ρ[7]? = some (some (.lam i none))) (h5 : ρ[8]? = some (some (.dat d))) : wT hl ρ S = .ok false S' := by
  have r := refused_ok h hd
  have e : eLCallB (fnB 2 (b__law_refused hl)) (eVar 7) ρ S = .ok (.dat d) S' := by
    unfold eLCallB eVar
    rw [h4]
    exact r
  unfold wT
  generalize eLCallB (fnB 2 (b__law_refused hl)) (eVar 7) = m at e
  simp only [Pev.fnB, Pev.OutS.toF, Pev.sCons, Pev.sSet, Pev.sRet, Pev.sRetN, Pev.sIf, Pev.sSkip, Pev.sExpr, Pev.sTgt, Pev.sFor, Pev.sRaise, Pev.sPut, Pev.sAugS, Pev.sPar2, Pev.sPar3, Pev.OutS.fade, Pev.OutS.calm, Pev.Out.toS, Pev.Out.bind, Pev.noX, Pev.eVar, Pev.eC, Pev.eBin, Pev.eUn, Pev.eArgs, Pev.aCons, Pev.aNil, Pev.needN, Pev.eAnd, Pev.eOr, Pev.eNot, Pev.eIf, Pev.mAnd, Pev.mOr, Pev.mNot, Pev.mB, Pev.mT, Pev.eChain, Pev.truth, Pev.ofT, Pev.ofB, Pev.R.d?, Pev.eLc, Pev.iOf, Pev.iArgs, Pev.gN, Pev.gTp, Pev.gsCons, Pev.gsNil, Pev.tv, Pev.eBMl, Pev.eFld, Pev.tYes', Pev.wipeR, Pev.permL, List.map_cons, List.map_nil, List.length_cons, List.length_nil, List.cons_append, List.nil_append, List.append_nil, List.replicate, List.getElem?_cons_zero, List.getElem?_cons_succ, List.getElem?_nil, List.set_cons_zero, List.set_cons_succ, List.set_nil, List.filterMap_cons, List.filterMap_nil, Option.map_some, Option.map_none, Option.bind_some, Option.bind_none, if_true, if_false, Bool.not_true, Bool.not_false, Nat.reduceSub, Nat.reduceAdd, Nat.reduceEqDiff, Nat.reduceLeDiff, reduceIte, ite_true, ite_false, Bool.true_eq_false, Bool.false_eq_true, ↓reduceIte, Nat.zero_add, Nat.add_zero, Nat.sub_zero, id_eq, Bool.or_false, Bool.or_true, Bool.true_or, Bool.false_or, Bool.and_true, Bool.true_and, Bool.and_false, Bool.false_and, Bool.and_self, Bool.or_self, h5, e, hq]
theorem lc_noneS {keep : List (Nat × List R)} {g : GM} {t : TM} {elt : EM} {ρ : Rho} (P : Sto → Prop) (hst : ∀ S, P S → stands S keep = true) : ∀ (rs : List R) (S : Sto), P S → (∀ r ∈ rs, ∀ S, P S → ∃ ρ1 S', g r ρ = some ρ1 ∧ t ρ1 S = .ok false S' ∧ P S') → ∃ S', P S' ∧ lcLoop keep g t elt ρ rs S = .ok [] S'
  | [], S, hP, _ => ⟨S, hP, by unfold lcLoop; rw [if_pos (hst S hP)]⟩
  | r :: rs, S, hP, h => by
    obtain ⟨ρ1, S1, h1, h2, h3⟩ := h r List.mem_cons_self S hP
    obtain ⟨S2, k1, k2⟩ := lc_noneS P hst rs S1 h3 fun r hr => h r (List.mem_cons_of_mem _ hr)
    refine ⟨S2, k1, ?_⟩
    unfold lcLoop
    rw [if_pos (hst S hP), h1]
    dsimp only
    rw [h2]
    exact k2
theorem app_lam {S : Sto} {rs : List R} {i : Nat} {d : PyData} {ed : EM} {ρ : Rho} (h3 : ρ[6]? = some (some (.obj S.length))) (hd : ∀ rs, ed ρ (S ++ [.lst rs]) = .ok (.dat d) (S ++ [.lst rs])) (hl : rs.length < 1000) : sExpr (eBMl gAppend (eVar 6) (aCons (eArgs gTupL (aCons (eLam i) (aCons ed aNil))) aNil)) ρ (S ++ [.lst rs]) = .nx ρ (S ++ [.lst (rs ++ [.lam i (some d)])]) := by
  have ho : eVar 6 ρ (S ++ [.lst rs]) = .ok (.obj S.length) (S ++ [.lst rs]) := by
    unfold eVar
    rw [h3]
  have hd := hd rs
  have hy : (eArgs gTupL (aCons (eLam i) (aCons ed aNil))) ρ (S ++ [.lst rs]) = .ok (.lam i (some d)) (S ++ [.lst rs]) := by
    simp only [Pev.fnB, Pev.OutS.toF, Pev.sCons, Pev.sSet, Pev.sRet, Pev.sRetN, Pev.sIf, Pev.sSkip, Pev.sExpr, Pev.sTgt, Pev.sFor, Pev.sRaise, Pev.sPut, Pev.sAugS, Pev.sPar2, Pev.sPar3, Pev.OutS.fade, Pev.OutS.calm, Pev.Out.toS, Pev.Out.bind, Pev.noX, Pev.eVar, Pev.eC, Pev.eBin, Pev.eUn, Pev.eArgs, Pev.aCons, Pev.aNil, Pev.needN, Pev.eAnd, Pev.eOr, Pev.eNot, Pev.eIf, Pev.mAnd, Pev.mOr, Pev.mNot, Pev.mB, Pev.mT, Pev.eChain, Pev.truth, Pev.ofT, Pev.ofB, Pev.R.d?, Pev.eLc, Pev.iOf, Pev.iArgs, Pev.gN, Pev.gTp, Pev.gsCons, Pev.gsNil, Pev.tv, Pev.eBMl, Pev.eFld, Pev.tYes', Pev.wipeR, Pev.permL, List.map_cons, List.map_nil, List.length_cons, List.length_nil, List.cons_append, List.nil_append, List.append_nil, List.replicate, List.getElem?_cons_zero, List.getElem?_cons_succ, List.getElem?_nil, List.set_cons_zero, List.set_cons_succ, List.set_nil, List.filterMap_cons, List.filterMap_nil, Option.map_some, Option.map_none, Option.bind_some, Option.bind_none, if_true, if_false, Bool.not_true, Bool.not_false, Nat.reduceSub, Nat.reduceAdd, Nat.reduceEqDiff, Nat.reduceLeDiff, reduceIte, ite_true, ite_false, Bool.true_eq_false, Bool.false_eq_true, ↓reduceIte, Nat.zero_add, Nat.add_zero, Nat.sub_zero, id_eq, Bool.or_false, Bool.or_true, Bool.true_or, Bool.false_or, Bool.and_true, Bool.true_and, Bool.and_false, Bool.false_and, Bool.and_self, Bool.or_self, eLam, hd, gTupL]
  have hk : (S ++ [.lst rs])[S.length]? = some (.lst rs) := by rw [List.getElem?_append_right (Nat.le_refl _), Nat.sub_self]; rfl
  rw [appO ho hk hy (by omega), List.set_append_right _ _ (Nat.le_refl _), Nat.sub_self]
  rfl
theorem three_throw {m : FM} {d e f : PyData} {c : Nat} {g : PyData} (h : Tw m [d, e, f] c g) (S : Sto) : pureF m [.dat d, .dat e, .dat f] S = .exc c (some g) S := pure_throws h (three_args S) rfl
theorem cons_exc {a b : SM} {ρ ρ1 : Rho} {S S1 : Sto} {c : Nat} {f : Option PyData} (h : a ρ S = .exc c f ρ1 S1) : sCons a b ρ S = .exc c f ρ1 S1 := by
  unfold sCons
  rw [h]
/-! the things that are handed in -/
def wrL : List PyData := [.none, .int 5, .str "12", .tuple [.int 1, .int 1], .list [.int (-1)], .tuple [.bool true], .list [.list [.int 0]]]
def neL : List PyData := [.none, .bool true, .int (-1), .str "1"]
def p3L : List PyData := [.none, .int 3, .str "ab"]
def bdL (r0 : Rw) : List PyData := [.none, .tuple [.int 1], .tuple [.tuple [.int 0], .tuple [.int 1]], .tuple [.tuple [.int 1, .int 1], .tuple []], rD true r0, .tuple [.tuple [.int 0], .none], .tuple [.tuple [.int 0], .tuple [.int 0], .int 0]]
theorem wr_cases {w : PyData} (h : w ∈ wrL) : w = .none ∨ w = .int 5 ∨ w = .str "12" ∨ w = .tuple [.int 1, .int 1] ∨ w = .list [.int (-1)] ∨ w = .tuple [.bool true] ∨ w = .list [.list [.int 0]] := by
  unfold wrL at h
  simpa only [List.mem_cons, List.not_mem_nil, or_false] using h
theorem ne_cases {w : PyData} (h : w ∈ neL) : w = .none ∨ w = .bool true ∨ w = .int (-1) ∨ w = .str "1" := by
  unfold neL at h
  simpa only [List.mem_cons, List.not_mem_nil, or_false] using h
theorem p3_cases {w : PyData} (h : w ∈ p3L) : w = .none ∨ w = .int 3 ∨ w = .str "ab" := by
  unfold p3L at h
  simpa only [List.mem_cons, List.not_mem_nil, or_false] using h
theorem bd_cases {w : PyData} {r0 : Rw} (h : w ∈ bdL r0) : w = .none ∨ w = .tuple [.int 1] ∨ w = .tuple [.tuple [.int 0], .tuple [.int 1]] ∨ w = .tuple [.tuple [.int 1, .int 1], .tuple []] ∨ w = rD true r0 ∨ w = .tuple [.tuple [.int 0], .none] ∨ w = .tuple [.tuple [.int 0], .tuple [.int 0], .int 0] := by
  unfold bdL at h
  simpa only [List.mem_cons, List.not_mem_nil, or_false] using h
theorem mk_no {w : PyData} (h : w ∈ wrL) : Tw m_need_marks [w, .int 1] 0 (.int 1) := by
  rcases wr_cases h with rfl | rfl | rfl | rfl | rfl | rfl | rfl <;> (unfold Tw; kernel_rfl)
theorem nm_no {w : PyData} (h : w ∈ neL) : Tw m_need_many [w, .str "near", .int 0] 1 (.str "near") := by
  rcases ne_cases h with rfl | rfl | rfl | rfl <;> (unfold Tw; kernel_rfl)
theorem f0 {w : PyData} (h : w ∈ wrL) : Tw m_first_marks [w, .none, .none] 0 (.int 0) := by
  rcases wr_cases h with rfl | rfl | rfl | rfl | rfl | rfl | rfl <;> (unfold Tw; kernel_rfl)
section
variable {order : List Nat} (no : order.Nodup) (lo : order.length ≤ 50)
include no lo
theorem f1 {w : PyData} (h : w ∈ wrL) : Tw m_first_marks [LI (os order), w, .none] 0 (.int 1) := by
  have m1 : pureF m_need_marks [.dat (LI (os order)), .dat (.int 0)] [] = _ := two_call (marks_ok false (.int 0) no (by omega)) []
  have m2 := two_throw (mk_no h) []
  unfold Tw m_first_marks b_first_marks
  simp only [Pev.fnB, Pev.OutS.toF, Pev.sCons, Pev.sSet, Pev.sRet, Pev.sRetN, Pev.sIf, Pev.sSkip, Pev.sExpr, Pev.sTgt, Pev.sFor, Pev.sRaise, Pev.sPut, Pev.sAugS, Pev.sPar2, Pev.sPar3, Pev.OutS.fade, Pev.OutS.calm, Pev.Out.toS, Pev.Out.bind, Pev.noX, Pev.eVar, Pev.eC, Pev.eBin, Pev.eUn, Pev.eArgs, Pev.aCons, Pev.aNil, Pev.needN, Pev.eAnd, Pev.eOr, Pev.eNot, Pev.eIf, Pev.mAnd, Pev.mOr, Pev.mNot, Pev.mB, Pev.mT, Pev.eChain, Pev.truth, Pev.ofT, Pev.ofB, Pev.R.d?, Pev.eLc, Pev.iOf, Pev.iArgs, Pev.gN, Pev.gTp, Pev.gsCons, Pev.gsNil, Pev.tv, Pev.eBMl, Pev.eFld, Pev.tYes', Pev.wipeR, Pev.permL, List.map_cons, List.map_nil, List.length_cons, List.length_nil, List.cons_append, List.nil_append, List.append_nil, List.replicate, List.getElem?_cons_zero, List.getElem?_cons_succ, List.getElem?_nil, List.set_cons_zero, List.set_cons_succ, List.set_nil, List.filterMap_cons, List.filterMap_nil, Option.map_some, Option.map_none, Option.bind_some, Option.bind_none, if_true, if_false, Bool.not_true, Bool.not_false, Nat.reduceSub, Nat.reduceAdd, Nat.reduceEqDiff, Nat.reduceLeDiff, reduceIte, ite_true, ite_false, Bool.true_eq_false, Bool.false_eq_true, ↓reduceIte, Nat.zero_add, Nat.add_zero, Nat.sub_zero, id_eq, Bool.or_false, Bool.or_true, Bool.true_or, Bool.false_or, Bool.and_true, Bool.true_and, Bool.and_false, Bool.false_and, Bool.and_self, Bool.or_self, m1, m2]
  rfl
theorem f2 {m : Nat} (hm : m ∉ order) : Tw m_first_marks [LI (os order), .list [.int (m : Nat)], .int 0] 0 (.int 1) := by
  have m1 : pureF m_need_marks [.dat (LI (os order)), .dat (.int 0)] [] = _ := two_call (marks_ok false (.int 0) no (by omega)) []
  have m2 : pureF m_need_marks [.dat (.list [.int (m : Nat)]), .dat (.int 1)] [] = .ok (.dat (TU (os (srt [m])))) [] := two_call (marks_ok false (.int 1) (show [m].Nodup by simp) (by simp)) []
  have s1 : srt [m] = [m] := List.perm_singleton.mp (srt_perm [m])
  rw [s1] at m2
  have it : itOf (.dat (TU (os [m]))) [] = .ok ⟨[.dat (mo (some m))], []⟩ [] := rfl
  have i := in_sq false false (some m) (os order) []
  rw [if_neg (by simp), decide_eq_false fun z => hm (mem_os.mp z)] at i
  have i : bIn false (.dat (mo (some m))) (.dat (LI (os order))) [] = _ := i
  have nl : newL false [.dat (.bool false)] [] = .ok (.dat (.list [.bool false])) [] := rfl
  have ga : gAll [.dat (.list [.bool false])] [] = .ok (.dat (.bool false)) [] := rfl
  unfold Tw m_first_marks b_first_marks
  simp only [Pev.fnB, Pev.OutS.toF, Pev.sCons, Pev.sSet, Pev.sRet, Pev.sRetN, Pev.sIf, Pev.sSkip, Pev.sExpr, Pev.sTgt, Pev.sFor, Pev.sRaise, Pev.sPut, Pev.sAugS, Pev.sPar2, Pev.sPar3, Pev.OutS.fade, Pev.OutS.calm, Pev.Out.toS, Pev.Out.bind, Pev.noX, Pev.eVar, Pev.eC, Pev.eBin, Pev.eUn, Pev.eArgs, Pev.aCons, Pev.aNil, Pev.needN, Pev.eAnd, Pev.eOr, Pev.eNot, Pev.eIf, Pev.mAnd, Pev.mOr, Pev.mNot, Pev.mB, Pev.mT, Pev.eChain, Pev.truth, Pev.ofT, Pev.ofB, Pev.R.d?, Pev.eLc, Pev.iOf, Pev.iArgs, Pev.gN, Pev.gTp, Pev.gsCons, Pev.gsNil, Pev.tv, Pev.eBMl, Pev.eFld, Pev.tYes', Pev.wipeR, Pev.permL, List.map_cons, List.map_nil, List.length_cons, List.length_nil, List.cons_append, List.nil_append, List.append_nil, List.replicate, List.getElem?_cons_zero, List.getElem?_cons_succ, List.getElem?_nil, List.set_cons_zero, List.set_cons_succ, List.set_nil, List.filterMap_cons, List.filterMap_nil, Option.map_some, Option.map_none, Option.bind_some, Option.bind_none, if_true, if_false, Bool.not_true, Bool.not_false, Nat.reduceSub, Nat.reduceAdd, Nat.reduceEqDiff, Nat.reduceLeDiff, reduceIte, ite_true, ite_false, Bool.true_eq_false, Bool.false_eq_true, ↓reduceIte, Nat.zero_add, Nat.add_zero, Nat.sub_zero, id_eq, Bool.or_false, Bool.or_true, Bool.true_or, Bool.false_or, Bool.and_true, Bool.true_and, Bool.and_false, Bool.false_and, Bool.and_self, Bool.or_self, m1, m2, it, eq_true one_small, lcLoop, stands_nil, i, nl, ga]
  rfl
theorem f3 {w : PyData} (h : w ∈ neL) : Tw m_first_marks [LI (os order), LI (os order), w] 1 (.str "near") := by
  have m1 : pureF m_need_marks [.dat (LI (os order)), .dat (.int 0)] [] = _ := two_call (marks_ok false (.int 0) no (by omega)) []
  have m2 : pureF m_need_marks [.dat (LI (os order)), .dat (.int 1)] [] = _ := two_call (marks_ok false (.int 1) no (by omega)) []
  have lp := (srt_perm order).length_eq
  have it1 : itOf (.dat (TU (os (srt order)))) [] = _ := it_sq true (os (srt order)) []
  have sz1 := sz_of (show (os (srt order)).length ≤ 10000 by rw [os_len]; omega)
  have lc1 := fm_all (order := order) (lot := srt order) (t := false) (x0 := some (.dat (LI (os order)))) (x1 := some (.dat (LI (os order)))) (x2 := some (.dat w)) (x3 := some (.dat (TU (os (srt order))))) (fun x hx => (srt_perm order).mem_iff.mp hx) rfl
  have nl1 := newL_f (fun _ : Option Nat => PyData.bool true) (os (srt order)) []
  have ga := all_t (os (srt order)) []
  have nm := three_throw (nm_no h) []
  unfold Tw m_first_marks b_first_marks
  simp only [Pev.fnB, Pev.OutS.toF, Pev.sCons, Pev.sSet, Pev.sRet, Pev.sRetN, Pev.sIf, Pev.sSkip, Pev.sExpr, Pev.sTgt, Pev.sFor, Pev.sRaise, Pev.sPut, Pev.sAugS, Pev.sPar2, Pev.sPar3, Pev.OutS.fade, Pev.OutS.calm, Pev.Out.toS, Pev.Out.bind, Pev.noX, Pev.eVar, Pev.eC, Pev.eBin, Pev.eUn, Pev.eArgs, Pev.aCons, Pev.aNil, Pev.needN, Pev.eAnd, Pev.eOr, Pev.eNot, Pev.eIf, Pev.mAnd, Pev.mOr, Pev.mNot, Pev.mB, Pev.mT, Pev.eChain, Pev.truth, Pev.ofT, Pev.ofB, Pev.R.d?, Pev.eLc, Pev.iOf, Pev.iArgs, Pev.gN, Pev.gTp, Pev.gsCons, Pev.gsNil, Pev.tv, Pev.eBMl, Pev.eFld, Pev.tYes', Pev.wipeR, Pev.permL, List.map_cons, List.map_nil, List.length_cons, List.length_nil, List.cons_append, List.nil_append, List.append_nil, List.replicate, List.getElem?_cons_zero, List.getElem?_cons_succ, List.getElem?_nil, List.set_cons_zero, List.set_cons_succ, List.set_nil, List.filterMap_cons, List.filterMap_nil, Option.map_some, Option.map_none, Option.bind_some, Option.bind_none, if_true, if_false, Bool.not_true, Bool.not_false, Nat.reduceSub, Nat.reduceAdd, Nat.reduceEqDiff, Nat.reduceLeDiff, reduceIte, ite_true, ite_false, Bool.true_eq_false, Bool.false_eq_true, ↓reduceIte, Nat.zero_add, Nat.add_zero, Nat.sub_zero, id_eq, Bool.or_false, Bool.or_true, Bool.true_or, Bool.false_or, Bool.and_true, Bool.true_and, Bool.and_false, Bool.false_and, Bool.and_self, Bool.or_self, m1, m2, it1, List.length_map, sz1, lc1, nl1, ga, nm]
  rfl
end
theorem f4 {w : PyData} (h : w ∈ p3L) : Tw m_keeping_paper [w, .int 0] 0 (.int (-1)) := by
  rcases p3_cases h with rfl | rfl | rfl <;> (unfold Tw; kernel_rfl)
theorem f6 {rs : List Rw} {w : PyData} (hG : GR rs) (h : w ∈ neL) : Tw m_keeping_paper [.list (rs.map (rD true)), w] 1 (.str "near") := by
  have nr := one_call (needrows_ok hG true) []
  have nm := three_throw (nm_no h) []
  unfold Tw m_keeping_paper b_keeping_paper
  simp only [Pev.fnB, Pev.OutS.toF, Pev.sCons, Pev.sSet, Pev.sRet, Pev.sRetN, Pev.sIf, Pev.sSkip, Pev.sExpr, Pev.sTgt, Pev.sFor, Pev.sRaise, Pev.sPut, Pev.sAugS, Pev.sPar2, Pev.sPar3, Pev.OutS.fade, Pev.OutS.calm, Pev.Out.toS, Pev.Out.bind, Pev.noX, Pev.eVar, Pev.eC, Pev.eBin, Pev.eUn, Pev.eArgs, Pev.aCons, Pev.aNil, Pev.needN, Pev.eAnd, Pev.eOr, Pev.eNot, Pev.eIf, Pev.mAnd, Pev.mOr, Pev.mNot, Pev.mB, Pev.mT, Pev.eChain, Pev.truth, Pev.ofT, Pev.ofB, Pev.R.d?, Pev.eLc, Pev.iOf, Pev.iArgs, Pev.gN, Pev.gTp, Pev.gsCons, Pev.gsNil, Pev.tv, Pev.eBMl, Pev.eFld, Pev.tYes', Pev.wipeR, Pev.permL, List.map_cons, List.map_nil, List.length_cons, List.length_nil, List.cons_append, List.nil_append, List.append_nil, List.replicate, List.getElem?_cons_zero, List.getElem?_cons_succ, List.getElem?_nil, List.set_cons_zero, List.set_cons_succ, List.set_nil, List.filterMap_cons, List.filterMap_nil, Option.map_some, Option.map_none, Option.bind_some, Option.bind_none, if_true, if_false, Bool.not_true, Bool.not_false, Nat.reduceSub, Nat.reduceAdd, Nat.reduceEqDiff, Nat.reduceLeDiff, reduceIte, ite_true, ite_false, Bool.true_eq_false, Bool.false_eq_true, ↓reduceIte, Nat.zero_add, Nat.add_zero, Nat.sub_zero, id_eq, Bool.or_false, Bool.or_true, Bool.true_or, Bool.false_or, Bool.and_true, Bool.true_and, Bool.and_false, Bool.false_and, Bool.and_self, Bool.or_self, nr, nm]
  rfl
/-! a bad row -/
theorem mk_at {w : PyData} {m : Nat} (h : w = .tuple [.int 1, .int 1] ∨ w = .none) : Tw m_need_marks [w, .int (m : Nat)] 0 (.int (m : Nat)) := by
  rcases h with rfl | rfl <;> (unfold Tw; kernel_rfl)
theorem mk0 (m : Nat) : Gv m_need_marks [.tuple [.int 0], .int (m : Nat)] (.tuple [.int 0]) := marks_ok (l := [0]) true (.int (m : Nat)) (by simp) (by simp)
section
variable {rs : List Rw} {v : PyData} {m : Nat} {x4 x5 x6 x7 x8 : Option R}
theorem nk1_no {d : PyData} (h : Gv m_is_pair [d] (.bool false)) : nkB (rhoN v (some (nR m)) (some (.dat d)) x4 x5 x6 x7 x8) (celR rs) = .exc 0 (some (.int (m : Nat))) (rhoN v (some (nR m)) (some (.dat d)) x4 x5 x6 x7 x8) (celR rs) := by
  have p := one_call h (celR rs)
  refine cons_exc ?_
  unfold nk1
  unfold nR at *
  simp only [Pev.fnB, Pev.OutS.toF, Pev.sCons, Pev.sSet, Pev.sRet, Pev.sRetN, Pev.sIf, Pev.sSkip, Pev.sExpr, Pev.sTgt, Pev.sFor, Pev.sRaise, Pev.sPut, Pev.sAugS, Pev.sPar2, Pev.sPar3, Pev.OutS.fade, Pev.OutS.calm, Pev.Out.toS, Pev.Out.bind, Pev.noX, Pev.eVar, Pev.eC, Pev.eBin, Pev.eUn, Pev.eArgs, Pev.aCons, Pev.aNil, Pev.needN, Pev.eAnd, Pev.eOr, Pev.eNot, Pev.eIf, Pev.mAnd, Pev.mOr, Pev.mNot, Pev.mB, Pev.mT, Pev.eChain, Pev.truth, Pev.ofT, Pev.ofB, Pev.R.d?, Pev.eLc, Pev.iOf, Pev.iArgs, Pev.gN, Pev.gTp, Pev.gsCons, Pev.gsNil, Pev.tv, Pev.eBMl, Pev.eFld, Pev.tYes', Pev.wipeR, Pev.permL, List.map_cons, List.map_nil, List.length_cons, List.length_nil, List.cons_append, List.nil_append, List.append_nil, List.replicate, List.getElem?_cons_zero, List.getElem?_cons_succ, List.getElem?_nil, List.set_cons_zero, List.set_cons_succ, List.set_nil, List.filterMap_cons, List.filterMap_nil, Option.map_some, Option.map_none, Option.bind_some, Option.bind_none, if_true, if_false, Bool.not_true, Bool.not_false, Nat.reduceSub, Nat.reduceAdd, Nat.reduceEqDiff, Nat.reduceLeDiff, reduceIte, ite_true, ite_false, Bool.true_eq_false, Bool.false_eq_true, ↓reduceIte, Nat.zero_add, Nat.add_zero, Nat.sub_zero, id_eq, Bool.or_false, Bool.or_true, Bool.true_or, Bool.false_or, Bool.and_true, Bool.true_and, Bool.and_false, Bool.false_and, Bool.and_self, Bool.or_self, p]
theorem bad_no {d : PyData} {r0 : Rw} (hG : GR rs) (hr : r0 ∈ rs) (h : d ∈ bdL r0) : ∃ ρ', nkB (rhoN v (some (nR m)) (some (.dat d)) x4 x5 none none none) (celR rs) = .exc 0 (some (.int (m : Nat))) ρ' (celR rs) := by
  rcases bd_cases h with rfl | rfl | rfl | rfl | rfl | rfl | rfl
  · exact ⟨_, nk1_no rfl⟩
  · exact ⟨_, nk1_no rfl⟩
  · have e1 := nk1_ok (v := v) (rs := rs) (r := ⟨true, [0], [1]⟩) (b := true) (x2 := some (nR m)) (x4 := x4) (x5 := x5) (x6 := none) (x7 := none) (x8 := none)
    have e2 := nk2_ok (v := v) (rs := rs) (r := ⟨true, [0], [1]⟩) (b := true) (i := m) (x4 := x4) (x5 := x5) (x6 := none) (x7 := none) (x8 := none) (by simp) (by simp) (by simp) (by simp)
    have a : nkA (rhoN v (some (nR m)) (some (.dat (rD true ⟨true, [0], [1]⟩))) (some (.dat (TU (os (srt [0]))))) (some (.dat (TU (os (srt [1]))))) none none none) (celR rs) = .ok (.dat (.bool false)) (celR rs) := by kernel_rfl
    have e3 : nk3 (rhoN v (some (nR m)) (some (.dat (rD true ⟨true, [0], [1]⟩))) (some (.dat (TU (os (srt [0]))))) (some (.dat (TU (os (srt [1]))))) none none none) (celR rs) = .exc 0 (some (.int (m : Nat))) (rhoN v (some (nR m)) (some (.dat (rD true ⟨true, [0], [1]⟩))) (some (.dat (TU (os (srt [0]))))) (some (.dat (TU (os (srt [1]))))) none none none) (celR rs) := by
      have t : nk3t (rhoN v (some (nR m)) (some (.dat (rD true ⟨true, [0], [1]⟩))) (some (.dat (TU (os (srt [0]))))) (some (.dat (TU (os (srt [1]))))) none none none) (celR rs) = .ok true (celR rs) := by
        unfold nk3t
        generalize nkA = m1 at a
        simp only [Pev.fnB, Pev.OutS.toF, Pev.sCons, Pev.sSet, Pev.sRet, Pev.sRetN, Pev.sIf, Pev.sSkip, Pev.sExpr, Pev.sTgt, Pev.sFor, Pev.sRaise, Pev.sPut, Pev.sAugS, Pev.sPar2, Pev.sPar3, Pev.OutS.fade, Pev.OutS.calm, Pev.Out.toS, Pev.Out.bind, Pev.noX, Pev.eVar, Pev.eC, Pev.eBin, Pev.eUn, Pev.eArgs, Pev.aCons, Pev.aNil, Pev.needN, Pev.eAnd, Pev.eOr, Pev.eNot, Pev.eIf, Pev.mAnd, Pev.mOr, Pev.mNot, Pev.mB, Pev.mT, Pev.eChain, Pev.truth, Pev.ofT, Pev.ofB, Pev.R.d?, Pev.eLc, Pev.iOf, Pev.iArgs, Pev.gN, Pev.gTp, Pev.gsCons, Pev.gsNil, Pev.tv, Pev.eBMl, Pev.eFld, Pev.tYes', Pev.wipeR, Pev.permL, List.map_cons, List.map_nil, List.length_cons, List.length_nil, List.cons_append, List.nil_append, List.append_nil, List.replicate, List.getElem?_cons_zero, List.getElem?_cons_succ, List.getElem?_nil, List.set_cons_zero, List.set_cons_succ, List.set_nil, List.filterMap_cons, List.filterMap_nil, Option.map_some, Option.map_none, Option.bind_some, Option.bind_none, if_true, if_false, Bool.not_true, Bool.not_false, Nat.reduceSub, Nat.reduceAdd, Nat.reduceEqDiff, Nat.reduceLeDiff, reduceIte, ite_true, ite_false, Bool.true_eq_false, Bool.false_eq_true, ↓reduceIte, Nat.zero_add, Nat.add_zero, Nat.sub_zero, id_eq, Bool.or_false, Bool.or_true, Bool.true_or, Bool.false_or, Bool.and_true, Bool.true_and, Bool.and_false, Bool.false_and, Bool.and_self, Bool.or_self, a]
      exact (sif_t t).trans rfl
    exact ⟨_, (cons_nx e1).trans ((cons_nx e2).trans (cons_exc e3))⟩
  · have ip : Gv m_is_pair [.tuple [.tuple [.int 1, .int 1], .tuple []]] (.bool true) := rfl
    have ip := one_call ip (celR rs)
    have e1 : nk1 (rhoN v (some (nR m)) (some (.dat (.tuple [.tuple [.int 1, .int 1], .tuple []]))) x4 x5 none none none) (celR rs) = .nx (rhoN v (some (nR m)) (some (.dat (.tuple [.tuple [.int 1, .int 1], .tuple []]))) x4 x5 none none none) (celR rs) := by
      unfold nk1
      simp only [Pev.fnB, Pev.OutS.toF, Pev.sCons, Pev.sSet, Pev.sRet, Pev.sRetN, Pev.sIf, Pev.sSkip, Pev.sExpr, Pev.sTgt, Pev.sFor, Pev.sRaise, Pev.sPut, Pev.sAugS, Pev.sPar2, Pev.sPar3, Pev.OutS.fade, Pev.OutS.calm, Pev.Out.toS, Pev.Out.bind, Pev.noX, Pev.eVar, Pev.eC, Pev.eBin, Pev.eUn, Pev.eArgs, Pev.aCons, Pev.aNil, Pev.needN, Pev.eAnd, Pev.eOr, Pev.eNot, Pev.eIf, Pev.mAnd, Pev.mOr, Pev.mNot, Pev.mB, Pev.mT, Pev.eChain, Pev.truth, Pev.ofT, Pev.ofB, Pev.R.d?, Pev.eLc, Pev.iOf, Pev.iArgs, Pev.gN, Pev.gTp, Pev.gsCons, Pev.gsNil, Pev.tv, Pev.eBMl, Pev.eFld, Pev.tYes', Pev.wipeR, Pev.permL, List.map_cons, List.map_nil, List.length_cons, List.length_nil, List.cons_append, List.nil_append, List.append_nil, List.replicate, List.getElem?_cons_zero, List.getElem?_cons_succ, List.getElem?_nil, List.set_cons_zero, List.set_cons_succ, List.set_nil, List.filterMap_cons, List.filterMap_nil, Option.map_some, Option.map_none, Option.bind_some, Option.bind_none, if_true, if_false, Bool.not_true, Bool.not_false, Nat.reduceSub, Nat.reduceAdd, Nat.reduceEqDiff, Nat.reduceLeDiff, reduceIte, ite_true, ite_false, Bool.true_eq_false, Bool.false_eq_true, ↓reduceIte, Nat.zero_add, Nat.add_zero, Nat.sub_zero, id_eq, Bool.or_false, Bool.or_true, Bool.true_or, Bool.false_or, Bool.and_true, Bool.true_and, Bool.and_false, Bool.false_and, Bool.and_self, Bool.or_self, ip]
    have i0 : bIx (.dat (.tuple [.tuple [.int 1, .int 1], .tuple []])) (.dat (.int 0)) (celR rs) = .ok (.dat (.tuple [.int 1, .int 1])) (celR rs) := rfl
    have t := two_throw (mk_at (m := m) (.inl rfl)) (celR rs)
    have e2 : nk2 (rhoN v (some (nR m)) (some (.dat (.tuple [.tuple [.int 1, .int 1], .tuple []]))) x4 x5 none none none) (celR rs) = .exc 0 (some (.int (m : Nat))) (rhoN v (some (nR m)) (some (.dat (.tuple [.tuple [.int 1, .int 1], .tuple []]))) x4 x5 none none none) (celR rs) := by
      unfold nk2
      unfold nR at *
      simp only [Pev.fnB, Pev.OutS.toF, Pev.sCons, Pev.sSet, Pev.sRet, Pev.sRetN, Pev.sIf, Pev.sSkip, Pev.sExpr, Pev.sTgt, Pev.sFor, Pev.sRaise, Pev.sPut, Pev.sAugS, Pev.sPar2, Pev.sPar3, Pev.OutS.fade, Pev.OutS.calm, Pev.Out.toS, Pev.Out.bind, Pev.noX, Pev.eVar, Pev.eC, Pev.eBin, Pev.eUn, Pev.eArgs, Pev.aCons, Pev.aNil, Pev.needN, Pev.eAnd, Pev.eOr, Pev.eNot, Pev.eIf, Pev.mAnd, Pev.mOr, Pev.mNot, Pev.mB, Pev.mT, Pev.eChain, Pev.truth, Pev.ofT, Pev.ofB, Pev.R.d?, Pev.eLc, Pev.iOf, Pev.iArgs, Pev.gN, Pev.gTp, Pev.gsCons, Pev.gsNil, Pev.tv, Pev.eBMl, Pev.eFld, Pev.tYes', Pev.wipeR, Pev.permL, List.map_cons, List.map_nil, List.length_cons, List.length_nil, List.cons_append, List.nil_append, List.append_nil, List.replicate, List.getElem?_cons_zero, List.getElem?_cons_succ, List.getElem?_nil, List.set_cons_zero, List.set_cons_succ, List.set_nil, List.filterMap_cons, List.filterMap_nil, Option.map_some, Option.map_none, Option.bind_some, Option.bind_none, if_true, if_false, Bool.not_true, Bool.not_false, Nat.reduceSub, Nat.reduceAdd, Nat.reduceEqDiff, Nat.reduceLeDiff, reduceIte, ite_true, ite_false, Bool.true_eq_false, Bool.false_eq_true, ↓reduceIte, Nat.zero_add, Nat.add_zero, Nat.sub_zero, id_eq, Bool.or_false, Bool.or_true, Bool.true_or, Bool.false_or, Bool.and_true, Bool.true_and, Bool.and_false, Bool.false_and, Bool.and_self, Bool.or_self, i0, t]
    exact ⟨_, (cons_nx e1).trans (cons_exc e2)⟩
  · obtain ⟨h1, h2, h3, h4, h5⟩ := hG.nl r0 hr
    have e1 := nk1_ok (v := v) (rs := rs) (r := r0) (b := true) (x2 := some (nR m)) (x4 := x4) (x5 := x5) (x6 := none) (x7 := none) (x8 := none)
    have e2 := nk2_ok (v := v) (rs := rs) (r := r0) (b := true) (i := m) (x4 := x4) (x5 := x5) (x6 := none) (x7 := none) (x8 := none) h1 h2 h4 h5
    have t3 := nk3t_ok (v := v) (rs := rs) (r := r0) (x2 := some (nR m)) (x3 := some (.dat (rD true r0))) (x6 := none) (x7 := none) (x8 := none) h3 h5 hG.few
    have f : (rs.any fun q => decide (os (srt q.lot) = os (srt r0.lot))) = true := List.any_eq_true.mpr ⟨r0, hr, decide_eq_true rfl⟩
    rw [f] at t3
    have e3 : nk3 (rhoN v (some (nR m)) (some (.dat (rD true r0))) (some (.dat (TU (os (srt r0.lot))))) (some (.dat (TU (os (srt r0.kp))))) none none none) (celR rs) = .exc 0 (some (.int (m : Nat))) (rhoN v (some (nR m)) (some (.dat (rD true r0))) (some (.dat (TU (os (srt r0.lot))))) (some (.dat (TU (os (srt r0.kp))))) none none none) (celR rs) := (sif_t t3).trans rfl
    exact ⟨_, (cons_nx e1).trans ((cons_nx e2).trans (cons_exc e3))⟩
  · have ip : Gv m_is_pair [.tuple [.tuple [.int 0], .none]] (.bool true) := rfl
    have ip := one_call ip (celR rs)
    have e1 : nk1 (rhoN v (some (nR m)) (some (.dat (.tuple [.tuple [.int 0], .none]))) x4 x5 none none none) (celR rs) = .nx (rhoN v (some (nR m)) (some (.dat (.tuple [.tuple [.int 0], .none]))) x4 x5 none none none) (celR rs) := by
      unfold nk1
      simp only [Pev.fnB, Pev.OutS.toF, Pev.sCons, Pev.sSet, Pev.sRet, Pev.sRetN, Pev.sIf, Pev.sSkip, Pev.sExpr, Pev.sTgt, Pev.sFor, Pev.sRaise, Pev.sPut, Pev.sAugS, Pev.sPar2, Pev.sPar3, Pev.OutS.fade, Pev.OutS.calm, Pev.Out.toS, Pev.Out.bind, Pev.noX, Pev.eVar, Pev.eC, Pev.eBin, Pev.eUn, Pev.eArgs, Pev.aCons, Pev.aNil, Pev.needN, Pev.eAnd, Pev.eOr, Pev.eNot, Pev.eIf, Pev.mAnd, Pev.mOr, Pev.mNot, Pev.mB, Pev.mT, Pev.eChain, Pev.truth, Pev.ofT, Pev.ofB, Pev.R.d?, Pev.eLc, Pev.iOf, Pev.iArgs, Pev.gN, Pev.gTp, Pev.gsCons, Pev.gsNil, Pev.tv, Pev.eBMl, Pev.eFld, Pev.tYes', Pev.wipeR, Pev.permL, List.map_cons, List.map_nil, List.length_cons, List.length_nil, List.cons_append, List.nil_append, List.append_nil, List.replicate, List.getElem?_cons_zero, List.getElem?_cons_succ, List.getElem?_nil, List.set_cons_zero, List.set_cons_succ, List.set_nil, List.filterMap_cons, List.filterMap_nil, Option.map_some, Option.map_none, Option.bind_some, Option.bind_none, if_true, if_false, Bool.not_true, Bool.not_false, Nat.reduceSub, Nat.reduceAdd, Nat.reduceEqDiff, Nat.reduceLeDiff, reduceIte, ite_true, ite_false, Bool.true_eq_false, Bool.false_eq_true, ↓reduceIte, Nat.zero_add, Nat.add_zero, Nat.sub_zero, id_eq, Bool.or_false, Bool.or_true, Bool.true_or, Bool.false_or, Bool.and_true, Bool.true_and, Bool.and_false, Bool.false_and, Bool.and_self, Bool.or_self, ip]
    have i0 : bIx (.dat (.tuple [.tuple [.int 0], .none])) (.dat (.int 0)) (celR rs) = .ok (.dat (.tuple [.int 0])) (celR rs) := rfl
    have i1 : bIx (.dat (.tuple [.tuple [.int 0], .none])) (.dat (.int 1)) (celR rs) = .ok (.dat .none) (celR rs) := rfl
    have c := two_call (mk0 m) (celR rs)
    have t := two_throw (mk_at (m := m) (.inr rfl)) (celR rs)
    have e2 : nk2 (rhoN v (some (nR m)) (some (.dat (.tuple [.tuple [.int 0], .none]))) x4 x5 none none none) (celR rs) = .exc 0 (some (.int (m : Nat))) (rhoN v (some (nR m)) (some (.dat (.tuple [.tuple [.int 0], .none]))) x4 x5 none none none) (celR rs) := by
      unfold nk2
      unfold nR at *
      simp only [Pev.fnB, Pev.OutS.toF, Pev.sCons, Pev.sSet, Pev.sRet, Pev.sRetN, Pev.sIf, Pev.sSkip, Pev.sExpr, Pev.sTgt, Pev.sFor, Pev.sRaise, Pev.sPut, Pev.sAugS, Pev.sPar2, Pev.sPar3, Pev.OutS.fade, Pev.OutS.calm, Pev.Out.toS, Pev.Out.bind, Pev.noX, Pev.eVar, Pev.eC, Pev.eBin, Pev.eUn, Pev.eArgs, Pev.aCons, Pev.aNil, Pev.needN, Pev.eAnd, Pev.eOr, Pev.eNot, Pev.eIf, Pev.mAnd, Pev.mOr, Pev.mNot, Pev.mB, Pev.mT, Pev.eChain, Pev.truth, Pev.ofT, Pev.ofB, Pev.R.d?, Pev.eLc, Pev.iOf, Pev.iArgs, Pev.gN, Pev.gTp, Pev.gsCons, Pev.gsNil, Pev.tv, Pev.eBMl, Pev.eFld, Pev.tYes', Pev.wipeR, Pev.permL, List.map_cons, List.map_nil, List.length_cons, List.length_nil, List.cons_append, List.nil_append, List.append_nil, List.replicate, List.getElem?_cons_zero, List.getElem?_cons_succ, List.getElem?_nil, List.set_cons_zero, List.set_cons_succ, List.set_nil, List.filterMap_cons, List.filterMap_nil, Option.map_some, Option.map_none, Option.bind_some, Option.bind_none, if_true, if_false, Bool.not_true, Bool.not_false, Nat.reduceSub, Nat.reduceAdd, Nat.reduceEqDiff, Nat.reduceLeDiff, reduceIte, ite_true, ite_false, Bool.true_eq_false, Bool.false_eq_true, ↓reduceIte, Nat.zero_add, Nat.add_zero, Nat.sub_zero, id_eq, Bool.or_false, Bool.or_true, Bool.true_or, Bool.false_or, Bool.and_true, Bool.true_and, Bool.and_false, Bool.false_and, Bool.and_self, Bool.or_self, i0, c, i1, t]
    exact ⟨_, (cons_nx e1).trans (cons_exc e2)⟩
  · exact ⟨_, nk1_no rfl⟩
end
theorem pairs_app : ∀ (xs ys : List PyData) (k : Nat), pairsF k (xs ++ ys) = pairsF k xs ++ pairsF (k + xs.length) ys
  | [], ys, k => rfl
  | x :: xs, ys, k => by
    show .tuple [.int (k : Nat), x] :: pairsF (k + 1) (xs ++ ys) = _
    rw [pairs_app xs ys (k + 1), List.length_cons, show k + (xs.length + 1) = k + 1 + xs.length by omega]
    rfl
theorem rows_no {rs : List Rw} {r0 : Rw} {d : PyData} (hG : GR rs) (hr : r0 ∈ rs) (h : d ∈ bdL r0) : Tw m_need_kept_rows [.list (rs.map (rD true) ++ [d, .none])] 0 (.int (rs.length : Nat)) := by
  have is : Gv m_is_sequence [.list (rs.map (rD true) ++ [d, .none])] (.bool true) := rfl
  have is := one_call is []
  have e0 : nk0 [some (.dat (.list (rs.map (rD true) ++ [d, .none]))), none, none, none, none, none, none, none, none] [] = .nx [some (.dat (.list (rs.map (rD true) ++ [d, .none]))), none, none, none, none, none, none, none, none] [] := by
    unfold nk0
    simp only [Pev.fnB, Pev.OutS.toF, Pev.sCons, Pev.sSet, Pev.sRet, Pev.sRetN, Pev.sIf, Pev.sSkip, Pev.sExpr, Pev.sTgt, Pev.sFor, Pev.sRaise, Pev.sPut, Pev.sAugS, Pev.sPar2, Pev.sPar3, Pev.OutS.fade, Pev.OutS.calm, Pev.Out.toS, Pev.Out.bind, Pev.noX, Pev.eVar, Pev.eC, Pev.eBin, Pev.eUn, Pev.eArgs, Pev.aCons, Pev.aNil, Pev.needN, Pev.eAnd, Pev.eOr, Pev.eNot, Pev.eIf, Pev.mAnd, Pev.mOr, Pev.mNot, Pev.mB, Pev.mT, Pev.eChain, Pev.truth, Pev.ofT, Pev.ofB, Pev.R.d?, Pev.eLc, Pev.iOf, Pev.iArgs, Pev.gN, Pev.gTp, Pev.gsCons, Pev.gsNil, Pev.tv, Pev.eBMl, Pev.eFld, Pev.tYes', Pev.wipeR, Pev.permL, List.map_cons, List.map_nil, List.length_cons, List.length_nil, List.cons_append, List.nil_append, List.append_nil, List.replicate, List.getElem?_cons_zero, List.getElem?_cons_succ, List.getElem?_nil, List.set_cons_zero, List.set_cons_succ, List.set_nil, List.filterMap_cons, List.filterMap_nil, Option.map_some, Option.map_none, Option.bind_some, Option.bind_none, if_true, if_false, Bool.not_true, Bool.not_false, Nat.reduceSub, Nat.reduceAdd, Nat.reduceEqDiff, Nat.reduceLeDiff, reduceIte, ite_true, ite_false, Bool.true_eq_false, Bool.false_eq_true, ↓reduceIte, Nat.zero_add, Nat.add_zero, Nat.sub_zero, id_eq, Bool.or_false, Bool.or_true, Bool.true_or, Bool.false_or, Bool.and_true, Bool.true_and, Bool.and_false, Bool.false_and, Bool.and_self, Bool.or_self, is]
  have e1 : sSet 1 (eArgs (gLst true) aNil) [some (.dat (.list (rs.map (rD true) ++ [d, .none]))), none, none, none, none, none, none, none, none] [] = .nx (rhoN (.list (rs.map (rD true) ++ [d, .none])) none none none none none none none) (celR []) := rfl
  obtain ⟨x2, x3, x4, x5, e⟩ := rows_go hG true (.list (rs.map (rD true) ++ [d, .none])) ((pairsF rs.length [d, .none]).map R.dat)
  obtain ⟨ρ', ex⟩ := bad_no (v := .list (rs.map (rD true) ++ [d, .none])) (m := rs.length) (x4 := x4) (x5 := x5) hG hr h
  have e2 : sFor (iArgs gEnumU (aCons (eVar 0) aNil)) nkT nkB (rhoN (.list (rs.map (rD true) ++ [d, .none])) none none none none none none none) (celR []) = .exc 0 (some (.int (rs.length : Nat))) ρ' (celR rs) := by
    unfold sFor
    rw [show iArgs gEnumU (aCons (eVar 0) aNil) (rhoN (.list (rs.map (rD true) ++ [d, .none])) none none none none none none none) (celR []) = .ok (⟨(pairsF 0 (rs.map (rD true) ++ [d, .none])).map R.dat, []⟩ : Items) (celR []) from rfl, pairs_app, List.map_append, List.length_map, Nat.zero_add]
    show forLoop [] nkT nkB _ _ _ = _
    rw [e]
    show forLoop [] nkT nkB (.dat (.tuple [.int (rs.length : Nat), d]) :: _) _ _ = _
    unfold forLoop
    rw [if_pos stands_nil]
    show (match nkB (rhoN (.list (rs.map (rD true) ++ [d, .none])) (some (nR rs.length)) (some (.dat d)) x4 x5 none none none) (celR rs) with
      | .nx ρ2 S2 => _
      | .ct ρ2 S2 => _
      | .bk ρ2 S2 => _
      | o => o) = _
    rw [ex]
  show outX (OutS.toF (b_need_kept_rows [some (.dat (.list (rs.map (rD true) ++ [d, .none]))), none, none, none, none, none, none, none, none] [])) = _
  rw [nk_eq, cons_nx e0, cons_nx e1, cons_exc e2]
  rfl
theorem f5 {rs : List Rw} {r0 : Rw} {d : PyData} (hG : GR rs) (hr : r0 ∈ rs) (h : d ∈ bdL r0) : Tw m_keeping_paper [.list (rs.map (rD true) ++ [d, .none]), .none] 0 (.int (rs.length : Nat)) := by
  have t := one_throw (rows_no hG hr h) []
  unfold Tw m_keeping_paper b_keeping_paper
  simp only [Pev.fnB, Pev.OutS.toF, Pev.sCons, Pev.sSet, Pev.sRet, Pev.sRetN, Pev.sIf, Pev.sSkip, Pev.sExpr, Pev.sTgt, Pev.sFor, Pev.sRaise, Pev.sPut, Pev.sAugS, Pev.sPar2, Pev.sPar3, Pev.OutS.fade, Pev.OutS.calm, Pev.Out.toS, Pev.Out.bind, Pev.noX, Pev.eVar, Pev.eC, Pev.eBin, Pev.eUn, Pev.eArgs, Pev.aCons, Pev.aNil, Pev.needN, Pev.eAnd, Pev.eOr, Pev.eNot, Pev.eIf, Pev.mAnd, Pev.mOr, Pev.mNot, Pev.mB, Pev.mT, Pev.eChain, Pev.truth, Pev.ofT, Pev.ofB, Pev.R.d?, Pev.eLc, Pev.iOf, Pev.iArgs, Pev.gN, Pev.gTp, Pev.gsCons, Pev.gsNil, Pev.tv, Pev.eBMl, Pev.eFld, Pev.tYes', Pev.wipeR, Pev.permL, List.map_cons, List.map_nil, List.length_cons, List.length_nil, List.cons_append, List.nil_append, List.append_nil, List.replicate, List.getElem?_cons_zero, List.getElem?_cons_succ, List.getElem?_nil, List.set_cons_zero, List.set_cons_succ, List.set_nil, List.filterMap_cons, List.filterMap_nil, Option.map_some, Option.map_none, Option.bind_some, Option.bind_none, if_true, if_false, Bool.not_true, Bool.not_false, Nat.reduceSub, Nat.reduceAdd, Nat.reduceEqDiff, Nat.reduceLeDiff, reduceIte, ite_true, ite_false, Bool.true_eq_false, Bool.false_eq_true, ↓reduceIte, Nat.zero_add, Nat.add_zero, Nat.sub_zero, id_eq, Bool.or_false, Bool.or_true, Bool.true_or, Bool.false_or, Bool.and_true, Bool.true_and, Bool.and_false, Bool.false_and, Bool.and_self, Bool.or_self, t]
  rfl
/-! the greatest -/
theorem best_max (f : Nat → Int) (bt : Nat → Nat → Bool) (N : Nat) (hb : ∀ i j, i ≤ N → j ≤ N → bt i j = decide (f j < f i)) : ∀ n m, n ≤ N → m ≤ n → f m ≤ f (argBest bt n)
  | 0, m, _, h => by
    have : m = 0 := by omega
    subst this
    unfold argBest
    exact Int.le_refl _
  | n + 1, m, hN, h => by
    have ih := fun m => best_max f bt N hb n m (by omega)
    have al := argBest_le bt n
    unfold argBest
    rw [hb _ _ hN (by omega)]
    by_cases q : f (argBest bt n) < f (n + 1)
    · rw [decide_eq_true q, if_pos rfl]
      rcases Nat.lt_or_ge m (n + 1) with z | z
      · have := ih m (by omega); omega
      · rw [show m = n + 1 by omega]; exact Int.le_refl _
    · rw [decide_eq_false q, if_neg (by simp)]
      rcases Nat.lt_or_ge m (n + 1) with z | z
      · exact ih m (by omega)
      · rw [show m = n + 1 by omega]; omega
theorem max_ok {order : List Nat} (h : 0 < order.length) (S : Sto) : ∃ m : Nat, (∀ x ∈ order, x ≤ m) ∧ gBest bestMax [.dat (LI (os order))] S = .ok (nR m) S := by
  have lm : (order.map fun n : Nat => PyData.int (n : Nat)).length = order.length := List.length_map _
  have ge : ∀ j, j < order.length → (order.map fun n : Nat => PyData.int (n : Nat)).getD j .none = .int ((order.getD j 0 : Nat) : Int) := fun j hj => by
    rw [List.getD_eq_getElem?_getD, List.getD_eq_getElem?_getD, List.getElem?_map, List.getElem?_eq_getElem hj]
    rfl
  have al := argBest_le (fun i j => PySem.W.dataLt ((order.map fun n : Nat => PyData.int (n : Nat)).getD j .none) ((order.map fun n : Nat => PyData.int (n : Nat)).getD i .none)) (order.length - 1)
  have bm := best_max (fun i => ((order.getD i 0 : Nat) : Int)) (fun i j => PySem.W.dataLt ((order.map fun n : Nat => PyData.int (n : Nat)).getD j .none) ((order.map fun n : Nat => PyData.int (n : Nat)).getD i .none)) (order.length - 1) (fun i j hi hj => by
    rw [ge i (by omega), ge j (by omega)]
    exact PySem.W.dataLt_int _ _) (order.length - 1)
  have eb : bestMax (order.map fun n : Nat => PyData.int (n : Nat)) = argBest (fun i j => PySem.W.dataLt ((order.map fun n : Nat => PyData.int (n : Nat)).getD j .none) ((order.map fun n : Nat => PyData.int (n : Nat)).getD i .none)) (order.length - 1) := by
    unfold bestMax
    rw [lm]
  generalize argBest (fun i j => PySem.W.dataLt ((order.map fun n : Nat => PyData.int (n : Nat)).getD j .none) ((order.map fun n : Nat => PyData.int (n : Nat)).getD i .none)) (order.length - 1) = B at al bm eb
  refine ⟨order.getD B 0, fun x hx => ?_, ?_⟩
  · obtain ⟨i, hi⟩ := List.mem_iff_getElem?.mp hx
    have li := (List.getElem?_eq_some_iff.mp hi).1
    have := bm i (Nat.le_refl _) (by omega)
    rw [show order.getD i 0 = x by rw [List.getD_eq_getElem?_getD, hi]; rfl] at this
    omega
  · have so : sortOk (order.map fun n : Nat => PyData.int (n : Nat)) = true := by
      unfold sortOk
      rw [Bool.and_eq_true, Bool.and_eq_true, Bool.or_eq_true]
      refine ⟨⟨List.all_eq_true.mpr fun d hd => List.all_eq_true.mpr fun e he => ?_, .inr (List.all_eq_true.mpr fun d hd => ?_)⟩, List.all_eq_true.mpr fun d hd => ?_⟩
      · obtain ⟨a, _, rfl⟩ := List.mem_map.mp hd
        obtain ⟨b, _, rfl⟩ := List.mem_map.mp he
        rfl
      · obtain ⟨a, _, rfl⟩ := List.mem_map.mp hd
        rfl
      · obtain ⟨a, _, rfl⟩ := List.mem_map.mp hd
        exact decide_eq_true (Nat.zero_le _)
    have sn : (order.map fun n : Nat => R.dat (.int (n : Nat))).mapM (snap S 4) = some (order.map fun n : Nat => PyData.int (n : Nat)) := snaps_map (fun n : Nat => PyData.int (n : Nat)) order
    have e0 : ((os order).map mo).map R.dat = order.map fun n : Nat => R.dat (.int (n : Nat)) := by rw [os_map, List.map_map]; rfl
    have e1 : (order.map fun n : Nat => R.dat (.int (n : Nat)))[B]? = some (nR (order.getD B 0)) := by
      rw [List.getElem?_map, List.getElem?_eq_getElem (show B < order.length by omega), List.getD_eq_getElem?_getD, List.getElem?_eq_getElem (show B < order.length by omega)]
      rfl
    show (match (some (((os order).map mo).map R.dat)) with
      | some rs => (match rs.mapM (snap S 4) with
        | some ds => if sortOk ds && decide (0 < ds.length) then (match rs[bestMax ds]? with
          | some r => Out.ok r S
          | none => .stuck) else .stuck
        | none => .stuck)
      | none => .stuck) = _
    rw [e0]
    dsimp only
    rw [sn]
    dsimp only
    rw [so, lm, decide_eq_true h, eb, e1]
    rfl
/-! the works -/
theorem t0h {mbs : List EM} {ρ : Rho} {i c : Nat} {f : PyData} {mb : EM} {S S' : Sto} (h1 : mbs[i]? = some mb) (h2 : mb ρ S = .exc c (some f) S') : hlOf mbs ρ i S = .exc c (some f) S' := by
  unfold hlOf
  rw [h1]
  dsimp only
  rw [h2]
  rfl
def wkL (m : Nat) : List R := [.lam 0 (some (.tuple [.str "lot", .int 0])), .lam 1 (some (.tuple [.str "lot", .int 1])), .lam 2 (some (.tuple [.str "lot", .int 1])), .lam 3 (some (.tuple [.str "size", .str "near"])), .lam 4 (some (.tuple [.str "lot", .int (-1)])), .lam 5 (some (.tuple [.str "lot", .int (m : Nat)])), .lam 6 (some (.tuple [.str "size", .str "near"]))]
theorem wkL_same (m : Nat) : sameRs (wkL m) (wkL m) = true := by
  unfold wkL
  simp only [sameRs, sameR, same, sameAll, decide_true, Bool.and_self]
theorem lot_fit {f : PyData} (h : Fit 0 f) (w : Str) (hw : w = "lot" ∨ w = "size") : Fit 1 (.tuple [.str w, f]) := fit_tup fun d hd => by
  simp only [List.mem_cons, List.not_mem_nil, or_false] at hd
  rcases hd with rfl | rfl
  · rcases hw with rfl | rfl <;> exact ⟨by kernel_rfl, Nat.zero_le _⟩
  · exact h
theorem near_fit : Fit 0 (.str "near") := ⟨by kernel_rfl, Nat.zero_le _⟩
abbrev rhoR (k kr : Nat) (order : List Nat) (w ne bd : PyData) (x6 x7 x8 : Option R) : Rho := [some (.obj k), some (.dat (LI (os order))), some (.obj kr), some (.dat w), some (.dat ne), some (.dat bd), x6, x7, x8]
abbrev rowsC (rs : List Rw) : Cell := .lst (rs.map fun r => R.dat (rD true r))
theorem add_rows {rs : List Rw} {ds : List PyData} {S : Sto} {j : Nat} (h : rs.length + ds.length ≤ 1000) (hS : S[j]? = some (rowsC rs)) : bAdd false (.obj j) (.dat (.list ds)) S = .ok (.dat (.list (rs.map (rD true) ++ ds))) S := by
  have sz := sz_of (show rs.length + ds.length ≤ 10000 by omega)
  unfold bAdd
  dsimp only [lvt, lv]
  rw [hS]
  dsimp only
  rw [List.length_map, List.length_map, if_pos (of_eq_true sz)]
  have e : (rs.map fun r => R.dat (rD true r)) ++ ds.map R.dat = (rs.map (rD true) ++ ds).map R.dat := by rw [List.map_append, map_dat]
  rw [e]
  have := newL_f id (rs.map (rD true) ++ ds) S
  rw [List.map_id] at this
  exact this
theorem lm_no {k kr W : Nat} {order : List Nat} {w ne bd : PyData} {x6 : Option R} {rs : List Rw} {r0 : Rw} (no : order.Nodup) (lo : order.length ≤ 50) (l0 : 0 < order.length) (hG : GR rs) (hr : r0 ∈ rs) (hw : w ∈ wrL) (hn : ne ∈ neL) (hb : bd ∈ bdL r0) (hk : kr ≠ k) (hW : W ≠ k) : ∀ r ∈ wkL rs.length, ∀ S, (Tk k S ∧ S[W]? = some (.lst (wkL rs.length)) ∧ S[kr]? = some (rowsC rs)) → ∃ ρ1 S', gW2 7 8 r (rhoR k kr order w ne bd x6 none none) = some ρ1 ∧ wT (hlOf lb__law_errors_0 (rhoR k kr order w ne bd x6 none none)) ρ1 S = .ok false S' ∧ (Tk k S' ∧ S'[W]? = some (.lst (wkL rs.length)) ∧ S'[kr]? = some (rowsC rs)) := by
  intro r hr1 S hS
  have lf := hG.few
  unfold wkL at hr1
  simp only [List.mem_cons, List.not_mem_nil, or_false] at hr1
  rcases hr1 with rfl | rfl | rfl | rfl | rfl | rfl | rfl
  · have t := three_throw (f0 hw) S
    exact ⟨_, S, rfl, wt_ok (t0h rfl (by unfold rhoR; simp only [Pev.fnB, Pev.OutS.toF, Pev.sCons, Pev.sSet, Pev.sRet, Pev.sRetN, Pev.sIf, Pev.sSkip, Pev.sExpr, Pev.sTgt, Pev.sFor, Pev.sRaise, Pev.sPut, Pev.sAugS, Pev.sPar2, Pev.sPar3, Pev.OutS.fade, Pev.OutS.calm, Pev.Out.toS, Pev.Out.bind, Pev.noX, Pev.eVar, Pev.eC, Pev.eBin, Pev.eUn, Pev.eArgs, Pev.aCons, Pev.aNil, Pev.needN, Pev.eAnd, Pev.eOr, Pev.eNot, Pev.eIf, Pev.mAnd, Pev.mOr, Pev.mNot, Pev.mB, Pev.mT, Pev.eChain, Pev.truth, Pev.ofT, Pev.ofB, Pev.R.d?, Pev.eLc, Pev.iOf, Pev.iArgs, Pev.gN, Pev.gTp, Pev.gsCons, Pev.gsNil, Pev.tv, Pev.eBMl, Pev.eFld, Pev.tYes', Pev.wipeR, Pev.permL, List.map_cons, List.map_nil, List.length_cons, List.length_nil, List.cons_append, List.nil_append, List.append_nil, List.replicate, List.getElem?_cons_zero, List.getElem?_cons_succ, List.getElem?_nil, List.set_cons_zero, List.set_cons_succ, List.set_nil, List.filterMap_cons, List.filterMap_nil, Option.map_some, Option.map_none, Option.bind_some, Option.bind_none, if_true, if_false, Bool.not_true, Bool.not_false, Nat.reduceSub, Nat.reduceAdd, Nat.reduceEqDiff, Nat.reduceLeDiff, reduceIte, ite_true, ite_false, Bool.true_eq_false, Bool.false_eq_true, ↓reduceIte, Nat.zero_add, Nat.add_zero, Nat.sub_zero, id_eq, Bool.or_false, Bool.or_true, Bool.true_or, Bool.false_or, Bool.and_true, Bool.true_and, Bool.and_false, Bool.false_and, Bool.and_self, Bool.or_self, t])) (.inl ⟨rfl, rfl⟩) (beq_same (lot_fit (fit_int 0 _) _ (.inl rfl))) rfl rfl, hS⟩
  · have t := three_throw (f1 no lo hw) S
    exact ⟨_, S, rfl, wt_ok (t0h rfl (by unfold rhoR; simp only [Pev.fnB, Pev.OutS.toF, Pev.sCons, Pev.sSet, Pev.sRet, Pev.sRetN, Pev.sIf, Pev.sSkip, Pev.sExpr, Pev.sTgt, Pev.sFor, Pev.sRaise, Pev.sPut, Pev.sAugS, Pev.sPar2, Pev.sPar3, Pev.OutS.fade, Pev.OutS.calm, Pev.Out.toS, Pev.Out.bind, Pev.noX, Pev.eVar, Pev.eC, Pev.eBin, Pev.eUn, Pev.eArgs, Pev.aCons, Pev.aNil, Pev.needN, Pev.eAnd, Pev.eOr, Pev.eNot, Pev.eIf, Pev.mAnd, Pev.mOr, Pev.mNot, Pev.mB, Pev.mT, Pev.eChain, Pev.truth, Pev.ofT, Pev.ofB, Pev.R.d?, Pev.eLc, Pev.iOf, Pev.iArgs, Pev.gN, Pev.gTp, Pev.gsCons, Pev.gsNil, Pev.tv, Pev.eBMl, Pev.eFld, Pev.tYes', Pev.wipeR, Pev.permL, List.map_cons, List.map_nil, List.length_cons, List.length_nil, List.cons_append, List.nil_append, List.append_nil, List.replicate, List.getElem?_cons_zero, List.getElem?_cons_succ, List.getElem?_nil, List.set_cons_zero, List.set_cons_succ, List.set_nil, List.filterMap_cons, List.filterMap_nil, Option.map_some, Option.map_none, Option.bind_some, Option.bind_none, if_true, if_false, Bool.not_true, Bool.not_false, Nat.reduceSub, Nat.reduceAdd, Nat.reduceEqDiff, Nat.reduceLeDiff, reduceIte, ite_true, ite_false, Bool.true_eq_false, Bool.false_eq_true, ↓reduceIte, Nat.zero_add, Nat.add_zero, Nat.sub_zero, id_eq, Bool.or_false, Bool.or_true, Bool.true_or, Bool.false_or, Bool.and_true, Bool.true_and, Bool.and_false, Bool.false_and, Bool.and_self, Bool.or_self, t])) (.inl ⟨rfl, rfl⟩) (beq_same (lot_fit (fit_int 0 _) _ (.inl rfl))) rfl rfl, hS⟩
  · obtain ⟨m, m1, m2⟩ := max_ok l0 S
    have t := three_throw (f2 no lo (m := m + 1) fun z => by have := m1 _ z; omega) S
    have gl : gLst false [.dat (.int ((m + 1 : Nat) : Int))] S = .ok (.dat (.list [.int ((m + 1 : Nat) : Int)])) S := rfl
    exact ⟨_, S, rfl, wt_ok (t0h rfl (by unfold rhoR nR at *; simp only [Pev.fnB, Pev.OutS.toF, Pev.sCons, Pev.sSet, Pev.sRet, Pev.sRetN, Pev.sIf, Pev.sSkip, Pev.sExpr, Pev.sTgt, Pev.sFor, Pev.sRaise, Pev.sPut, Pev.sAugS, Pev.sPar2, Pev.sPar3, Pev.OutS.fade, Pev.OutS.calm, Pev.Out.toS, Pev.Out.bind, Pev.noX, Pev.eVar, Pev.eC, Pev.eBin, Pev.eUn, Pev.eArgs, Pev.aCons, Pev.aNil, Pev.needN, Pev.eAnd, Pev.eOr, Pev.eNot, Pev.eIf, Pev.mAnd, Pev.mOr, Pev.mNot, Pev.mB, Pev.mT, Pev.eChain, Pev.truth, Pev.ofT, Pev.ofB, Pev.R.d?, Pev.eLc, Pev.iOf, Pev.iArgs, Pev.gN, Pev.gTp, Pev.gsCons, Pev.gsNil, Pev.tv, Pev.eBMl, Pev.eFld, Pev.tYes', Pev.wipeR, Pev.permL, List.map_cons, List.map_nil, List.length_cons, List.length_nil, List.cons_append, List.nil_append, List.append_nil, List.replicate, List.getElem?_cons_zero, List.getElem?_cons_succ, List.getElem?_nil, List.set_cons_zero, List.set_cons_succ, List.set_nil, List.filterMap_cons, List.filterMap_nil, Option.map_some, Option.map_none, Option.bind_some, Option.bind_none, if_true, if_false, Bool.not_true, Bool.not_false, Nat.reduceSub, Nat.reduceAdd, Nat.reduceEqDiff, Nat.reduceLeDiff, reduceIte, ite_true, ite_false, Bool.true_eq_false, Bool.false_eq_true, ↓reduceIte, Nat.zero_add, Nat.add_zero, Nat.sub_zero, id_eq, Bool.or_false, Bool.or_true, Bool.true_or, Bool.false_or, Bool.and_true, Bool.true_and, Bool.and_false, Bool.false_and, Bool.and_self, Bool.or_self, m2, add_n1, gl, t])) (.inl ⟨rfl, rfl⟩) (beq_same (lot_fit (fit_int 0 _) _ (.inl rfl))) rfl rfl, hS⟩
  · have t := three_throw (f3 no lo hn) S
    exact ⟨_, S, rfl, wt_ok (t0h rfl (by unfold rhoR; simp only [Pev.fnB, Pev.OutS.toF, Pev.sCons, Pev.sSet, Pev.sRet, Pev.sRetN, Pev.sIf, Pev.sSkip, Pev.sExpr, Pev.sTgt, Pev.sFor, Pev.sRaise, Pev.sPut, Pev.sAugS, Pev.sPar2, Pev.sPar3, Pev.OutS.fade, Pev.OutS.calm, Pev.Out.toS, Pev.Out.bind, Pev.noX, Pev.eVar, Pev.eC, Pev.eBin, Pev.eUn, Pev.eArgs, Pev.aCons, Pev.aNil, Pev.needN, Pev.eAnd, Pev.eOr, Pev.eNot, Pev.eIf, Pev.mAnd, Pev.mOr, Pev.mNot, Pev.mB, Pev.mT, Pev.eChain, Pev.truth, Pev.ofT, Pev.ofB, Pev.R.d?, Pev.eLc, Pev.iOf, Pev.iArgs, Pev.gN, Pev.gTp, Pev.gsCons, Pev.gsNil, Pev.tv, Pev.eBMl, Pev.eFld, Pev.tYes', Pev.wipeR, Pev.permL, List.map_cons, List.map_nil, List.length_cons, List.length_nil, List.cons_append, List.nil_append, List.append_nil, List.replicate, List.getElem?_cons_zero, List.getElem?_cons_succ, List.getElem?_nil, List.set_cons_zero, List.set_cons_succ, List.set_nil, List.filterMap_cons, List.filterMap_nil, Option.map_some, Option.map_none, Option.bind_some, Option.bind_none, if_true, if_false, Bool.not_true, Bool.not_false, Nat.reduceSub, Nat.reduceAdd, Nat.reduceEqDiff, Nat.reduceLeDiff, reduceIte, ite_true, ite_false, Bool.true_eq_false, Bool.false_eq_true, ↓reduceIte, Nat.zero_add, Nat.add_zero, Nat.sub_zero, id_eq, Bool.or_false, Bool.or_true, Bool.true_or, Bool.false_or, Bool.and_true, Bool.true_and, Bool.and_false, Bool.false_and, Bool.and_self, Bool.or_self, t])) (.inr ⟨rfl, rfl⟩) (beq_same (lot_fit near_fit _ (.inr rfl))) rfl rfl, hS⟩
  · obtain ⟨d, S1, d1, d2, d3, d4⟩ := pick hS.1 (ds := p3L) (by unfold p3L; simp) (by unfold p3L; simp)
    have t := two_throw (f4 d1) S1
    have gl : gLst false [.dat .none, .dat (.int 3), .dat (.str "ab")] S = .ok (.dat (.list p3L)) S := rfl
    exact ⟨_, S1, rfl, wt_ok (t0h rfl (by unfold rhoR; simp only [Pev.fnB, Pev.OutS.toF, Pev.sCons, Pev.sSet, Pev.sRet, Pev.sRetN, Pev.sIf, Pev.sSkip, Pev.sExpr, Pev.sTgt, Pev.sFor, Pev.sRaise, Pev.sPut, Pev.sAugS, Pev.sPar2, Pev.sPar3, Pev.OutS.fade, Pev.OutS.calm, Pev.Out.toS, Pev.Out.bind, Pev.noX, Pev.eVar, Pev.eC, Pev.eBin, Pev.eUn, Pev.eArgs, Pev.aCons, Pev.aNil, Pev.needN, Pev.eAnd, Pev.eOr, Pev.eNot, Pev.eIf, Pev.mAnd, Pev.mOr, Pev.mNot, Pev.mB, Pev.mT, Pev.eChain, Pev.truth, Pev.ofT, Pev.ofB, Pev.R.d?, Pev.eLc, Pev.iOf, Pev.iArgs, Pev.gN, Pev.gTp, Pev.gsCons, Pev.gsNil, Pev.tv, Pev.eBMl, Pev.eFld, Pev.tYes', Pev.wipeR, Pev.permL, List.map_cons, List.map_nil, List.length_cons, List.length_nil, List.cons_append, List.nil_append, List.append_nil, List.replicate, List.getElem?_cons_zero, List.getElem?_cons_succ, List.getElem?_nil, List.set_cons_zero, List.set_cons_succ, List.set_nil, List.filterMap_cons, List.filterMap_nil, Option.map_some, Option.map_none, Option.bind_some, Option.bind_none, if_true, if_false, Bool.not_true, Bool.not_false, Nat.reduceSub, Nat.reduceAdd, Nat.reduceEqDiff, Nat.reduceLeDiff, reduceIte, ite_true, ite_false, Bool.true_eq_false, Bool.false_eq_true, ↓reduceIte, Nat.zero_add, Nat.add_zero, Nat.sub_zero, id_eq, Bool.or_false, Bool.or_true, Bool.true_or, Bool.false_or, Bool.and_true, Bool.true_and, Bool.and_false, Bool.false_and, Bool.and_self, Bool.or_self, gl, d4, t])) (.inl ⟨rfl, rfl⟩) (beq_same (lot_fit (fit_int 0 _) _ (.inl rfl))) rfl rfl, d2, d3.cell hS.2.1 hW, d3.cell hS.2.2 hk⟩
  · have t := two_throw (f5 hG hr hb) S
    have gl : gLst false [.dat bd, .dat .none] S = .ok (.dat (.list [bd, .none])) S := rfl
    have ad := add_rows (rs := rs) (ds := [bd, .none]) (by show rs.length + 2 ≤ _; omega) hS.2.2
    exact ⟨_, S, rfl, wt_ok (t0h rfl (by unfold rhoR; simp only [Pev.fnB, Pev.OutS.toF, Pev.sCons, Pev.sSet, Pev.sRet, Pev.sRetN, Pev.sIf, Pev.sSkip, Pev.sExpr, Pev.sTgt, Pev.sFor, Pev.sRaise, Pev.sPut, Pev.sAugS, Pev.sPar2, Pev.sPar3, Pev.OutS.fade, Pev.OutS.calm, Pev.Out.toS, Pev.Out.bind, Pev.noX, Pev.eVar, Pev.eC, Pev.eBin, Pev.eUn, Pev.eArgs, Pev.aCons, Pev.aNil, Pev.needN, Pev.eAnd, Pev.eOr, Pev.eNot, Pev.eIf, Pev.mAnd, Pev.mOr, Pev.mNot, Pev.mB, Pev.mT, Pev.eChain, Pev.truth, Pev.ofT, Pev.ofB, Pev.R.d?, Pev.eLc, Pev.iOf, Pev.iArgs, Pev.gN, Pev.gTp, Pev.gsCons, Pev.gsNil, Pev.tv, Pev.eBMl, Pev.eFld, Pev.tYes', Pev.wipeR, Pev.permL, List.map_cons, List.map_nil, List.length_cons, List.length_nil, List.cons_append, List.nil_append, List.append_nil, List.replicate, List.getElem?_cons_zero, List.getElem?_cons_succ, List.getElem?_nil, List.set_cons_zero, List.set_cons_succ, List.set_nil, List.filterMap_cons, List.filterMap_nil, Option.map_some, Option.map_none, Option.bind_some, Option.bind_none, if_true, if_false, Bool.not_true, Bool.not_false, Nat.reduceSub, Nat.reduceAdd, Nat.reduceEqDiff, Nat.reduceLeDiff, reduceIte, ite_true, ite_false, Bool.true_eq_false, Bool.false_eq_true, ↓reduceIte, Nat.zero_add, Nat.add_zero, Nat.sub_zero, id_eq, Bool.or_false, Bool.or_true, Bool.true_or, Bool.false_or, Bool.and_true, Bool.true_and, Bool.and_false, Bool.false_and, Bool.and_self, Bool.or_self, gl, ad, t])) (.inl ⟨rfl, rfl⟩) (beq_same (lot_fit (fit_int 0 _) _ (.inl rfl))) rfl rfl, hS⟩
  · have t : pureF m_keeping_paper [.obj kr, .dat ne] S = .exc 1 (some (.str "near")) S := pure_throws (f6 hG hn) (by
      rw [List.mapM_cons, List.mapM_cons, snap_dat, show snap S depS (.obj kr) = some (.list (rs.map (rD true))) from snap_obj (rD true) rs hS.2.2]
      rfl) rfl
    exact ⟨_, S, rfl, wt_ok (t0h rfl (by unfold rhoR; simp only [Pev.fnB, Pev.OutS.toF, Pev.sCons, Pev.sSet, Pev.sRet, Pev.sRetN, Pev.sIf, Pev.sSkip, Pev.sExpr, Pev.sTgt, Pev.sFor, Pev.sRaise, Pev.sPut, Pev.sAugS, Pev.sPar2, Pev.sPar3, Pev.OutS.fade, Pev.OutS.calm, Pev.Out.toS, Pev.Out.bind, Pev.noX, Pev.eVar, Pev.eC, Pev.eBin, Pev.eUn, Pev.eArgs, Pev.aCons, Pev.aNil, Pev.needN, Pev.eAnd, Pev.eOr, Pev.eNot, Pev.eIf, Pev.mAnd, Pev.mOr, Pev.mNot, Pev.mB, Pev.mT, Pev.eChain, Pev.truth, Pev.ofT, Pev.ofB, Pev.R.d?, Pev.eLc, Pev.iOf, Pev.iArgs, Pev.gN, Pev.gTp, Pev.gsCons, Pev.gsNil, Pev.tv, Pev.eBMl, Pev.eFld, Pev.tYes', Pev.wipeR, Pev.permL, List.map_cons, List.map_nil, List.length_cons, List.length_nil, List.cons_append, List.nil_append, List.append_nil, List.replicate, List.getElem?_cons_zero, List.getElem?_cons_succ, List.getElem?_nil, List.set_cons_zero, List.set_cons_succ, List.set_nil, List.filterMap_cons, List.filterMap_nil, Option.map_some, Option.map_none, Option.bind_some, Option.bind_none, if_true, if_false, Bool.not_true, Bool.not_false, Nat.reduceSub, Nat.reduceAdd, Nat.reduceEqDiff, Nat.reduceLeDiff, reduceIte, ite_true, ite_false, Bool.true_eq_false, Bool.false_eq_true, ↓reduceIte, Nat.zero_add, Nat.add_zero, Nat.sub_zero, id_eq, Bool.or_false, Bool.or_true, Bool.true_or, Bool.false_or, Bool.and_true, Bool.true_and, Bool.and_false, Bool.false_and, Bool.and_self, Bool.or_self, t])) (.inr ⟨rfl, rfl⟩) (beq_same (lot_fit near_fit _ (.inr rfl))) rfl rfl, hS⟩
def wkS : SM := (sRet (eBin (bEq false) (eLcW (iOf (eVar 6)) (gW2 7 8) wT lb__law_errors_0 [7, 8]) (eArgs (gLst false) aNil)))
def er1 : SM := (sSet 3 (eArgs (needN 2 m__law_pick) (aCons (eVar 0) (aCons (eArgs (gLst false) (aCons (eC (.none)) (aCons (eC (.int 5)) (aCons (eC (.str "12")) (aCons (eArgs gTup (aCons (eC (.int 1)) (aCons (eC (.int 1)) aNil))) (aCons (eArgs (gLst false) (aCons (eBin bSub (eC (.int 0)) (eC (.int 1))) aNil)) (aCons (eArgs gTup (aCons (eC (.bool true)) aNil)) (aCons (eArgs (gLst false) (aCons (eArgs (gLst false) (aCons (eC (.int 0)) aNil)) aNil)) aNil)))))))) aNil))))
def er2 : SM := (sSet 4 (eArgs (needN 2 m__law_pick) (aCons (eVar 0) (aCons (eArgs (gLst false) (aCons (eC (.none)) (aCons (eC (.bool true)) (aCons (eBin bSub (eC (.int 0)) (eC (.int 1))) (aCons (eC (.str "1")) aNil))))) aNil))))
def er3 : SM := (sSet 5 (eArgs (needN 2 m__law_pick) (aCons (eVar 0) (aCons (eArgs (gLst false) (aCons (eC (.none)) (aCons (eArgs gTup (aCons (eC (.int 1)) aNil)) (aCons (eArgs gTup (aCons (eArgs gTup (aCons (eC (.int 0)) aNil)) (aCons (eArgs gTup (aCons (eC (.int 1)) aNil)) aNil))) (aCons (eArgs gTup (aCons (eArgs gTup (aCons (eC (.int 1)) (aCons (eC (.int 1)) aNil))) (aCons (eArgs gTup aNil) aNil))) (aCons (eBin bIx (eVar 2) (eC (.int 0))) (aCons (eArgs gTup (aCons (eArgs gTup (aCons (eC (.int 0)) aNil)) (aCons (eC (.none)) aNil))) (aCons (eArgs gTup (aCons (eArgs gTup (aCons (eC (.int 0)) aNil)) (aCons (eArgs gTup (aCons (eC (.int 0)) aNil)) (aCons (eC (.int 0)) aNil)))) aNil)))))))) aNil))))
def er4 : SM := (sSet 6 (eArgs (gLst true) (aCons (eArgs gTupL (aCons (eLam 0) (aCons (eArgs gTup (aCons (eC (.str "lot")) (aCons (eC (.int 0)) aNil))) aNil))) aNil)))
def ap1 : SM := (sExpr (eBMl gAppend (eVar 6) (aCons (eArgs gTupL (aCons (eLam 1) (aCons (eArgs gTup (aCons (eC (.str "lot")) (aCons (eC (.int 1)) aNil))) aNil))) aNil)))
def ap2 : SM := (sExpr (eBMl gAppend (eVar 6) (aCons (eArgs gTupL (aCons (eLam 2) (aCons (eArgs gTup (aCons (eC (.str "lot")) (aCons (eC (.int 1)) aNil))) aNil))) aNil)))
def ap3 : SM := (sExpr (eBMl gAppend (eVar 6) (aCons (eArgs gTupL (aCons (eLam 3) (aCons (eArgs gTup (aCons (eC (.str "size")) (aCons (eC (.str "near")) aNil))) aNil))) aNil)))
def ap4 : SM := (sExpr (eBMl gAppend (eVar 6) (aCons (eArgs gTupL (aCons (eLam 4) (aCons (eArgs gTup (aCons (eC (.str "lot")) (aCons (eBin bSub (eC (.int 0)) (eC (.int 1))) aNil))) aNil))) aNil)))
def ap5 : SM := (sExpr (eBMl gAppend (eVar 6) (aCons (eArgs gTupL (aCons (eLam 5) (aCons (eArgs gTup (aCons (eC (.str "lot")) (aCons (eArgs gLen (aCons (eVar 2) aNil)) aNil))) aNil))) aNil)))
def ap6 : SM := (sExpr (eBMl gAppend (eVar 6) (aCons (eArgs gTupL (aCons (eLam 6) (aCons (eArgs gTup (aCons (eC (.str "size")) (aCons (eC (.str "near")) aNil))) aNil))) aNil)))
theorem er_eq : b__law_errors = sCons er1 (sCons er2 (sCons er3 (sLam (sCons er4 (sCons ap1 (sCons ap2 (sCons ap3 (sCons ap4 (sCons ap5 (sCons ap6 wkS)))))))))) := rfl
theorem errors_ok {S : Sto} {k kr : Nat} {order : List Nat} {rs : List Rw} (h : Tk k S) (hS : S[kr]? = some (rowsC rs)) (hk : kr ≠ k) (no : order.Nodup) (lo : order.length ≤ 50) (l0 : 0 < order.length) (hG : GR rs) (h1 : 0 < rs.length) : ∃ S', m__law_errors [.obj k, .dat (LI (os order)), .obj kr] S = .ok (.dat (.bool true)) S' := by
  have lf := hG.few
  have hr0 : rs[0]? = some (rs[0]'h1) := List.getElem?_eq_getElem h1
  have hr : rs[0]'h1 ∈ rs := List.getElem_mem h1
  generalize rs[0]'h1 = r0 at hr0 hr
  obtain ⟨w, S1, w1, w2, wo, w3⟩ := pick h (ds := wrL) (by unfold wrL; simp) (by unfold wrL; simp)
  obtain ⟨ne, S2, n1, n2, nn, n3⟩ := pick w2 (ds := neL) (by unfold neL; simp) (by unfold neL; simp)
  obtain ⟨bd, S3, b1, b2, bo, b3⟩ := pick n2 (ds := bdL r0) (by unfold bdL; simp) (by unfold bdL; simp)
  have c1 := wo.cell hS hk
  have c2 := nn.cell c1 hk
  have c3 := bo.cell c2 hk
  have e1 : er1 [some (.obj k), some (.dat (LI (os order))), some (.obj kr), none, none, none, none, none, none] S = .nx [some (.obj k), some (.dat (LI (os order))), some (.obj kr), some (.dat w), none, none, none, none, none] S1 := by
    have q : (eArgs (gLst false) (aCons (eC (.none)) (aCons (eC (.int 5)) (aCons (eC (.str "12")) (aCons (eArgs gTup (aCons (eC (.int 1)) (aCons (eC (.int 1)) aNil))) (aCons (eArgs (gLst false) (aCons (eBin bSub (eC (.int 0)) (eC (.int 1))) aNil)) (aCons (eArgs gTup (aCons (eC (.bool true)) aNil)) (aCons (eArgs (gLst false) (aCons (eArgs (gLst false) (aCons (eC (.int 0)) aNil)) aNil)) aNil)))))))) [some (.obj k), some (.dat (LI (os order))), some (.obj kr), none, none, none, none, none, none] S = .ok (.dat (.list wrL)) S := rfl
    unfold er1
    generalize (eArgs (gLst false) (aCons (eC (.none)) (aCons (eC (.int 5)) (aCons (eC (.str "12")) (aCons (eArgs gTup (aCons (eC (.int 1)) (aCons (eC (.int 1)) aNil))) (aCons (eArgs (gLst false) (aCons (eBin bSub (eC (.int 0)) (eC (.int 1))) aNil)) (aCons (eArgs gTup (aCons (eC (.bool true)) aNil)) (aCons (eArgs (gLst false) (aCons (eArgs (gLst false) (aCons (eC (.int 0)) aNil)) aNil)) aNil)))))))) = m at q
    simp only [Pev.fnB, Pev.OutS.toF, Pev.sCons, Pev.sSet, Pev.sRet, Pev.sRetN, Pev.sIf, Pev.sSkip, Pev.sExpr, Pev.sTgt, Pev.sFor, Pev.sRaise, Pev.sPut, Pev.sAugS, Pev.sPar2, Pev.sPar3, Pev.OutS.fade, Pev.OutS.calm, Pev.Out.toS, Pev.Out.bind, Pev.noX, Pev.eVar, Pev.eC, Pev.eBin, Pev.eUn, Pev.eArgs, Pev.aCons, Pev.aNil, Pev.needN, Pev.eAnd, Pev.eOr, Pev.eNot, Pev.eIf, Pev.mAnd, Pev.mOr, Pev.mNot, Pev.mB, Pev.mT, Pev.eChain, Pev.truth, Pev.ofT, Pev.ofB, Pev.R.d?, Pev.eLc, Pev.iOf, Pev.iArgs, Pev.gN, Pev.gTp, Pev.gsCons, Pev.gsNil, Pev.tv, Pev.eBMl, Pev.eFld, Pev.tYes', Pev.wipeR, Pev.permL, List.map_cons, List.map_nil, List.length_cons, List.length_nil, List.cons_append, List.nil_append, List.append_nil, List.replicate, List.getElem?_cons_zero, List.getElem?_cons_succ, List.getElem?_nil, List.set_cons_zero, List.set_cons_succ, List.set_nil, List.filterMap_cons, List.filterMap_nil, Option.map_some, Option.map_none, Option.bind_some, Option.bind_none, if_true, if_false, Bool.not_true, Bool.not_false, Nat.reduceSub, Nat.reduceAdd, Nat.reduceEqDiff, Nat.reduceLeDiff, reduceIte, ite_true, ite_false, Bool.true_eq_false, Bool.false_eq_true, ↓reduceIte, Nat.zero_add, Nat.add_zero, Nat.sub_zero, id_eq, Bool.or_false, Bool.or_true, Bool.true_or, Bool.false_or, Bool.and_true, Bool.true_and, Bool.and_false, Bool.false_and, Bool.and_self, Bool.or_self, q, w3]
  have e2 : er2 [some (.obj k), some (.dat (LI (os order))), some (.obj kr), some (.dat w), none, none, none, none, none] S1 = .nx [some (.obj k), some (.dat (LI (os order))), some (.obj kr), some (.dat w), some (.dat ne), none, none, none, none] S2 := by
    have q : (eArgs (gLst false) (aCons (eC (.none)) (aCons (eC (.bool true)) (aCons (eBin bSub (eC (.int 0)) (eC (.int 1))) (aCons (eC (.str "1")) aNil))))) [some (.obj k), some (.dat (LI (os order))), some (.obj kr), some (.dat w), none, none, none, none, none] S1 = .ok (.dat (.list neL)) S1 := rfl
    unfold er2
    generalize (eArgs (gLst false) (aCons (eC (.none)) (aCons (eC (.bool true)) (aCons (eBin bSub (eC (.int 0)) (eC (.int 1))) (aCons (eC (.str "1")) aNil))))) = m at q
    simp only [Pev.fnB, Pev.OutS.toF, Pev.sCons, Pev.sSet, Pev.sRet, Pev.sRetN, Pev.sIf, Pev.sSkip, Pev.sExpr, Pev.sTgt, Pev.sFor, Pev.sRaise, Pev.sPut, Pev.sAugS, Pev.sPar2, Pev.sPar3, Pev.OutS.fade, Pev.OutS.calm, Pev.Out.toS, Pev.Out.bind, Pev.noX, Pev.eVar, Pev.eC, Pev.eBin, Pev.eUn, Pev.eArgs, Pev.aCons, Pev.aNil, Pev.needN, Pev.eAnd, Pev.eOr, Pev.eNot, Pev.eIf, Pev.mAnd, Pev.mOr, Pev.mNot, Pev.mB, Pev.mT, Pev.eChain, Pev.truth, Pev.ofT, Pev.ofB, Pev.R.d?, Pev.eLc, Pev.iOf, Pev.iArgs, Pev.gN, Pev.gTp, Pev.gsCons, Pev.gsNil, Pev.tv, Pev.eBMl, Pev.eFld, Pev.tYes', Pev.wipeR, Pev.permL, List.map_cons, List.map_nil, List.length_cons, List.length_nil, List.cons_append, List.nil_append, List.append_nil, List.replicate, List.getElem?_cons_zero, List.getElem?_cons_succ, List.getElem?_nil, List.set_cons_zero, List.set_cons_succ, List.set_nil, List.filterMap_cons, List.filterMap_nil, Option.map_some, Option.map_none, Option.bind_some, Option.bind_none, if_true, if_false, Bool.not_true, Bool.not_false, Nat.reduceSub, Nat.reduceAdd, Nat.reduceEqDiff, Nat.reduceLeDiff, reduceIte, ite_true, ite_false, Bool.true_eq_false, Bool.false_eq_true, ↓reduceIte, Nat.zero_add, Nat.add_zero, Nat.sub_zero, id_eq, Bool.or_false, Bool.or_true, Bool.true_or, Bool.false_or, Bool.and_true, Bool.true_and, Bool.and_false, Bool.false_and, Bool.and_self, Bool.or_self, q, n3]
  have e3 : er3 [some (.obj k), some (.dat (LI (os order))), some (.obj kr), some (.dat w), some (.dat ne), none, none, none, none] S2 = .nx (rhoR k kr order w ne bd none none none) S3 := by
    have e := at_map (f := fun r => R.dat (rD true r)) (xs := rs) (i := (0 : Int)) (by omega) hr0
    have ix : bIx (.obj kr) (.dat (.int 0)) S2 = .ok (.dat (rD true r0)) S2 := by
      unfold bIx
      dsimp only [lv]
      rw [c2]
      dsimp only
      rw [e]
    have g1 : gTup [.dat (.int 1)] S2 = .ok (.dat (.tuple [.int 1])) S2 := rfl
    have g2 : gTup [.dat (.int 0)] S2 = .ok (.dat (.tuple [.int 0])) S2 := rfl
    have g3 : gTup [.dat (.tuple [.int 0]), .dat (.tuple [.int 1])] S2 = .ok (.dat (.tuple [.tuple [.int 0], .tuple [.int 1]])) S2 := rfl
    have g4 : gTup [.dat (.int 1), .dat (.int 1)] S2 = .ok (.dat (.tuple [.int 1, .int 1])) S2 := rfl
    have g5 : gTup [] S2 = .ok (.dat (.tuple [])) S2 := rfl
    have g6 : gTup [.dat (.tuple [.int 1, .int 1]), .dat (.tuple [])] S2 = .ok (.dat (.tuple [.tuple [.int 1, .int 1], .tuple []])) S2 := rfl
    have g7 : gTup [.dat (.tuple [.int 0]), .dat .none] S2 = .ok (.dat (.tuple [.tuple [.int 0], .none])) S2 := rfl
    have g8 : gTup [.dat (.tuple [.int 0]), .dat (.tuple [.int 0]), .dat (.int 0)] S2 = .ok (.dat (.tuple [.tuple [.int 0], .tuple [.int 0], .int 0])) S2 := rfl
    have g9 : gLst false [.dat .none, .dat (.tuple [.int 1]), .dat (.tuple [.tuple [.int 0], .tuple [.int 1]]), .dat (.tuple [.tuple [.int 1, .int 1], .tuple []]), .dat (rD true r0), .dat (.tuple [.tuple [.int 0], .none]), .dat (.tuple [.tuple [.int 0], .tuple [.int 0], .int 0])] S2 = .ok (.dat (.list (bdL r0))) S2 := rfl
    unfold er3
    simp only [Pev.fnB, Pev.OutS.toF, Pev.sCons, Pev.sSet, Pev.sRet, Pev.sRetN, Pev.sIf, Pev.sSkip, Pev.sExpr, Pev.sTgt, Pev.sFor, Pev.sRaise, Pev.sPut, Pev.sAugS, Pev.sPar2, Pev.sPar3, Pev.OutS.fade, Pev.OutS.calm, Pev.Out.toS, Pev.Out.bind, Pev.noX, Pev.eVar, Pev.eC, Pev.eBin, Pev.eUn, Pev.eArgs, Pev.aCons, Pev.aNil, Pev.needN, Pev.eAnd, Pev.eOr, Pev.eNot, Pev.eIf, Pev.mAnd, Pev.mOr, Pev.mNot, Pev.mB, Pev.mT, Pev.eChain, Pev.truth, Pev.ofT, Pev.ofB, Pev.R.d?, Pev.eLc, Pev.iOf, Pev.iArgs, Pev.gN, Pev.gTp, Pev.gsCons, Pev.gsNil, Pev.tv, Pev.eBMl, Pev.eFld, Pev.tYes', Pev.wipeR, Pev.permL, List.map_cons, List.map_nil, List.length_cons, List.length_nil, List.cons_append, List.nil_append, List.append_nil, List.replicate, List.getElem?_cons_zero, List.getElem?_cons_succ, List.getElem?_nil, List.set_cons_zero, List.set_cons_succ, List.set_nil, List.filterMap_cons, List.filterMap_nil, Option.map_some, Option.map_none, Option.bind_some, Option.bind_none, if_true, if_false, Bool.not_true, Bool.not_false, Nat.reduceSub, Nat.reduceAdd, Nat.reduceEqDiff, Nat.reduceLeDiff, reduceIte, ite_true, ite_false, Bool.true_eq_false, Bool.false_eq_true, ↓reduceIte, Nat.zero_add, Nat.add_zero, Nat.sub_zero, id_eq, Bool.or_false, Bool.or_true, Bool.true_or, Bool.false_or, Bool.and_true, Bool.true_and, Bool.and_false, Bool.false_and, Bool.and_self, Bool.or_self, ix, g1, g2, g3, g4, g5, g6, g7, g8, g9, b3]
  have e4 : er4 (rhoR k kr order w ne bd none none none) S3 = .nx (rhoR k kr order w ne bd (some (.obj S3.length)) none none) (S3 ++ [.lst [.lam 0 (some (.tuple [.str "lot", .int 0]))]]) := rfl
  have hW : S3.length ≠ k := fun z => by have := b2.lt; omega
  have kl : kr < S3.length := (List.getElem?_eq_some_iff.mp c3).1
  have ew : ∃ S4, wkS (rhoR k kr order w ne bd (some (.obj S3.length)) none none) (S3 ++ [.lst (wkL rs.length)]) = .rt (.dat (.bool true)) S4 := by
    have hk1 : (S3 ++ [.lst (wkL rs.length)])[S3.length]? = some (.lst (wkL rs.length)) := by rw [List.getElem?_append_right (Nat.le_refl _), Nat.sub_self]; rfl
    have hk2 : (S3 ++ [.lst (wkL rs.length)])[kr]? = some (rowsC rs) := by rw [List.getElem?_append_left kl]; exact c3
    have st : ∀ S, (Tk k S ∧ S[S3.length]? = some (.lst (wkL rs.length)) ∧ S[kr]? = some (rowsC rs)) → stands S [(S3.length, wkL rs.length)] = true := fun S hS => by
      unfold stands
      rw [hS.2.1]
      dsimp only
      rw [wkL_same, stands_nil]
      rfl
    obtain ⟨S4, _, lc⟩ := lc_noneS (keep := [(S3.length, wkL rs.length)]) (g := gW2 7 8) (t := wT (hlOf lb__law_errors_0 (rhoR k kr order w ne bd (some (.obj S3.length)) none none))) (elt := fun _ _ => .stuck) (ρ := rhoR k kr order w ne bd (some (.obj S3.length)) none none) (fun S => Tk k S ∧ S[S3.length]? = some (.lst (wkL rs.length)) ∧ S[kr]? = some (rowsC rs)) st (wkL rs.length) (S3 ++ [.lst (wkL rs.length)]) ⟨b2.more _, hk1, hk2⟩ (fun r hr1 S hS => by
      obtain ⟨ρ1, S', a1, a2, a3⟩ := lm_no (k := k) (kr := kr) (W := S3.length) (x6 := some (.obj S3.length)) no lo l0 hG hr w1 n1 b1 hk hW r hr1 S hS
      exact ⟨ρ1, S', a1, a2, a3⟩)
    have it : itOf (.obj S3.length) (S3 ++ [.lst (wkL rs.length)]) = .ok ⟨wkL rs.length, [(S3.length, wkL rs.length)]⟩ (S3 ++ [.lst (wkL rs.length)]) := by
      unfold itOf
      dsimp only
      rw [hk1]
    have e : eLcW (iOf (eVar 6)) (gW2 7 8) wT lb__law_errors_0 [7, 8] (rhoR k kr order w ne bd (some (.obj S3.length)) none none) (S3 ++ [.lst (wkL rs.length)]) = .ok (.dat (.list [])) S4 := by
      unfold eLcW eLc
      have ei : iOf (eVar 6) (rhoR k kr order w ne bd (some (.obj S3.length)) none none) (S3 ++ [.lst (wkL rs.length)]) = .ok ⟨wkL rs.length, [(S3.length, wkL rs.length)]⟩ (S3 ++ [.lst (wkL rs.length)]) := it
      rw [ei]
      dsimp only [Out.bind]
      rw [if_pos (show (wkL rs.length).length ≤ sizeLine from (show 7 ≤ sizeLine by decide))]
      show (lcLoop [(S3.length, wkL rs.length)] (gW2 7 8) (wT (hlOf lb__law_errors_0 (rhoR k kr order w ne bd (some (.obj S3.length)) none none))) _ (rhoR k kr order w ne bd (some (.obj S3.length)) none none) (wkL rs.length) _).bind _ = _
      rw [lc]
      rfl
    have gg : (eArgs (gLst false) aNil) (rhoR k kr order w ne bd (some (.obj S3.length)) none none) S4 = .ok (.dat (.list [])) S4 := rfl
    have be : bEq false (.dat (.list [])) (.dat (.list [])) S4 = .ok (.dat (.bool true)) S4 := rfl
    refine ⟨S4, ?_⟩
    unfold wkS sRet eBin
    rw [e]
    dsimp only [Out.bind]
    rw [gg]
    dsimp only
    rw [be]
    rfl
  obtain ⟨S4, ew⟩ := ew
  have a1 : ap1 (rhoR k kr order w ne bd (some (.obj S3.length)) none none) (S3 ++ [.lst [.lam 0 (some (.tuple [.str "lot", .int 0]))]]) = .nx (rhoR k kr order w ne bd (some (.obj S3.length)) none none) (S3 ++ [.lst [.lam 0 (some (.tuple [.str "lot", .int 0])), .lam 1 (some (.tuple [.str "lot", .int 1]))]]) := app_lam (rs := [.lam 0 (some (.tuple [.str "lot", .int 0]))]) (d := (.tuple [.str "lot", .int 1])) rfl (fun _ => rfl) (by simp)
  have a2 : ap2 (rhoR k kr order w ne bd (some (.obj S3.length)) none none) (S3 ++ [.lst [.lam 0 (some (.tuple [.str "lot", .int 0])), .lam 1 (some (.tuple [.str "lot", .int 1]))]]) = .nx (rhoR k kr order w ne bd (some (.obj S3.length)) none none) (S3 ++ [.lst [.lam 0 (some (.tuple [.str "lot", .int 0])), .lam 1 (some (.tuple [.str "lot", .int 1])), .lam 2 (some (.tuple [.str "lot", .int 1]))]]) := app_lam (rs := [.lam 0 (some (.tuple [.str "lot", .int 0])), .lam 1 (some (.tuple [.str "lot", .int 1]))]) (d := (.tuple [.str "lot", .int 1])) rfl (fun _ => rfl) (by simp)
  have a3 : ap3 (rhoR k kr order w ne bd (some (.obj S3.length)) none none) (S3 ++ [.lst [.lam 0 (some (.tuple [.str "lot", .int 0])), .lam 1 (some (.tuple [.str "lot", .int 1])), .lam 2 (some (.tuple [.str "lot", .int 1]))]]) = .nx (rhoR k kr order w ne bd (some (.obj S3.length)) none none) (S3 ++ [.lst [.lam 0 (some (.tuple [.str "lot", .int 0])), .lam 1 (some (.tuple [.str "lot", .int 1])), .lam 2 (some (.tuple [.str "lot", .int 1])), .lam 3 (some (.tuple [.str "size", .str "near"]))]]) := app_lam (rs := [.lam 0 (some (.tuple [.str "lot", .int 0])), .lam 1 (some (.tuple [.str "lot", .int 1])), .lam 2 (some (.tuple [.str "lot", .int 1]))]) (d := (.tuple [.str "size", .str "near"])) rfl (fun _ => rfl) (by simp)
  have a4 : ap4 (rhoR k kr order w ne bd (some (.obj S3.length)) none none) (S3 ++ [.lst [.lam 0 (some (.tuple [.str "lot", .int 0])), .lam 1 (some (.tuple [.str "lot", .int 1])), .lam 2 (some (.tuple [.str "lot", .int 1])), .lam 3 (some (.tuple [.str "size", .str "near"]))]]) = .nx (rhoR k kr order w ne bd (some (.obj S3.length)) none none) (S3 ++ [.lst [.lam 0 (some (.tuple [.str "lot", .int 0])), .lam 1 (some (.tuple [.str "lot", .int 1])), .lam 2 (some (.tuple [.str "lot", .int 1])), .lam 3 (some (.tuple [.str "size", .str "near"])), .lam 4 (some (.tuple [.str "lot", .int (-1)]))]]) := app_lam (rs := [.lam 0 (some (.tuple [.str "lot", .int 0])), .lam 1 (some (.tuple [.str "lot", .int 1])), .lam 2 (some (.tuple [.str "lot", .int 1])), .lam 3 (some (.tuple [.str "size", .str "near"]))]) (d := (.tuple [.str "lot", .int (-1)])) rfl (fun _ => rfl) (by simp)
  have a5 : ap5 (rhoR k kr order w ne bd (some (.obj S3.length)) none none) (S3 ++ [.lst [.lam 0 (some (.tuple [.str "lot", .int 0])), .lam 1 (some (.tuple [.str "lot", .int 1])), .lam 2 (some (.tuple [.str "lot", .int 1])), .lam 3 (some (.tuple [.str "size", .str "near"])), .lam 4 (some (.tuple [.str "lot", .int (-1)]))]]) = .nx (rhoR k kr order w ne bd (some (.obj S3.length)) none none) (S3 ++ [.lst [.lam 0 (some (.tuple [.str "lot", .int 0])), .lam 1 (some (.tuple [.str "lot", .int 1])), .lam 2 (some (.tuple [.str "lot", .int 1])), .lam 3 (some (.tuple [.str "size", .str "near"])), .lam 4 (some (.tuple [.str "lot", .int (-1)])), .lam 5 (some (.tuple [.str "lot", .int (rs.length : Nat)]))]]) := app_lam (rs := [.lam 0 (some (.tuple [.str "lot", .int 0])), .lam 1 (some (.tuple [.str "lot", .int 1])), .lam 2 (some (.tuple [.str "lot", .int 1])), .lam 3 (some (.tuple [.str "size", .str "near"])), .lam 4 (some (.tuple [.str "lot", .int (-1)]))]) (d := (.tuple [.str "lot", .int (rs.length : Nat)])) rfl (fun qs => by
    have hc : (S3 ++ [Cell.lst qs])[kr]? = some (rowsC rs) := by rw [List.getElem?_append_left kl]; exact c3
    have gl : gLen [.obj kr] (S3 ++ [Cell.lst qs]) = .ok (.dat (.int (rs.length : Nat))) (S3 ++ [Cell.lst qs]) := by
      have := lenO hc (by rw [List.length_map]; omega)
      rwa [List.length_map] at this
    have gt : gTup [.dat (.str "lot"), .dat (.int (rs.length : Nat))] (S3 ++ [Cell.lst qs]) = .ok (.dat (.tuple [.str "lot", .int (rs.length : Nat)])) (S3 ++ [Cell.lst qs]) := rfl
    unfold rhoR
    simp only [Pev.fnB, Pev.OutS.toF, Pev.sCons, Pev.sSet, Pev.sRet, Pev.sRetN, Pev.sIf, Pev.sSkip, Pev.sExpr, Pev.sTgt, Pev.sFor, Pev.sRaise, Pev.sPut, Pev.sAugS, Pev.sPar2, Pev.sPar3, Pev.OutS.fade, Pev.OutS.calm, Pev.Out.toS, Pev.Out.bind, Pev.noX, Pev.eVar, Pev.eC, Pev.eBin, Pev.eUn, Pev.eArgs, Pev.aCons, Pev.aNil, Pev.needN, Pev.eAnd, Pev.eOr, Pev.eNot, Pev.eIf, Pev.mAnd, Pev.mOr, Pev.mNot, Pev.mB, Pev.mT, Pev.eChain, Pev.truth, Pev.ofT, Pev.ofB, Pev.R.d?, Pev.eLc, Pev.iOf, Pev.iArgs, Pev.gN, Pev.gTp, Pev.gsCons, Pev.gsNil, Pev.tv, Pev.eBMl, Pev.eFld, Pev.tYes', Pev.wipeR, Pev.permL, List.map_cons, List.map_nil, List.length_cons, List.length_nil, List.cons_append, List.nil_append, List.append_nil, List.replicate, List.getElem?_cons_zero, List.getElem?_cons_succ, List.getElem?_nil, List.set_cons_zero, List.set_cons_succ, List.set_nil, List.filterMap_cons, List.filterMap_nil, Option.map_some, Option.map_none, Option.bind_some, Option.bind_none, if_true, if_false, Bool.not_true, Bool.not_false, Nat.reduceSub, Nat.reduceAdd, Nat.reduceEqDiff, Nat.reduceLeDiff, reduceIte, ite_true, ite_false, Bool.true_eq_false, Bool.false_eq_true, ↓reduceIte, Nat.zero_add, Nat.add_zero, Nat.sub_zero, id_eq, Bool.or_false, Bool.or_true, Bool.true_or, Bool.false_or, Bool.and_true, Bool.true_and, Bool.and_false, Bool.false_and, Bool.and_self, Bool.or_self, gl, gt]) (by simp)
  have a6 : ap6 (rhoR k kr order w ne bd (some (.obj S3.length)) none none) (S3 ++ [.lst [.lam 0 (some (.tuple [.str "lot", .int 0])), .lam 1 (some (.tuple [.str "lot", .int 1])), .lam 2 (some (.tuple [.str "lot", .int 1])), .lam 3 (some (.tuple [.str "size", .str "near"])), .lam 4 (some (.tuple [.str "lot", .int (-1)])), .lam 5 (some (.tuple [.str "lot", .int (rs.length : Nat)]))]]) = .nx (rhoR k kr order w ne bd (some (.obj S3.length)) none none) (S3 ++ [.lst [.lam 0 (some (.tuple [.str "lot", .int 0])), .lam 1 (some (.tuple [.str "lot", .int 1])), .lam 2 (some (.tuple [.str "lot", .int 1])), .lam 3 (some (.tuple [.str "size", .str "near"])), .lam 4 (some (.tuple [.str "lot", .int (-1)])), .lam 5 (some (.tuple [.str "lot", .int (rs.length : Nat)])), .lam 6 (some (.tuple [.str "size", .str "near"]))]]) := app_lam (rs := [.lam 0 (some (.tuple [.str "lot", .int 0])), .lam 1 (some (.tuple [.str "lot", .int 1])), .lam 2 (some (.tuple [.str "lot", .int 1])), .lam 3 (some (.tuple [.str "size", .str "near"])), .lam 4 (some (.tuple [.str "lot", .int (-1)])), .lam 5 (some (.tuple [.str "lot", .int (rs.length : Nat)]))]) (d := (.tuple [.str "size", .str "near"])) rfl (fun _ => rfl) (by simp)
  have body : (sCons er4 (sCons ap1 (sCons ap2 (sCons ap3 (sCons ap4 (sCons ap5 (sCons ap6 wkS))))))) (rhoR k kr order w ne bd none none none) S3 = .rt (.dat (.bool true)) S4 :=
    (cons_nx e4).trans ((cons_nx a1).trans ((cons_nx a2).trans ((cons_nx a3).trans ((cons_nx a4).trans ((cons_nx a5).trans ((cons_nx a6).trans ew))))))
  refine ⟨killL S4, ?_⟩
  show OutS.toF (b__law_errors [some (.obj k), some (.dat (LI (os order))), some (.obj kr), none, none, none, none, none, none] S) = _
  rw [er_eq, cons_nx e1, cons_nx e2, cons_nx e3]
  unfold sLam
  rw [body]
  rfl
end Lw
namespace Lw
open PySem Pev
open L2 (atI ixN cutS)
def b_lot : SM := (sCons (sSet 7 (eArgs (needN 2 m__law_mixed) (aCons (eVar 2) (aCons (eLc false (iOf (eVar 3)) (gN 17) (mB (eBin (bEq false) (eArgs (needN 2 m__law_take) (aCons (eVar 2) (aCons (eC (.int 2)) aNil))) (eC (.int 0)))) (eVar 17) [17]) aNil))))
    (sCons (sPar2 8 9 (aCons (eArgs (gList false) (aCons (eVar 7) aNil)) (aCons (eArgs (gList false) (aCons (eVar 3) aNil)) aNil)))
    (sCons (sSet 10 (eArgs (needN 3 fun rs => needN 3 (pureF m_first_marks) (permL [0, 1, 2] rs)) (aCons (eVar 9) (aCons (eVar 8) (aCons (eVar 4) aNil)))))
    (sCons (sIf (mOr (mB (eBin (bEq true) (eVar 10) (eArgs (needN 3 (pureF m__law_kept)) (aCons (eVar 3) (aCons (eVar 7) (aCons (eVar 4) aNil)))))) (mOr (mB (eBin (bEq true) (eVar 8) (eVar 7))) (mB (eBin (bEq true) (eVar 9) (eVar 3))))) (sRet (eC (.bool false))) sSkip)
    (sExpr (eBMl gAppend (eVar 5) (aCons (eArgs gTupG (aCons (eVar 7) (aCons (eVar 10) aNil))) aNil)))))))
def v1 : SM := (sSet 7 (eArgs (needN 2 m__law_mixed) (aCons (eVar 2) (aCons (eLc false (iOf (eVar 3)) (gN 17) (mB (eBin (bEq false) (eArgs (needN 2 m__law_take) (aCons (eVar 2) (aCons (eC (.int 2)) aNil))) (eC (.int 0)))) (eVar 17) [17]) aNil))))
def v2 : SM := (sPar2 8 9 (aCons (eArgs (gList false) (aCons (eVar 7) aNil)) (aCons (eArgs (gList false) (aCons (eVar 3) aNil)) aNil)))
def v3 : SM := (sSet 10 (eArgs (needN 3 fun rs => needN 3 (pureF m_first_marks) (permL [0, 1, 2] rs)) (aCons (eVar 9) (aCons (eVar 8) (aCons (eVar 4) aNil)))))
def v4 : SM := (sIf (mOr (mB (eBin (bEq true) (eVar 10) (eArgs (needN 3 (pureF m__law_kept)) (aCons (eVar 3) (aCons (eVar 7) (aCons (eVar 4) aNil)))))) (mOr (mB (eBin (bEq true) (eVar 8) (eVar 7))) (mB (eBin (bEq true) (eVar 9) (eVar 3))))) (sRet (eC (.bool false))) sSkip)
def v5 : SM := (sExpr (eBMl gAppend (eVar 5) (aCons (eArgs gTupG (aCons (eVar 7) (aCons (eVar 10) aNil))) aNil)))
theorem b_lot_eq : b_lot = sCons v1 (sCons v2 (sCons v3 (sCons v4 v5))) := rfl
def b_turn : SM := (sCons (sSet 2 (eArgs (needN 2 m__law_box) (aCons (eVar 0) (aCons (eVar 1) aNil))))
    (sCons (sSet 3 (eArgs (needN 2 m__law_mixed) (aCons (eVar 2) (aCons (eArgs (gLR1 false) (aCons (eBin (bAdd false) (eC (.int 3)) (eArgs (needN 2 m__law_take) (aCons (eVar 2) (aCons (eC (.int 4)) aNil)))) aNil)) aNil))))
    (sCons (sSet 3 (eLc false (iOf (eVar 3)) (gN 17) tYes' (eBin (bAdd false) (eVar 17) (eBin (bMul false) (eBin (bMul false) (eC (.int 2)) (eArgs (needN 2 m__law_take) (aCons (eVar 2) (aCons (eC (.int 2)) aNil)))) (eArgs gLen (aCons (eVar 3) aNil)))) [17]))
    (sCons (sPar2 4 5 (aCons (eArgs (needN 2 m__law_take) (aCons (eVar 2) (aCons (eC (.int 4)) aNil))) (aCons (eArgs (gLst true) aNil) aNil)))
    (sCons (sFor (iArgs gRange1 (aCons (eC (.int 4)) aNil)) (gN 6) (sCons (sSet 7 (eArgs (needN 2 m__law_mixed) (aCons (eVar 2) (aCons (eLc false (iOf (eVar 3)) (gN 17) (mB (eBin (bEq false) (eArgs (needN 2 m__law_take) (aCons (eVar 2) (aCons (eC (.int 2)) aNil))) (eC (.int 0)))) (eVar 17) [17]) aNil))))
    (sCons (sPar2 8 9 (aCons (eArgs (gList false) (aCons (eVar 7) aNil)) (aCons (eArgs (gList false) (aCons (eVar 3) aNil)) aNil)))
    (sCons (sSet 10 (eArgs (needN 3 fun rs => needN 3 (pureF m_first_marks) (permL [0, 1, 2] rs)) (aCons (eVar 9) (aCons (eVar 8) (aCons (eVar 4) aNil)))))
    (sCons (sIf (mOr (mB (eBin (bEq true) (eVar 10) (eArgs (needN 3 (pureF m__law_kept)) (aCons (eVar 3) (aCons (eVar 7) (aCons (eVar 4) aNil)))))) (mOr (mB (eBin (bEq true) (eVar 8) (eVar 7))) (mB (eBin (bEq true) (eVar 9) (eVar 3))))) (sRet (eC (.bool false))) sSkip)
    (sExpr (eBMl gAppend (eVar 5) (aCons (eArgs gTupG (aCons (eVar 7) (aCons (eVar 10) aNil))) aNil))))))))
    (sCons (sFor (iOf (eVar 5)) (gTp 2 (gsCons (gN 7) (gsCons (gN 10) gsNil))) (sFor (iOf (eVar 5)) (gTp 2 (gsCons (gN 11) (gsCons (gN 12) gsNil))) (sIf (mAnd (mB (eBin bLe (eArgs (needN 2 (pureF m__law_apart)) (aCons (eVar 7) (aCons (eVar 11) aNil))) (eVar 4))) (mNot (mT (eArgs (needN 2 (pureF m__law_common)) (aCons (eVar 10) (aCons (eVar 12) aNil)))))) (sRet (eC (.bool false))) sSkip)))
    (sCons (sPar2 13 14 (aCons (eArgs (gLst true) aNil) (aCons (eC (.bool true)) aNil)))
    (sCons (sFor (iOf (eArgs (needN 2 m__law_mixed) (aCons (eVar 2) (aCons (eArgs (needN 1 (pureF m__law_parts)) (aCons (eSl false (eVar 3) none (some (eBin (bAdd false) (eC (.int 3)) (eArgs (needN 2 m__law_take) (aCons (eVar 2) (aCons (eC (.int 2)) aNil)))))) aNil)) aNil)))) (gN 15) (sCons (sSet 10 (eLc false (iOf (eArgs (needN 3 (pureF m__law_kept)) (aCons (eVar 3) (aCons (eVar 15) (aCons (eVar 4) aNil))))) (gN 17) (mB (eBin (bIsN true) (eVar 17) (eC (.none)))) (eVar 17) [17]))
    (sCons (sIf (mB (eBin (bEq false) (eArgs (needN 2 m__law_take) (aCons (eVar 2) (aCons (eC (.int 9)) aNil))) (eC (.int 0)))) (sSet 10 (eLc false (iOf (eVar 15)) (gN 17) (mB (eBin (bEq false) (eArgs (needN 2 m__law_take) (aCons (eVar 2) (aCons (eC (.int 2)) aNil))) (eC (.int 0)))) (eVar 17) [17])) sSkip)
    (sIf (mB (eBin bGt (eArgs (needN 2 m__law_take) (aCons (eVar 2) (aCons (eC (.int 40)) aNil))) (eC (.int 0)))) (sExpr (eBMl gAppend (eVar 13) (aCons (eArgs gTupG (aCons (eArgs (needN 2 m__law_mixed) (aCons (eVar 2) (aCons (eVar 15) aNil))) (aCons (eArgs gTuple (aCons (eArgs (needN 2 m__law_mixed) (aCons (eVar 2) (aCons (eVar 10) aNil))) aNil)) aNil))) aNil))) (sSet 14 (eC (.bool false)))))))
    (sCons (sSet 13 (eBin (bAdd true) (eVar 13) (eArgs (gLst false) (aCons (eArgs gTup (aCons (eArgs gTup (aCons (eC (.int 99)) aNil)) (aCons (eArgs gTup (aCons (eC (.int 99)) aNil)) aNil))) aNil))))
    (sCons (sSet 16 (eArgs (needN 2 fun rs => needN 2 (pureF m_keeping_paper) (permL [0, 1] rs)) (aCons (eLc false (iOf (eVar 13)) (gN 9) tYes' (eArgs (gList false) (aCons (eVar 9) aNil)) [9]) (aCons (eVar 4) aNil))))
    (sCons (sIf (mB (eBin (bEq true) (eVar 16) (eArgs (needN 2 (pureF m__law_missed)) (aCons (eVar 13) (aCons (eVar 4) aNil))))) (sRet (eC (.bool false))) sSkip)
    (sCons (sIf (mAnd (mB (eBin (bEq false) (eVar 16) (eArgs gTup (aCons (eC (.str "kept")) aNil)))) (mAnd (mT (eVar 14)) (mB (eBin (bEq true) (eLc false (iOf (eVar 13)) (gTp 2 (gsCons (gN 7) (gsCons (gN 10) gsNil))) (mB (eBin bLt (eArgs gLen (aCons (eVar 10) aNil)) (eArgs gMin2 (aCons (eArgs gLen (aCons (eVar 7) aNil)) (aCons (eBin (bAdd false) (eVar 4) (eC (.int 1))) aNil))))) (eVar 7) [7, 10]) (eArgs (gLst false) aNil))))) (sRet (eC (.bool false))) sSkip)
    (sIf (mNot (mT (eArgs (needN 3 m__law_errors) (aCons (eVar 2) (aCons (eVar 3) (aCons (eVar 13) aNil)))))) (sRet (eC (.bool false))) sSkip)))))))))))))
def t1 : SM := (sSet 2 (eArgs (needN 2 m__law_box) (aCons (eVar 0) (aCons (eVar 1) aNil))))
def t2 : SM := (sSet 3 (eArgs (needN 2 m__law_mixed) (aCons (eVar 2) (aCons (eArgs (gLR1 false) (aCons (eBin (bAdd false) (eC (.int 3)) (eArgs (needN 2 m__law_take) (aCons (eVar 2) (aCons (eC (.int 4)) aNil)))) aNil)) aNil))))
def t3 : SM := (sSet 3 (eLc false (iOf (eVar 3)) (gN 17) tYes' (eBin (bAdd false) (eVar 17) (eBin (bMul false) (eBin (bMul false) (eC (.int 2)) (eArgs (needN 2 m__law_take) (aCons (eVar 2) (aCons (eC (.int 2)) aNil)))) (eArgs gLen (aCons (eVar 3) aNil)))) [17]))
def t4 : SM := (sPar2 4 5 (aCons (eArgs (needN 2 m__law_take) (aCons (eVar 2) (aCons (eC (.int 4)) aNil))) (aCons (eArgs (gLst true) aNil) aNil)))
def t5 : SM := (sFor (iArgs gRange1 (aCons (eC (.int 4)) aNil)) (gN 6) (sCons (sSet 7 (eArgs (needN 2 m__law_mixed) (aCons (eVar 2) (aCons (eLc false (iOf (eVar 3)) (gN 17) (mB (eBin (bEq false) (eArgs (needN 2 m__law_take) (aCons (eVar 2) (aCons (eC (.int 2)) aNil))) (eC (.int 0)))) (eVar 17) [17]) aNil))))
    (sCons (sPar2 8 9 (aCons (eArgs (gList false) (aCons (eVar 7) aNil)) (aCons (eArgs (gList false) (aCons (eVar 3) aNil)) aNil)))
    (sCons (sSet 10 (eArgs (needN 3 fun rs => needN 3 (pureF m_first_marks) (permL [0, 1, 2] rs)) (aCons (eVar 9) (aCons (eVar 8) (aCons (eVar 4) aNil)))))
    (sCons (sIf (mOr (mB (eBin (bEq true) (eVar 10) (eArgs (needN 3 (pureF m__law_kept)) (aCons (eVar 3) (aCons (eVar 7) (aCons (eVar 4) aNil)))))) (mOr (mB (eBin (bEq true) (eVar 8) (eVar 7))) (mB (eBin (bEq true) (eVar 9) (eVar 3))))) (sRet (eC (.bool false))) sSkip)
    (sExpr (eBMl gAppend (eVar 5) (aCons (eArgs gTupG (aCons (eVar 7) (aCons (eVar 10) aNil))) aNil))))))))
def t6 : SM := (sFor (iOf (eVar 5)) (gTp 2 (gsCons (gN 7) (gsCons (gN 10) gsNil))) (sFor (iOf (eVar 5)) (gTp 2 (gsCons (gN 11) (gsCons (gN 12) gsNil))) (sIf (mAnd (mB (eBin bLe (eArgs (needN 2 (pureF m__law_apart)) (aCons (eVar 7) (aCons (eVar 11) aNil))) (eVar 4))) (mNot (mT (eArgs (needN 2 (pureF m__law_common)) (aCons (eVar 10) (aCons (eVar 12) aNil)))))) (sRet (eC (.bool false))) sSkip)))
def t7 : SM := (sPar2 13 14 (aCons (eArgs (gLst true) aNil) (aCons (eC (.bool true)) aNil)))
def t8 : SM := (sFor (iOf (eArgs (needN 2 m__law_mixed) (aCons (eVar 2) (aCons (eArgs (needN 1 (pureF m__law_parts)) (aCons (eSl false (eVar 3) none (some (eBin (bAdd false) (eC (.int 3)) (eArgs (needN 2 m__law_take) (aCons (eVar 2) (aCons (eC (.int 2)) aNil)))))) aNil)) aNil)))) (gN 15) (sCons (sSet 10 (eLc false (iOf (eArgs (needN 3 (pureF m__law_kept)) (aCons (eVar 3) (aCons (eVar 15) (aCons (eVar 4) aNil))))) (gN 17) (mB (eBin (bIsN true) (eVar 17) (eC (.none)))) (eVar 17) [17]))
    (sCons (sIf (mB (eBin (bEq false) (eArgs (needN 2 m__law_take) (aCons (eVar 2) (aCons (eC (.int 9)) aNil))) (eC (.int 0)))) (sSet 10 (eLc false (iOf (eVar 15)) (gN 17) (mB (eBin (bEq false) (eArgs (needN 2 m__law_take) (aCons (eVar 2) (aCons (eC (.int 2)) aNil))) (eC (.int 0)))) (eVar 17) [17])) sSkip)
    (sIf (mB (eBin bGt (eArgs (needN 2 m__law_take) (aCons (eVar 2) (aCons (eC (.int 40)) aNil))) (eC (.int 0)))) (sExpr (eBMl gAppend (eVar 13) (aCons (eArgs gTupG (aCons (eArgs (needN 2 m__law_mixed) (aCons (eVar 2) (aCons (eVar 15) aNil))) (aCons (eArgs gTuple (aCons (eArgs (needN 2 m__law_mixed) (aCons (eVar 2) (aCons (eVar 10) aNil))) aNil)) aNil))) aNil))) (sSet 14 (eC (.bool false)))))))
def t9 : SM := (sSet 13 (eBin (bAdd true) (eVar 13) (eArgs (gLst false) (aCons (eArgs gTup (aCons (eArgs gTup (aCons (eC (.int 99)) aNil)) (aCons (eArgs gTup (aCons (eC (.int 99)) aNil)) aNil))) aNil))))
def t10 : SM := (sSet 16 (eArgs (needN 2 fun rs => needN 2 (pureF m_keeping_paper) (permL [0, 1] rs)) (aCons (eLc false (iOf (eVar 13)) (gN 9) tYes' (eArgs (gList false) (aCons (eVar 9) aNil)) [9]) (aCons (eVar 4) aNil))))
def t11 : SM := (sIf (mB (eBin (bEq true) (eVar 16) (eArgs (needN 2 (pureF m__law_missed)) (aCons (eVar 13) (aCons (eVar 4) aNil))))) (sRet (eC (.bool false))) sSkip)
def t12 : SM := (sIf (mAnd (mB (eBin (bEq false) (eVar 16) (eArgs gTup (aCons (eC (.str "kept")) aNil)))) (mAnd (mT (eVar 14)) (mB (eBin (bEq true) (eLc false (iOf (eVar 13)) (gTp 2 (gsCons (gN 7) (gsCons (gN 10) gsNil))) (mB (eBin bLt (eArgs gLen (aCons (eVar 10) aNil)) (eArgs gMin2 (aCons (eArgs gLen (aCons (eVar 7) aNil)) (aCons (eBin (bAdd false) (eVar 4) (eC (.int 1))) aNil))))) (eVar 7) [7, 10]) (eArgs (gLst false) aNil))))) (sRet (eC (.bool false))) sSkip)
def t13 : SM := (sIf (mNot (mT (eArgs (needN 3 m__law_errors) (aCons (eVar 2) (aCons (eVar 3) (aCons (eVar 13) aNil)))))) (sRet (eC (.bool false))) sSkip)
theorem b_turn_eq : b_turn = sCons t1 (sCons t2 (sCons t3 (sCons t4 (sCons t5 (sCons t6 (sCons t7 (sCons t8 (sCons t9 (sCons t10 (sCons t11 (sCons t12 t13))))))))))) := rfl

/-! ### small things -/
theorem same_mo (a : Option Nat) : same (mo a) (mo a) = true := by
  cases a with
  | none => rfl
  | some n => exact decide_eq_true rfl
theorem sameAll_mo (l : OL) : sameAll (l.map mo) (l.map mo) = true := by
  induction l with
  | nil => rfl
  | cons a l ih =>
    rw [List.map_cons]
    unfold sameAll
    rw [same_mo, ih]
    rfl
theorem same_TU (l : OL) : same (TU l) (TU l) = true := sameAll_mo l
theorem same_LI (l : OL) : same (LI l) (LI l) = true := sameAll_mo l
theorem same_sq (t : Bool) (l : OL) : same (sq t l) (sq t l) = true := by cases t; exact same_LI l; exact same_TU l
theorem same_two {a b : PyData} (h1 : same a a = true) (h2 : same b b = true) : same (.tuple [a, b]) (.tuple [a, b]) = true := by
  show sameAll [a, b] [a, b] = true
  unfold sameAll
  rw [h1]
  show sameAll [b] [b] = true
  unfold sameAll
  rw [h2]
  rfl
theorem same_rD (r : Rw) : same (rD true r) (rD true r) = true := same_two (same_sq _ _) (same_TU _)
theorem st_of {α : Type} {f : α → PyData} (h : ∀ a, same (f a) (f a) = true) {xs : List α} {S : Sto} {k : Nat} (hS : S[k]? = some (.lst (xs.map fun a => R.dat (f a)))) : stands S [(k, xs.map fun a => R.dat (f a))] = true := stands_one hS (same_f f h xs)
theorem beq_cellsame {k : Nat} {d : PyData} {x y : R} {S : Sto} (h1 : snap S 4 x = some d) (h2 : snap S 4 y = some d) (h : Fit k d) (hk : k ≤ 64 := by omega) : bEq true x y S = .ok (.dat (.bool false)) S := by
  unfold bEq
  rw [h1, h2]
  dsimp only
  rw [h.shaped hk, eqv_self h.1]
  rfl
theorem snap_mo {S : Sto} {k n : Nat} {l : OL} (h : S[k]? = some (.lst (l.map fun a => R.dat (mo a)))) : snap S (n + 1) (.obj k) = some (LI l) := snap_obj mo l h
theorem lv_mo {S : Sto} {k : Nat} {l : OL} (h : S[k]? = some (.lst (l.map fun a => R.dat (mo a)))) : lv S (.obj k) = some (l.map fun a => R.dat (mo a)) := by
  unfold lv
  dsimp only
  rw [h]
theorem listO {S : Sto} {k : Nat} {l : OL} (h : S[k]? = some (.lst (l.map fun a => R.dat (mo a)))) : gList false [.obj k] S = .ok (.dat (LI l)) S := by
  show (match lv S (.obj k) with
    | some rs => newL false rs S
    | none => .stuck) = _
  rw [lv_mo h]
  exact nl_mo l S
theorem gtO {S : Sto} {k : Nat} {l : OL} (h : S[k]? = some (.lst (l.map fun a => R.dat (mo a)))) : gTuple [.obj k] S = .ok (.dat (TU l)) S := by
  show (match lv S (.obj k) with
    | some rs => newT rs S
    | none => .stuck) = _
  rw [lv_mo h]
  show newT (l.map fun a => R.dat (mo a)) S = _
  unfold newT
  rw [datAll_f mo]
  rfl
theorem itO {α : Type} {f : α → PyData} {S : Sto} {k : Nat} {l : List α} (h : S[k]? = some (.lst (l.map fun a => R.dat (f a)))) : itOf (.obj k) S = .ok ⟨l.map fun a => R.dat (f a), [(k, l.map fun a => R.dat (f a))]⟩ S := by
  unfold itOf
  dsimp only
  rw [h]
theorem free_TU (l : OL) : free (TU l) = true := by
  have : ∀ l : OL, freeAll (l.map mo) = true := fun l => by
    induction l with
    | nil => rfl
    | cons a l ih =>
      rw [List.map_cons]
      unfold freeAll
      rw [ih]
      cases a <;> rfl
  exact this l
/-- a list frozen into a pair -/
theorem frz {S : Sto} {r : Nat} {l k : OL} (h : S[r]? = some (.lst (l.map fun a => R.dat (mo a)))) : gTupG [.obj r, .dat (TU k)] S = .ok (.dat (.tuple [LI l, TU k])) (S.set r .dead) := by
  have sn : [R.obj r, .dat (TU k)].mapM (snap S depS) = some [LI l, TU k] := by
    rw [List.mapM_cons, List.mapM_cons, snap_dat, show snap S depS (.obj r) = some (LI l) from snap_mo h]
    rfl
  have rc : [R.obj r, .dat (TU k)].flatMap (reach S depS) = [r] := by
    have e : (l.map fun a => R.dat (mo a)).flatMap (reach S 16) = [] := by
      rw [List.flatMap_map]
      exact List.flatMap_eq_nil_iff.mpr fun a _ => by cases a <;> rfl
    show reach S depS (.obj r) ++ (reach S depS (.dat (TU k)) ++ []) = _
    have r1 : ∀ n, reach S (n + 1) (.obj r) = r :: (l.map fun a => R.dat (mo a)).flatMap (reach S n) := fun n => by
      show r :: (match S[r]? with
        | some (.lst rs) => rs.flatMap (reach S n)
        | _ => []) = _
      rw [h]
    have r2 : ∀ n, (l.map fun a => R.dat (mo a)).flatMap (reach S n) = [] := fun n => by
      rw [List.flatMap_map]
      exact List.flatMap_eq_nil_iff.mpr fun a _ => by unfold reach; cases n <;> rfl
    have r3 : ∀ n, reach S n (.dat (TU k)) = [] := fun n => by unfold reach; cases n <;> rfl
    rw [r3, show (depS : Nat) = (depS - 1) + 1 from rfl, r1, r2]
    rfl
  unfold gTupG
  rw [if_pos (show [R.obj r, .dat (TU k)].length ≤ sizeLine from two_small), sn, rc]
  rfl
theorem dead_ne {S : Sto} {i r : Nat} {c : Cell} (h : S[i]? = some c) (hn : r ≠ i) : (S.set r .dead)[i]? = some c := by rw [List.getElem?_set_ne hn]; exact h
section
variable {ns : List Int} {k n o kt : Nat} {order : List Nat} {S : Sto} {x1 x2 x3 x4 x5 x6 x7 x8 x9 x10 x11 x12 x13 x14 x15 x16 x17 : Option R}
theorem t1_ok {j : Nat} (hj : j < 100) (hn : ns.length ≤ 63) : ∃ k S', Tk k S' ∧ t1 [some (.ro (ns.map .int)), some (nR j), x2, x3, x4, x5, x6, x7, x8, x9, x10, x11, x12, x13, x14, x15, x16, x17] S = .nx [some (.ro (ns.map .int)), some (nR j), some (.obj k), x3, x4, x5, x6, x7, x8, x9, x10, x11, x12, x13, x14, x15, x16, x17] S' := by
  obtain ⟨S', h1, _, h2⟩ := newbox (ns := ns) (S := S) hj hn
  refine ⟨S.length, S', h1, ?_⟩
  unfold t1
  unfold nR at h2
  simp only [Pev.fnB, Pev.OutS.toF, Pev.sCons, Pev.sSet, Pev.sRet, Pev.sRetN, Pev.sIf, Pev.sSkip, Pev.sExpr, Pev.sTgt, Pev.sFor, Pev.sRaise, Pev.sPut, Pev.sAugS, Pev.sPar2, Pev.sPar3, Pev.OutS.fade, Pev.OutS.calm, Pev.Out.toS, Pev.Out.bind, Pev.noX, Pev.eVar, Pev.eC, Pev.eBin, Pev.eUn, Pev.eArgs, Pev.aCons, Pev.aNil, Pev.needN, Pev.eAnd, Pev.eOr, Pev.eNot, Pev.eIf, Pev.mAnd, Pev.mOr, Pev.mNot, Pev.mB, Pev.mT, Pev.eChain, Pev.truth, Pev.ofT, Pev.ofB, Pev.R.d?, Pev.eLc, Pev.iOf, Pev.iArgs, Pev.gN, Pev.gTp, Pev.gsCons, Pev.gsNil, Pev.tv, Pev.eBMl, Pev.eFld, Pev.tYes', Pev.wipeR, Pev.permL, List.map_cons, List.map_nil, List.length_cons, List.length_nil, List.cons_append, List.nil_append, List.append_nil, List.replicate, List.getElem?_cons_zero, List.getElem?_cons_succ, List.getElem?_nil, List.set_cons_zero, List.set_cons_succ, List.set_nil, List.filterMap_cons, List.filterMap_nil, Option.map_some, Option.map_none, Option.bind_some, Option.bind_none, if_true, if_false, Bool.not_true, Bool.not_false, Nat.reduceSub, Nat.reduceAdd, Nat.reduceEqDiff, Nat.reduceLeDiff, reduceIte, ite_true, ite_false, Bool.true_eq_false, Bool.false_eq_true, ↓reduceIte, Nat.zero_add, Nat.add_zero, Nat.sub_zero, id_eq, Bool.or_false, Bool.or_true, Bool.true_or, Bool.false_or, Bool.and_true, Bool.true_and, Bool.and_false, Bool.false_and, Bool.and_self, Bool.or_self, h2]
theorem t2_ok (h : Tk k S) : ∃ (ys : List Nat) (r m : Nat) (S' : Sto), ys.Perm (List.range m) ∧ 3 ≤ m ∧ m ≤ 6 ∧ Tk k S' ∧ r ≠ k ∧ S'[r]? = some (.lst ((os ys).map fun a => R.dat (mo a))) ∧ t2 [some (.ro (ns.map .int)), x1, some (.obj k), x3, x4, x5, x6, x7, x8, x9, x10, x11, x12, x13, x14, x15, x16, x17] S = .nx [some (.ro (ns.map .int)), x1, some (.obj k), some (.obj r), x4, x5, x6, x7, x8, x9, x10, x11, x12, x13, x14, x15, x16, x17] S' := by
  obtain ⟨x, S1, d1, d2, d3, d4⟩ := draw h 4 (by omega) (by omega)
  have d4 : m__law_take [.obj k, .dat (.int 4)] S = .ok (nR x) S1 := d4
  have ad : bAdd false (.dat (.int 3)) (.dat (.int (x : Nat))) S1 = .ok (.dat (.int ((3 + x : Nat) : Int))) S1 := rfl
  have rg : gLR1 false [.dat (.int ((3 + x : Nat) : Int))] S1 = .ok (.dat (LI (os (List.range (3 + x))))) S1 := by
    have i0 := inR_small (n := 3 + x) (by omega)
    have i1 : inR 0 = true := rfl
    have i2 : decide (((3 + x : Nat) : Int).toNat ≤ 16777216) = true := decide_eq_true (by omega)
    have nl := newL_f (fun n : Nat => PyData.int (n : Nat)) (List.range (3 + x)) S1
    unfold gLR1 rgL
    simp only [i0, i1, i2, Bool.and_self, if_true, Int.sub_zero, rangeR_0, nl]
    unfold LI
    rw [os_map]
  obtain ⟨ys, S2, p1, p2, p3, p4, p5⟩ := mixed_sq false (List.range (3 + x)) (by rw [List.length_range]; omega) d2
  have p5 : m__law_mixed [.obj k, .dat (LI (os (List.range (3 + x))))] S1 = _ := p5
  have := d2.lt
  refine ⟨ys, S1.length + 1, 3 + x, S2, p1, by omega, by omega, p2, by omega, p4, ?_⟩
  unfold t2
  unfold nR at *
  simp only [Pev.fnB, Pev.OutS.toF, Pev.sCons, Pev.sSet, Pev.sRet, Pev.sRetN, Pev.sIf, Pev.sSkip, Pev.sExpr, Pev.sTgt, Pev.sFor, Pev.sRaise, Pev.sPut, Pev.sAugS, Pev.sPar2, Pev.sPar3, Pev.OutS.fade, Pev.OutS.calm, Pev.Out.toS, Pev.Out.bind, Pev.noX, Pev.eVar, Pev.eC, Pev.eBin, Pev.eUn, Pev.eArgs, Pev.aCons, Pev.aNil, Pev.needN, Pev.eAnd, Pev.eOr, Pev.eNot, Pev.eIf, Pev.mAnd, Pev.mOr, Pev.mNot, Pev.mB, Pev.mT, Pev.eChain, Pev.truth, Pev.ofT, Pev.ofB, Pev.R.d?, Pev.eLc, Pev.iOf, Pev.iArgs, Pev.gN, Pev.gTp, Pev.gsCons, Pev.gsNil, Pev.tv, Pev.eBMl, Pev.eFld, Pev.tYes', Pev.wipeR, Pev.permL, List.map_cons, List.map_nil, List.length_cons, List.length_nil, List.cons_append, List.nil_append, List.append_nil, List.replicate, List.getElem?_cons_zero, List.getElem?_cons_succ, List.getElem?_nil, List.set_cons_zero, List.set_cons_succ, List.set_nil, List.filterMap_cons, List.filterMap_nil, Option.map_some, Option.map_none, Option.bind_some, Option.bind_none, if_true, if_false, Bool.not_true, Bool.not_false, Nat.reduceSub, Nat.reduceAdd, Nat.reduceEqDiff, Nat.reduceLeDiff, reduceIte, ite_true, ite_false, Bool.true_eq_false, Bool.false_eq_true, ↓reduceIte, Nat.zero_add, Nat.add_zero, Nat.sub_zero, id_eq, Bool.or_false, Bool.or_true, Bool.true_or, Bool.false_or, Bool.and_true, Bool.true_and, Bool.and_false, Bool.false_and, Bool.and_self, Bool.or_self, d4, ad, rg, p5]
def Ord (order : List Nat) : Prop := order.Nodup ∧ (∀ a ∈ order, a < 99) ∧ 3 ≤ order.length ∧ order.length ≤ 6
theorem t3_ok {ys : List Nat} {r m : Nat} (h : Tk k S) (hp : ys.Perm (List.range m)) (m1 : 3 ≤ m) (m2 : m ≤ 6) (hr : r ≠ k) (hS : S[r]? = some (.lst ((os ys).map fun a => R.dat (mo a)))) : ∃ (order : List Nat) (S' : Sto), Ord order ∧ Tk k S' ∧ t3 [some (.ro (ns.map .int)), x1, some (.obj k), some (.obj r), x4, x5, x6, x7, x8, x9, x10, x11, x12, x13, x14, x15, x16, x17] S = .nx [some (.ro (ns.map .int)), x1, some (.obj k), some (.dat (LI (os order))), x4, x5, x6, x7, x8, x9, x10, x11, x12, x13, x14, x15, x16, x17] S' := by
  have ly : ys.length = m := by rw [hp.length_eq, List.length_range]
  have e0 : ((os ys).map fun a => R.dat (mo a)) = ys.map fun a : Nat => R.dat (mo (some a)) := by unfold os; rw [List.map_map]; rfl
  rw [e0] at hS
  obtain ⟨zs, S1, z1, z2, z3, z4⟩ := lcQ (keep := [(r, ys.map fun a : Nat => R.dat (mo (some a)))]) (g := gN 17) (elt := (eBin (bAdd false) (eVar 17) (eBin (bMul false) (eBin (bMul false) (eC (.int 2)) (eArgs (needN 2 m__law_take) (aCons (eVar 2) (aCons (eC (.int 2)) aNil)))) (eArgs gLen (aCons (eVar 3) aNil))))) (ρ := [some (.ro (ns.map .int)), x1, some (.obj k), some (.obj r), x4, x5, x6, x7, x8, x9, x10, x11, x12, x13, x14, x15, x16, none]) (fun S => Tk k S ∧ S[r]? = some (.lst (ys.map fun a : Nat => R.dat (mo (some a))))) (fun (a y : Nat) => ∃ d, d < 2 ∧ y = a + 2 * d * m) (fun a : Nat => R.dat (mo (some a))) (fun y : Nat => R.dat (.int (y : Nat))) (fun S hS => st_of (f := fun a : Nat => mo (some a)) (fun a => same_mo (some a)) hS.2) ys S ⟨h, hS⟩ (by
    rintro a ha S ⟨h1, h2⟩
    obtain ⟨d, S2, d1, d2, d3, d4⟩ := draw h1 2 (by omega) (by omega)
    have d4 : m__law_take [.obj k, .dat (.int 2)] S = .ok (nR d) S2 := d4
    have c2 : S2[r]? = some (.lst (ys.map fun a : Nat => R.dat (mo (some a)))) := d3.two.cell h2 hr
    have mu := mul_nn (x := 2) (y := d) (by omega) S2
    have mu : bMul false (.dat (.int 2)) (.dat (.int (d : Nat))) S2 = .ok (.dat (.int ((2 * d : Nat) : Int))) S2 := mu
    have gl : gLen [.obj r] S2 = .ok (.dat (.int (m : Nat))) S2 := by
      have := lenO c2 (by rw [List.length_map]; omega)
      rwa [List.length_map, ly] at this
    have mu2 := mul_nn (x := 2 * d) (y := m) (by omega) S2
    refine ⟨_, a + 2 * d * m, S2, rfl, ?_, ⟨d, d1, rfl⟩, d2, c2⟩
    show (eBin (bAdd false) (eVar 17) (eBin (bMul false) (eBin (bMul false) (eC (.int 2)) (eArgs (needN 2 m__law_take) (aCons (eVar 2) (aCons (eC (.int 2)) aNil)))) (eArgs gLen (aCons (eVar 3) aNil)))) [some (.ro (ns.map .int)), x1, some (.obj k), some (.obj r), x4, x5, x6, x7, x8, x9, x10, x11, x12, x13, x14, x15, x16, some (.dat (mo (some a)))] S = _
    unfold nR at *
    have ad : bAdd false (.dat (mo (some a))) (.dat (.int ((2 * d * m : Nat) : Int))) S2 = .ok (.dat (.int ((a + 2 * d * m : Nat) : Int))) S2 := rfl
    simp only [Pev.fnB, Pev.OutS.toF, Pev.sCons, Pev.sSet, Pev.sRet, Pev.sRetN, Pev.sIf, Pev.sSkip, Pev.sExpr, Pev.sTgt, Pev.sFor, Pev.sRaise, Pev.sPut, Pev.sAugS, Pev.sPar2, Pev.sPar3, Pev.OutS.fade, Pev.OutS.calm, Pev.Out.toS, Pev.Out.bind, Pev.noX, Pev.eVar, Pev.eC, Pev.eBin, Pev.eUn, Pev.eArgs, Pev.aCons, Pev.aNil, Pev.needN, Pev.eAnd, Pev.eOr, Pev.eNot, Pev.eIf, Pev.mAnd, Pev.mOr, Pev.mNot, Pev.mB, Pev.mT, Pev.eChain, Pev.truth, Pev.ofT, Pev.ofB, Pev.R.d?, Pev.eLc, Pev.iOf, Pev.iArgs, Pev.gN, Pev.gTp, Pev.gsCons, Pev.gsNil, Pev.tv, Pev.eBMl, Pev.eFld, Pev.tYes', Pev.wipeR, Pev.permL, List.map_cons, List.map_nil, List.length_cons, List.length_nil, List.cons_append, List.nil_append, List.append_nil, List.replicate, List.getElem?_cons_zero, List.getElem?_cons_succ, List.getElem?_nil, List.set_cons_zero, List.set_cons_succ, List.set_nil, List.filterMap_cons, List.filterMap_nil, Option.map_some, Option.map_none, Option.bind_some, Option.bind_none, if_true, if_false, Bool.not_true, Bool.not_false, Nat.reduceSub, Nat.reduceAdd, Nat.reduceEqDiff, Nat.reduceLeDiff, reduceIte, ite_true, ite_false, Bool.true_eq_false, Bool.false_eq_true, ↓reduceIte, Nat.zero_add, Nat.add_zero, Nat.sub_zero, id_eq, Bool.or_false, Bool.or_true, Bool.true_or, Bool.false_or, Bool.and_true, Bool.true_and, Bool.and_false, Bool.false_and, Bool.and_self, Bool.or_self, d4, mu, gl, mu2, ad])
  have hz : ∀ i z, zs[i]? = some z → ∃ a d, ys[i]? = some a ∧ d < 2 ∧ a < m ∧ z = a + 2 * d * m := fun i z hi => by
    have li := (List.getElem?_eq_some_iff.mp hi).1
    have ea : ys[i]? = some (ys[i]'(by omega)) := List.getElem?_eq_getElem _
    obtain ⟨d, d1, d2⟩ := z4 i _ _ ea hi
    exact ⟨_, d, ea, d1, List.mem_range.mp (hp.mem_iff.mp (List.mem_of_getElem? ea)), d2⟩
  have nd : zs.Nodup := by
    show List.Pairwise _ _
    rw [List.pairwise_iff_getElem]
    intro i j hi hj hij e
    obtain ⟨a, d, a1, a2, a3, a4⟩ := hz i _ (List.getElem?_eq_getElem hi)
    obtain ⟨b, c, b1, b2, b3, b4⟩ := hz j _ (List.getElem?_eq_getElem hj)
    have nY : ys.Nodup := (hp.nodup_iff).mpr List.nodup_range
    have : a = b := by
      have hd : d = 0 ∨ d = 1 := by omega
      have hc : c = 0 ∨ c = 1 := by omega
      rcases hd with rfl | rfl <;> rcases hc with rfl | rfl <;> omega
    subst this
    have := nd_at nY a1 b1
    omega
  refine ⟨zs, S1, ⟨nd, fun z hz1 => ?_, by omega, by omega⟩, z2.1, ?_⟩
  · obtain ⟨i, hi⟩ := List.mem_iff_getElem?.mp hz1
    obtain ⟨a, d, _, d1, d2, rfl⟩ := hz i z hi
    have hd : d = 0 ∨ d = 1 := by omega
    rcases hd with rfl | rfl <;> omega
  · have it := itO (f := fun a : Nat => mo (some a)) hS
    have sz := sz_of (show ys.length ≤ 10000 by omega)
    have nl : newL false (zs.map fun y : Nat => R.dat (.int (y : Nat))) S1 = .ok (.dat (LI (os zs))) S1 := by
      have := newL_f (fun y : Nat => PyData.int (y : Nat)) zs S1
      unfold LI
      rw [os_map]
      exact this
    unfold t3
    simp only [Pev.fnB, Pev.OutS.toF, Pev.sCons, Pev.sSet, Pev.sRet, Pev.sRetN, Pev.sIf, Pev.sSkip, Pev.sExpr, Pev.sTgt, Pev.sFor, Pev.sRaise, Pev.sPut, Pev.sAugS, Pev.sPar2, Pev.sPar3, Pev.OutS.fade, Pev.OutS.calm, Pev.Out.toS, Pev.Out.bind, Pev.noX, Pev.eVar, Pev.eC, Pev.eBin, Pev.eUn, Pev.eArgs, Pev.aCons, Pev.aNil, Pev.needN, Pev.eAnd, Pev.eOr, Pev.eNot, Pev.eIf, Pev.mAnd, Pev.mOr, Pev.mNot, Pev.mB, Pev.mT, Pev.eChain, Pev.truth, Pev.ofT, Pev.ofB, Pev.R.d?, Pev.eLc, Pev.iOf, Pev.iArgs, Pev.gN, Pev.gTp, Pev.gsCons, Pev.gsNil, Pev.tv, Pev.eBMl, Pev.eFld, Pev.tYes', Pev.wipeR, Pev.permL, List.map_cons, List.map_nil, List.length_cons, List.length_nil, List.cons_append, List.nil_append, List.append_nil, List.replicate, List.getElem?_cons_zero, List.getElem?_cons_succ, List.getElem?_nil, List.set_cons_zero, List.set_cons_succ, List.set_nil, List.filterMap_cons, List.filterMap_nil, Option.map_some, Option.map_none, Option.bind_some, Option.bind_none, if_true, if_false, Bool.not_true, Bool.not_false, Nat.reduceSub, Nat.reduceAdd, Nat.reduceEqDiff, Nat.reduceLeDiff, reduceIte, ite_true, ite_false, Bool.true_eq_false, Bool.false_eq_true, ↓reduceIte, Nat.zero_add, Nat.add_zero, Nat.sub_zero, id_eq, Bool.or_false, Bool.or_true, Bool.true_or, Bool.false_or, Bool.and_true, Bool.true_and, Bool.and_false, Bool.false_and, Bool.and_self, Bool.or_self, it, List.length_map, sz, z1, nl]
theorem t4_ok (h : Tk k S) : ∃ (n kt : Nat) (S' : Sto), n ≤ 3 ∧ kt ≠ k ∧ Tk k S' ∧ S'[kt]? = some (.lst []) ∧ t4 [some (.ro (ns.map .int)), x1, some (.obj k), x3, x4, x5, x6, x7, x8, x9, x10, x11, x12, x13, x14, x15, x16, x17] S = .nx [some (.ro (ns.map .int)), x1, some (.obj k), x3, some (nR n), some (.obj kt), x6, x7, x8, x9, x10, x11, x12, x13, x14, x15, x16, x17] S' := by
  obtain ⟨n, S1, n1, n2, n3, n4⟩ := draw h 4 (by omega) (by omega)
  have n4 : m__law_take [.obj k, .dat (.int 4)] S = .ok (nR n) S1 := n4
  have gg : gLst true [] S1 = .ok (.obj S1.length) (S1 ++ [.lst []]) := rfl
  have := n2.lt
  refine ⟨n, S1.length, S1 ++ [.lst []], by omega, by omega, n2.more _, by rw [List.getElem?_append_right (Nat.le_refl _), Nat.sub_self]; rfl, ?_⟩
  unfold t4
  simp only [Pev.fnB, Pev.OutS.toF, Pev.sCons, Pev.sSet, Pev.sRet, Pev.sRetN, Pev.sIf, Pev.sSkip, Pev.sExpr, Pev.sTgt, Pev.sFor, Pev.sRaise, Pev.sPut, Pev.sAugS, Pev.sPar2, Pev.sPar3, Pev.OutS.fade, Pev.OutS.calm, Pev.Out.toS, Pev.Out.bind, Pev.noX, Pev.eVar, Pev.eC, Pev.eBin, Pev.eUn, Pev.eArgs, Pev.aCons, Pev.aNil, Pev.needN, Pev.eAnd, Pev.eOr, Pev.eNot, Pev.eIf, Pev.mAnd, Pev.mOr, Pev.mNot, Pev.mB, Pev.mT, Pev.eChain, Pev.truth, Pev.ofT, Pev.ofB, Pev.R.d?, Pev.eLc, Pev.iOf, Pev.iArgs, Pev.gN, Pev.gTp, Pev.gsCons, Pev.gsNil, Pev.tv, Pev.eBMl, Pev.eFld, Pev.tYes', Pev.wipeR, Pev.permL, List.map_cons, List.map_nil, List.length_cons, List.length_nil, List.cons_append, List.nil_append, List.append_nil, List.replicate, List.getElem?_cons_zero, List.getElem?_cons_succ, List.getElem?_nil, List.set_cons_zero, List.set_cons_succ, List.set_nil, List.filterMap_cons, List.filterMap_nil, Option.map_some, Option.map_none, Option.bind_some, Option.bind_none, if_true, if_false, Bool.not_true, Bool.not_false, Nat.reduceSub, Nat.reduceAdd, Nat.reduceEqDiff, Nat.reduceLeDiff, reduceIte, ite_true, ite_false, Bool.true_eq_false, Bool.false_eq_true, ↓reduceIte, Nat.zero_add, Nat.add_zero, Nat.sub_zero, id_eq, Bool.or_false, Bool.or_true, Bool.true_or, Bool.false_or, Bool.and_true, Bool.true_and, Bool.and_false, Bool.false_and, Bool.and_self, Bool.or_self, n4, gg]
/-! lots drawn -/
def tD (order : List Nat) (n : Nat) (l : List Nat) : PyData := .tuple [LI (os l), TU (kpt order l n)]
def LotOk (order l : List Nat) : Prop := l.Nodup ∧ ∀ x ∈ l, x ∈ order
/-- some of some -/
theorem some_lc {g0 : Nat} {keepC : Cell} {kc : Nat} (l : List Nat) (h : Tk k S) (hS : S[kc]? = some keepC) (hk : kc ≠ k) {ρ : Rho} (h2 : ∀ x, (ρ.set 17 x)[2]? = some (some (.obj k))) (h17 : ∀ x, (ρ.set 17 x)[17]? = some x) : ∃ (ys : List Nat) (S' : Sto), ys.Sublist l ∧ Tk k S' ∧ S'[kc]? = some keepC ∧ lcLoop [] (gN 17) (mB (eBin (bEq false) (eArgs (needN 2 m__law_take) (aCons (eVar 2) (aCons (eC (.int 2)) aNil))) (eC (.int 0)))) (eVar 17) ρ ((os l).map fun a => R.dat (mo a)) S = .ok ((os ys).map fun a => R.dat (mo a)) S' := by
  obtain ⟨ys, S', e, ⟨p1, p2⟩, p3⟩ := lcT (keep := []) (g := gN 17) (t := (mB (eBin (bEq false) (eArgs (needN 2 m__law_take) (aCons (eVar 2) (aCons (eC (.int 2)) aNil))) (eC (.int 0))))) (elt := eVar 17) (ρ := ρ) (fun S => Tk k S ∧ S[kc]? = some keepC) (fun a : Nat => R.dat (mo (some a))) (fun _ _ => stands_nil) l S ⟨h, hS⟩ (by
    rintro a ha S ⟨h1, hc⟩
    obtain ⟨d, S2, d1, d2, d3, d4⟩ := draw h1 2 (by omega) (by omega)
    have d4 : m__law_take [.obj k, .dat (.int 2)] S = .ok (nR d) S2 := d4
    have eq : bEq false (nR d) (.dat (.int 0)) S2 = .ok (.dat (.bool (decide ((d : Int) = 0)))) S2 := by
      unfold nR
      rw [eq_ints, if_neg (by simp)]
    have g2 := h2 (some (.dat (mo (some a))))
    have g17 := h17 (some (.dat (mo (some a))))
    refine ⟨ρ.set 17 (some (.dat (mo (some a)))), decide ((d : Int) = 0), S2, rfl, ?_, ⟨d2, d3.two.cell hc hk⟩, ?_⟩
    · generalize ρ.set 17 (some (.dat (mo (some a)))) = ρ2 at g2 g17
      unfold nR at *
      simp only [Pev.fnB, Pev.OutS.toF, Pev.sCons, Pev.sSet, Pev.sRet, Pev.sRetN, Pev.sIf, Pev.sSkip, Pev.sExpr, Pev.sTgt, Pev.sFor, Pev.sRaise, Pev.sPut, Pev.sAugS, Pev.sPar2, Pev.sPar3, Pev.OutS.fade, Pev.OutS.calm, Pev.Out.toS, Pev.Out.bind, Pev.noX, Pev.eVar, Pev.eC, Pev.eBin, Pev.eUn, Pev.eArgs, Pev.aCons, Pev.aNil, Pev.needN, Pev.eAnd, Pev.eOr, Pev.eNot, Pev.eIf, Pev.mAnd, Pev.mOr, Pev.mNot, Pev.mB, Pev.mT, Pev.eChain, Pev.truth, Pev.ofT, Pev.ofB, Pev.R.d?, Pev.eLc, Pev.iOf, Pev.iArgs, Pev.gN, Pev.gTp, Pev.gsCons, Pev.gsNil, Pev.tv, Pev.eBMl, Pev.eFld, Pev.tYes', Pev.wipeR, Pev.permL, List.map_cons, List.map_nil, List.length_cons, List.length_nil, List.cons_append, List.nil_append, List.append_nil, List.replicate, List.getElem?_cons_zero, List.getElem?_cons_succ, List.getElem?_nil, List.set_cons_zero, List.set_cons_succ, List.set_nil, List.filterMap_cons, List.filterMap_nil, Option.map_some, Option.map_none, Option.bind_some, Option.bind_none, if_true, if_false, Bool.not_true, Bool.not_false, Nat.reduceSub, Nat.reduceAdd, Nat.reduceEqDiff, Nat.reduceLeDiff, reduceIte, ite_true, ite_false, Bool.true_eq_false, Bool.false_eq_true, ↓reduceIte, Nat.zero_add, Nat.add_zero, Nat.sub_zero, id_eq, Bool.or_false, Bool.or_true, Bool.true_or, Bool.false_or, Bool.and_true, Bool.true_and, Bool.and_false, Bool.false_and, Bool.and_self, Bool.or_self, g2, d4, eq]
    · generalize ρ.set 17 (some (.dat (mo (some a)))) = ρ2 at g2 g17
      simp only [Pev.fnB, Pev.OutS.toF, Pev.sCons, Pev.sSet, Pev.sRet, Pev.sRetN, Pev.sIf, Pev.sSkip, Pev.sExpr, Pev.sTgt, Pev.sFor, Pev.sRaise, Pev.sPut, Pev.sAugS, Pev.sPar2, Pev.sPar3, Pev.OutS.fade, Pev.OutS.calm, Pev.Out.toS, Pev.Out.bind, Pev.noX, Pev.eVar, Pev.eC, Pev.eBin, Pev.eUn, Pev.eArgs, Pev.aCons, Pev.aNil, Pev.needN, Pev.eAnd, Pev.eOr, Pev.eNot, Pev.eIf, Pev.mAnd, Pev.mOr, Pev.mNot, Pev.mB, Pev.mT, Pev.eChain, Pev.truth, Pev.ofT, Pev.ofB, Pev.R.d?, Pev.eLc, Pev.iOf, Pev.iArgs, Pev.gN, Pev.gTp, Pev.gsCons, Pev.gsNil, Pev.tv, Pev.eBMl, Pev.eFld, Pev.tYes', Pev.wipeR, Pev.permL, List.map_cons, List.map_nil, List.length_cons, List.length_nil, List.cons_append, List.nil_append, List.append_nil, List.replicate, List.getElem?_cons_zero, List.getElem?_cons_succ, List.getElem?_nil, List.set_cons_zero, List.set_cons_succ, List.set_nil, List.filterMap_cons, List.filterMap_nil, Option.map_some, Option.map_none, Option.bind_some, Option.bind_none, if_true, if_false, Bool.not_true, Bool.not_false, Nat.reduceSub, Nat.reduceAdd, Nat.reduceEqDiff, Nat.reduceLeDiff, reduceIte, ite_true, ite_false, Bool.true_eq_false, Bool.false_eq_true, ↓reduceIte, Nat.zero_add, Nat.add_zero, Nat.sub_zero, id_eq, Bool.or_false, Bool.or_true, Bool.true_or, Bool.false_or, Bool.and_true, Bool.true_and, Bool.and_false, Bool.false_and, Bool.and_self, Bool.or_self, g17])
  refine ⟨ys, S', p3, p1, p2, ?_⟩
  have e0 : ∀ l : List Nat, ((os l).map fun a => R.dat (mo a)) = l.map fun a : Nat => R.dat (mo (some a)) := fun l => by unfold os; rw [List.map_map]; rfl
  rw [e0, e0]
  exact e
theorem lot_ok {told : List (List Nat)} (h : Tk k S) (hO : Ord order) (hn : n ≤ 3) (hk : kt ≠ k) (hS : S[kt]? = some (.lst (told.map fun l => R.dat (tD order n l)))) (lt : told.length ≤ 50) : ∃ (l : List Nat) (S' : Sto) (y7 y8 y9 y10 : Option R), LotOk order l ∧ Tk k S' ∧ S'[kt]? = some (.lst ((told ++ [l]).map fun l => R.dat (tD order n l))) ∧ b_lot [some (.ro (ns.map .int)), x1, some (.obj k), some (.dat (LI (os order))), some (nR n), some (.obj kt), x6, x7, x8, x9, x10, x11, x12, x13, x14, x15, x16, x17] S = .nx [some (.ro (ns.map .int)), x1, some (.obj k), some (.dat (LI (os order))), some (nR n), some (.obj kt), x6, y7, y8, y9, y10, x11, x12, x13, x14, x15, x16, x17] S' := by
  obtain ⟨o1, o2, o3, o4⟩ := hO
  have ol : (os order).length = order.length := os_len order
  obtain ⟨ys, S1, y1, y2, y3, y4⟩ := some_lc (kc := kt) (g0 := 0) order h hS hk (ρ := [some (.ro (ns.map .int)), x1, some (.obj k), some (.dat (LI (os order))), some (nR n), some (.obj kt), x6, x7, x8, x9, x10, x11, x12, x13, x14, x15, x16, none]) (fun _ => rfl) (fun _ => rfl)
  have ly := y1.length_le
  obtain ⟨l, S2, p1, p2, p3, p4, p5⟩ := mixed_sq false ys (by omega) y2
  have p5 : m__law_mixed [.obj k, .dat (LI (os ys))] S1 = _ := p5
  have c2 := p3.cell y3 hk
  have kl := (List.getElem?_eq_some_iff.mp y3).1
  have nl : l.Nodup := (p1.nodup_iff).mpr (y1.nodup o1)
  have sl : ∀ x ∈ l, x ∈ order := fun x hx => y1.subset (p1.mem_iff.mp hx)
  have ll : l.length ≤ 6 := by have := p1.length_eq; omega
  have e1 : v1 [some (.ro (ns.map .int)), x1, some (.obj k), some (.dat (LI (os order))), some (nR n), some (.obj kt), x6, x7, x8, x9, x10, x11, x12, x13, x14, x15, x16, x17] S = .nx [some (.ro (ns.map .int)), x1, some (.obj k), some (.dat (LI (os order))), some (nR n), some (.obj kt), x6, some (.obj (S1.length + 1)), x8, x9, x10, x11, x12, x13, x14, x15, x16, x17] S2 := by
    have it : itOf (.dat (LI (os order))) S = _ := it_sq false (os order) S
    have sz := sz_of (show (os order).length ≤ 10000 by omega)
    have nlx := nl_mo (os ys) S1
    unfold v1
    simp only [Pev.fnB, Pev.OutS.toF, Pev.sCons, Pev.sSet, Pev.sRet, Pev.sRetN, Pev.sIf, Pev.sSkip, Pev.sExpr, Pev.sTgt, Pev.sFor, Pev.sRaise, Pev.sPut, Pev.sAugS, Pev.sPar2, Pev.sPar3, Pev.OutS.fade, Pev.OutS.calm, Pev.Out.toS, Pev.Out.bind, Pev.noX, Pev.eVar, Pev.eC, Pev.eBin, Pev.eUn, Pev.eArgs, Pev.aCons, Pev.aNil, Pev.needN, Pev.eAnd, Pev.eOr, Pev.eNot, Pev.eIf, Pev.mAnd, Pev.mOr, Pev.mNot, Pev.mB, Pev.mT, Pev.eChain, Pev.truth, Pev.ofT, Pev.ofB, Pev.R.d?, Pev.eLc, Pev.iOf, Pev.iArgs, Pev.gN, Pev.gTp, Pev.gsCons, Pev.gsNil, Pev.tv, Pev.eBMl, Pev.eFld, Pev.tYes', Pev.wipeR, Pev.permL, List.map_cons, List.map_nil, List.length_cons, List.length_nil, List.cons_append, List.nil_append, List.append_nil, List.replicate, List.getElem?_cons_zero, List.getElem?_cons_succ, List.getElem?_nil, List.set_cons_zero, List.set_cons_succ, List.set_nil, List.filterMap_cons, List.filterMap_nil, Option.map_some, Option.map_none, Option.bind_some, Option.bind_none, if_true, if_false, Bool.not_true, Bool.not_false, Nat.reduceSub, Nat.reduceAdd, Nat.reduceEqDiff, Nat.reduceLeDiff, reduceIte, ite_true, ite_false, Bool.true_eq_false, Bool.false_eq_true, ↓reduceIte, Nat.zero_add, Nat.add_zero, Nat.sub_zero, id_eq, Bool.or_false, Bool.or_true, Bool.true_or, Bool.false_or, Bool.and_true, Bool.true_and, Bool.and_false, Bool.false_and, Bool.and_self, Bool.or_self, it, List.length_map, sz, y4, nlx, p5]
  have gl1 := listO p4
  have gl2 : gList false [.dat (LI (os order))] S2 = _ := gl_sq false (os order) S2
  have e2 : v2 [some (.ro (ns.map .int)), x1, some (.obj k), some (.dat (LI (os order))), some (nR n), some (.obj kt), x6, some (.obj (S1.length + 1)), x8, x9, x10, x11, x12, x13, x14, x15, x16, x17] S2 = .nx [some (.ro (ns.map .int)), x1, some (.obj k), some (.dat (LI (os order))), some (nR n), some (.obj kt), x6, some (.obj (S1.length + 1)), some (.dat (LI (os l))), some (.dat (LI (os order))), x10, x11, x12, x13, x14, x15, x16, x17] S2 := by
    unfold v2
    simp only [Pev.fnB, Pev.OutS.toF, Pev.sCons, Pev.sSet, Pev.sRet, Pev.sRetN, Pev.sIf, Pev.sSkip, Pev.sExpr, Pev.sTgt, Pev.sFor, Pev.sRaise, Pev.sPut, Pev.sAugS, Pev.sPar2, Pev.sPar3, Pev.OutS.fade, Pev.OutS.calm, Pev.Out.toS, Pev.Out.bind, Pev.noX, Pev.eVar, Pev.eC, Pev.eBin, Pev.eUn, Pev.eArgs, Pev.aCons, Pev.aNil, Pev.needN, Pev.eAnd, Pev.eOr, Pev.eNot, Pev.eIf, Pev.mAnd, Pev.mOr, Pev.mNot, Pev.mB, Pev.mT, Pev.eChain, Pev.truth, Pev.ofT, Pev.ofB, Pev.R.d?, Pev.eLc, Pev.iOf, Pev.iArgs, Pev.gN, Pev.gTp, Pev.gsCons, Pev.gsNil, Pev.tv, Pev.eBMl, Pev.eFld, Pev.tYes', Pev.wipeR, Pev.permL, List.map_cons, List.map_nil, List.length_cons, List.length_nil, List.cons_append, List.nil_append, List.append_nil, List.replicate, List.getElem?_cons_zero, List.getElem?_cons_succ, List.getElem?_nil, List.set_cons_zero, List.set_cons_succ, List.set_nil, List.filterMap_cons, List.filterMap_nil, Option.map_some, Option.map_none, Option.bind_some, Option.bind_none, if_true, if_false, Bool.not_true, Bool.not_false, Nat.reduceSub, Nat.reduceAdd, Nat.reduceEqDiff, Nat.reduceLeDiff, reduceIte, ite_true, ite_false, Bool.true_eq_false, Bool.false_eq_true, ↓reduceIte, Nat.zero_add, Nat.add_zero, Nat.sub_zero, id_eq, Bool.or_false, Bool.or_true, Bool.true_or, Bool.false_or, Bool.and_true, Bool.true_and, Bool.and_false, Bool.false_and, Bool.and_self, Bool.or_self, gl1, gl2]
  have fk : pureF m_first_marks [.dat (LI (os order)), .dat (LI (os l)), .dat (.int (n : Nat))] S2 = _ := three_call (first_ok (n := n) false false o1 nl (by omega) (by omega) sl) S2
  have e3 : v3 [some (.ro (ns.map .int)), x1, some (.obj k), some (.dat (LI (os order))), some (nR n), some (.obj kt), x6, some (.obj (S1.length + 1)), some (.dat (LI (os l))), some (.dat (LI (os order))), x10, x11, x12, x13, x14, x15, x16, x17] S2 = .nx [some (.ro (ns.map .int)), x1, some (.obj k), some (.dat (LI (os order))), some (nR n), some (.obj kt), x6, some (.obj (S1.length + 1)), some (.dat (LI (os l))), some (.dat (LI (os order))), some (.dat (TU (kpt order l n))), x11, x12, x13, x14, x15, x16, x17] S2 := by
    unfold v3
    unfold nR at *
    simp only [Pev.fnB, Pev.OutS.toF, Pev.sCons, Pev.sSet, Pev.sRet, Pev.sRetN, Pev.sIf, Pev.sSkip, Pev.sExpr, Pev.sTgt, Pev.sFor, Pev.sRaise, Pev.sPut, Pev.sAugS, Pev.sPar2, Pev.sPar3, Pev.OutS.fade, Pev.OutS.calm, Pev.Out.toS, Pev.Out.bind, Pev.noX, Pev.eVar, Pev.eC, Pev.eBin, Pev.eUn, Pev.eArgs, Pev.aCons, Pev.aNil, Pev.needN, Pev.eAnd, Pev.eOr, Pev.eNot, Pev.eIf, Pev.mAnd, Pev.mOr, Pev.mNot, Pev.mB, Pev.mT, Pev.eChain, Pev.truth, Pev.ofT, Pev.ofB, Pev.R.d?, Pev.eLc, Pev.iOf, Pev.iArgs, Pev.gN, Pev.gTp, Pev.gsCons, Pev.gsNil, Pev.tv, Pev.eBMl, Pev.eFld, Pev.tYes', Pev.wipeR, Pev.permL, List.map_cons, List.map_nil, List.length_cons, List.length_nil, List.cons_append, List.nil_append, List.append_nil, List.replicate, List.getElem?_cons_zero, List.getElem?_cons_succ, List.getElem?_nil, List.set_cons_zero, List.set_cons_succ, List.set_nil, List.filterMap_cons, List.filterMap_nil, Option.map_some, Option.map_none, Option.bind_some, Option.bind_none, if_true, if_false, Bool.not_true, Bool.not_false, Nat.reduceSub, Nat.reduceAdd, Nat.reduceEqDiff, Nat.reduceLeDiff, reduceIte, ite_true, ite_false, Bool.true_eq_false, Bool.false_eq_true, ↓reduceIte, Nat.zero_add, Nat.add_zero, Nat.sub_zero, id_eq, Bool.or_false, Bool.or_true, Bool.true_or, Bool.false_or, Bool.and_true, Bool.true_and, Bool.and_false, Bool.false_and, Bool.and_self, Bool.or_self, fk]
  have lkp : pureF m__law_kept [.dat (LI (os order)), .obj (S1.length + 1), .dat (.int (n : Nat))] S2 = .ok (.dat (TU (kpt order l n))) S2 := pure_gives (lawkept_ok (order := order) (lot := l) (n := n) false false (by omega) (by omega)) (by
    rw [List.mapM_cons, List.mapM_cons, List.mapM_cons, snap_dat, snap_dat, show snap S2 depS (.obj (S1.length + 1)) = some (LI (os l)) from snap_mo p4]
    rfl) (by rw [free_TU]; exact Bool.or_true _)
  have s1 : bEq true (.dat (TU (kpt order l n))) (.dat (TU (kpt order l n))) S2 = .ok (.dat (.bool false)) S2 := beq_same (TU_fit _)
  have s2 : bEq true (.dat (LI (os l))) (.obj (S1.length + 1)) S2 = .ok (.dat (.bool false)) S2 := beq_cellsame snap_dat (snap_mo p4) (LI_fit _)
  have s3 : bEq true (.dat (LI (os order))) (.dat (LI (os order))) S2 = .ok (.dat (.bool false)) S2 := beq_same (LI_fit _)
  have e4 : v4 [some (.ro (ns.map .int)), x1, some (.obj k), some (.dat (LI (os order))), some (nR n), some (.obj kt), x6, some (.obj (S1.length + 1)), some (.dat (LI (os l))), some (.dat (LI (os order))), some (.dat (TU (kpt order l n))), x11, x12, x13, x14, x15, x16, x17] S2 = .nx [some (.ro (ns.map .int)), x1, some (.obj k), some (.dat (LI (os order))), some (nR n), some (.obj kt), x6, some (.obj (S1.length + 1)), some (.dat (LI (os l))), some (.dat (LI (os order))), some (.dat (TU (kpt order l n))), x11, x12, x13, x14, x15, x16, x17] S2 := by
    unfold v4
    unfold nR at *
    simp only [Pev.fnB, Pev.OutS.toF, Pev.sCons, Pev.sSet, Pev.sRet, Pev.sRetN, Pev.sIf, Pev.sSkip, Pev.sExpr, Pev.sTgt, Pev.sFor, Pev.sRaise, Pev.sPut, Pev.sAugS, Pev.sPar2, Pev.sPar3, Pev.OutS.fade, Pev.OutS.calm, Pev.Out.toS, Pev.Out.bind, Pev.noX, Pev.eVar, Pev.eC, Pev.eBin, Pev.eUn, Pev.eArgs, Pev.aCons, Pev.aNil, Pev.needN, Pev.eAnd, Pev.eOr, Pev.eNot, Pev.eIf, Pev.mAnd, Pev.mOr, Pev.mNot, Pev.mB, Pev.mT, Pev.eChain, Pev.truth, Pev.ofT, Pev.ofB, Pev.R.d?, Pev.eLc, Pev.iOf, Pev.iArgs, Pev.gN, Pev.gTp, Pev.gsCons, Pev.gsNil, Pev.tv, Pev.eBMl, Pev.eFld, Pev.tYes', Pev.wipeR, Pev.permL, List.map_cons, List.map_nil, List.length_cons, List.length_nil, List.cons_append, List.nil_append, List.append_nil, List.replicate, List.getElem?_cons_zero, List.getElem?_cons_succ, List.getElem?_nil, List.set_cons_zero, List.set_cons_succ, List.set_nil, List.filterMap_cons, List.filterMap_nil, Option.map_some, Option.map_none, Option.bind_some, Option.bind_none, if_true, if_false, Bool.not_true, Bool.not_false, Nat.reduceSub, Nat.reduceAdd, Nat.reduceEqDiff, Nat.reduceLeDiff, reduceIte, ite_true, ite_false, Bool.true_eq_false, Bool.false_eq_true, ↓reduceIte, Nat.zero_add, Nat.add_zero, Nat.sub_zero, id_eq, Bool.or_false, Bool.or_true, Bool.true_or, Bool.false_or, Bool.and_true, Bool.true_and, Bool.and_false, Bool.false_and, Bool.and_self, Bool.or_self, lkp, s1, s2, s3]
  have fz := frz (k := kpt order l n) p4
  have me : (eArgs gTupG (aCons (eVar 7) (aCons (eVar 10) aNil))) [some (.ro (ns.map .int)), x1, some (.obj k), some (.dat (LI (os order))), some (nR n), some (.obj kt), x6, some (.obj (S1.length + 1)), some (.dat (LI (os l))), some (.dat (LI (os order))), some (.dat (TU (kpt order l n))), x11, x12, x13, x14, x15, x16, x17] S2 = .ok (.dat (tD order n l)) (S2.set (S1.length + 1) .dead) := by
    simp only [Pev.fnB, Pev.OutS.toF, Pev.sCons, Pev.sSet, Pev.sRet, Pev.sRetN, Pev.sIf, Pev.sSkip, Pev.sExpr, Pev.sTgt, Pev.sFor, Pev.sRaise, Pev.sPut, Pev.sAugS, Pev.sPar2, Pev.sPar3, Pev.OutS.fade, Pev.OutS.calm, Pev.Out.toS, Pev.Out.bind, Pev.noX, Pev.eVar, Pev.eC, Pev.eBin, Pev.eUn, Pev.eArgs, Pev.aCons, Pev.aNil, Pev.needN, Pev.eAnd, Pev.eOr, Pev.eNot, Pev.eIf, Pev.mAnd, Pev.mOr, Pev.mNot, Pev.mB, Pev.mT, Pev.eChain, Pev.truth, Pev.ofT, Pev.ofB, Pev.R.d?, Pev.eLc, Pev.iOf, Pev.iArgs, Pev.gN, Pev.gTp, Pev.gsCons, Pev.gsNil, Pev.tv, Pev.eBMl, Pev.eFld, Pev.tYes', Pev.wipeR, Pev.permL, List.map_cons, List.map_nil, List.length_cons, List.length_nil, List.cons_append, List.nil_append, List.append_nil, List.replicate, List.getElem?_cons_zero, List.getElem?_cons_succ, List.getElem?_nil, List.set_cons_zero, List.set_cons_succ, List.set_nil, List.filterMap_cons, List.filterMap_nil, Option.map_some, Option.map_none, Option.bind_some, Option.bind_none, if_true, if_false, Bool.not_true, Bool.not_false, Nat.reduceSub, Nat.reduceAdd, Nat.reduceEqDiff, Nat.reduceLeDiff, reduceIte, ite_true, ite_false, Bool.true_eq_false, Bool.false_eq_true, ↓reduceIte, Nat.zero_add, Nat.add_zero, Nat.sub_zero, id_eq, Bool.or_false, Bool.or_true, Bool.true_or, Bool.false_or, Bool.and_true, Bool.true_and, Bool.and_false, Bool.false_and, Bool.and_self, Bool.or_self, fz]
    rfl
  have e5 : v5 [some (.ro (ns.map .int)), x1, some (.obj k), some (.dat (LI (os order))), some (nR n), some (.obj kt), x6, some (.obj (S1.length + 1)), some (.dat (LI (os l))), some (.dat (LI (os order))), some (.dat (TU (kpt order l n))), x11, x12, x13, x14, x15, x16, x17] S2 = .nx [some (.ro (ns.map .int)), x1, some (.obj k), some (.dat (LI (os order))), some (nR n), some (.obj kt), x6, some (.obj (S1.length + 1)), some (.dat (LI (os l))), some (.dat (LI (os order))), some (.dat (TU (kpt order l n))), x11, x12, x13, x14, x15, x16, x17] ((S2.set (S1.length + 1) .dead).set kt (.lst ((told.map fun l => R.dat (tD order n l)) ++ [.dat (tD order n l)]))) := appO2 (mo := eVar 5) rfl c2 me (dead_ne c2 (by omega)) (by rw [List.length_map]; omega)
  have kk := y2.lt
  refine ⟨l, _, _, _, _, _, ⟨nl, sl⟩, (p2.ne _ (by omega)).ne _ hk, ?_, (congrFun (congrFun b_lot_eq _) _).trans ((cons_nx e1).trans ((cons_nx e2).trans ((cons_nx e3).trans ((cons_nx e4).trans e5))))⟩
  rw [set_at (by rw [List.length_set]; exact (List.getElem?_eq_some_iff.mp c2).1), List.map_append]
  rfl
theorem t5_ok (h : Tk k S) (hO : Ord order) (hn : n ≤ 3) (hk : kt ≠ k) (hS : S[kt]? = some (.lst [])) : ∃ (told : List (List Nat)) (S' : Sto) (y6 y7 y8 y9 y10 : Option R), (∀ l ∈ told, LotOk order l) ∧ told.length ≤ 4 ∧ Tk k S' ∧ S'[kt]? = some (.lst (told.map fun l => R.dat (tD order n l))) ∧ t5 [some (.ro (ns.map .int)), x1, some (.obj k), some (.dat (LI (os order))), some (nR n), some (.obj kt), x6, x7, x8, x9, x10, x11, x12, x13, x14, x15, x16, x17] S = .nx [some (.ro (ns.map .int)), x1, some (.obj k), some (.dat (LI (os order))), some (nR n), some (.obj kt), y6, y7, y8, y9, y10, x11, x12, x13, x14, x15, x16, x17] S' := by
  obtain ⟨ρ', S', e, told, y6, y7, y8, y9, y10, rfl, h1, h2, h3, h4⟩ := for_nx (keep := []) (g := gN 6) (b := b_lot) (fun i ρ S => ∃ (told : List (List Nat)) (y6 y7 y8 y9 y10 : Option R), ρ = [some (.ro (ns.map .int)), x1, some (.obj k), some (.dat (LI (os order))), some (nR n), some (.obj kt), y6, y7, y8, y9, y10, x11, x12, x13, x14, x15, x16, x17] ∧ (∀ l ∈ told, LotOk order l) ∧ told.length = i ∧ Tk k S ∧ S[kt]? = some (.lst (told.map fun l => R.dat (tD order n l)))) ((List.range 4).map fun j : Nat => R.dat (.int (j : Nat))) (ρ := [some (.ro (ns.map .int)), x1, some (.obj k), some (.dat (LI (os order))), some (nR n), some (.obj kt), x6, x7, x8, x9, x10, x11, x12, x13, x14, x15, x16, x17]) (S := S) ⟨[], x6, x7, x8, x9, x10, rfl, fun l hl => absurd hl List.not_mem_nil, rfl, h, hS⟩ (fun _ _ _ _ _ => stands_nil) (by
    rintro i q ρ S hq ⟨told, y6, y7, y8, y9, y10, rfl, h1, h2, h3, h4⟩
    have hi := (List.getElem?_eq_some_iff.mp hq).1
    rw [List.length_map, List.length_range] at hi
    rw [List.getElem?_map, List.getElem?_range hi] at hq
    have := Option.some.inj hq
    subst this
    obtain ⟨l, S2, z7, z8, z9, z10, l1, l2, l3, l4⟩ := lot_ok (ns := ns) (x1 := x1) (x6 := some (.dat (.int (i : Nat)))) (x7 := y7) (x8 := y8) (x9 := y9) (x10 := y10) (x11 := x11) (x12 := x12) (x13 := x13) (x14 := x14) (x15 := x15) (x16 := x16) (x17 := x17) h3 hO hn hk h4 (by omega)
    exact ⟨_, rfl, _, _, l4, told ++ [l], _, _, _, _, _, rfl, fun l' hl' => by
      rcases List.mem_append.mp hl' with hl' | hl'
      · exact h1 l' hl'
      · rw [List.mem_singleton.mp hl']; exact l1, by rw [List.length_append, h2]; rfl, l2, l3⟩)
  rw [List.length_map, List.length_range] at h2
  have gr : gRange1 [.dat (.int 4)] S = .ok ⟨(List.range 4).map fun j : Nat => R.dat (.int (j : Nat)), []⟩ S := gr1 4 (by omega) S
  have e5 : t5 [some (.ro (ns.map .int)), x1, some (.obj k), some (.dat (LI (os order))), some (nR n), some (.obj kt), x6, x7, x8, x9, x10, x11, x12, x13, x14, x15, x16, x17] S = .nx [some (.ro (ns.map .int)), x1, some (.obj k), some (.dat (LI (os order))), some (nR n), some (.obj kt), y6, y7, y8, y9, y10, x11, x12, x13, x14, x15, x16, x17] S' := by
    show sFor _ (gN 6) b_lot [some (.ro (ns.map .int)), x1, some (.obj k), some (.dat (LI (os order))), some (nR n), some (.obj kt), x6, x7, x8, x9, x10, x11, x12, x13, x14, x15, x16, x17] S = _
    unfold sFor
    rw [show iArgs gRange1 (aCons (eC (.int 4)) aNil) [some (.ro (ns.map .int)), x1, some (.obj k), some (.dat (LI (os order))), some (nR n), some (.obj kt), x6, x7, x8, x9, x10, x11, x12, x13, x14, x15, x16, x17] S = _ from gr]
    exact e
  exact ⟨told, S', y6, y7, y8, y9, y10, h1, by omega, h3, h4, e5⟩
/-! lots that are near share a kept mark -/
def shB : SM := (sIf (mAnd (mB (eBin bLe (eArgs (needN 2 (pureF m__law_apart)) (aCons (eVar 7) (aCons (eVar 11) aNil))) (eVar 4))) (mNot (mT (eArgs (needN 2 (pureF m__law_common)) (aCons (eVar 10) (aCons (eVar 12) aNil)))))) (sRet (eC (.bool false))) sSkip)
def shF : SM := (sFor (iOf (eVar 5)) (gTp 2 (gsCons (gN 11) (gsCons (gN 12) gsNil))) shB)
theorem t6_eq : t6 = sFor (iOf (eVar 5)) (gTp 2 (gsCons (gN 7) (gsCons (gN 10) gsNil))) shF := rfl
theorem kof_len (r : List Nat) (n : Nat) : (kof r n).length ≤ r.length + 1 := by
  unfold kof
  rw [List.length_append, os_len, List.length_take]
  split <;> simp <;> omega
theorem shB_ok {a b : List Nat} (hO : Ord order) (ha : LotOk order a) (hb : LotOk order b) : shB [some (.ro (ns.map .int)), x1, x2, x3, some (nR n), x5, x6, some (.dat (LI (os a))), x8, x9, some (.dat (TU (kpt order a n))), some (.dat (LI (os b))), some (.dat (TU (kpt order b n))), x13, x14, x15, x16, x17] S = .nx [some (.ro (ns.map .int)), x1, x2, x3, some (nR n), x5, x6, some (.dat (LI (os a))), x8, x9, some (.dat (TU (kpt order a n))), some (.dat (LI (os b))), some (.dat (TU (kpt order b n))), x13, x14, x15, x16, x17] S := by
  obtain ⟨o1, o2, o3, o4⟩ := hO
  have la : a.length ≤ 6 := by
    have := (flt_perm o1 ha.1 ha.2).length_eq
    have : (flt order a).length ≤ order.length := List.length_filter_le _ _
    omega
  have lb : b.length ≤ 6 := by
    have := (flt_perm o1 hb.1 hb.2).length_eq
    have : (flt order b).length ≤ order.length := List.length_filter_le _ _
    omega
  have lf : (flt order a).length ≤ order.length := List.length_filter_le _ _
  have lk := kof_len (flt order a) n
  have ap : pureF m__law_apart [.dat (LI (os a)), .dat (LI (os b))] S = _ := two_call (lawapart_ok false false (by rw [os_len]; omega) (by rw [os_len]; omega)) S
  have le := le_ii (apart (os a) (os b) : Nat) (n : Int) S
  have cm : pureF m__law_common [.dat (TU (kpt order a n)), .dat (TU (kpt order b n))] S = _ := two_call (com_ok (b := kpt order b n) true true (show (kpt order a n).length ≤ 60 by unfold kpt; omega)) S
  have t1 : (mB (eBin bLe (eArgs (needN 2 (pureF m__law_apart)) (aCons (eVar 7) (aCons (eVar 11) aNil))) (eVar 4))) [some (.ro (ns.map .int)), x1, x2, x3, some (nR n), x5, x6, some (.dat (LI (os a))), x8, x9, some (.dat (TU (kpt order a n))), some (.dat (LI (os b))), some (.dat (TU (kpt order b n))), x13, x14, x15, x16, x17] S = .ok (decide (((apart (os a) (os b) : Nat) : Int) ≤ n)) S := by
    unfold nR
    simp only [Pev.fnB, Pev.OutS.toF, Pev.sCons, Pev.sSet, Pev.sRet, Pev.sRetN, Pev.sIf, Pev.sSkip, Pev.sExpr, Pev.sTgt, Pev.sFor, Pev.sRaise, Pev.sPut, Pev.sAugS, Pev.sPar2, Pev.sPar3, Pev.OutS.fade, Pev.OutS.calm, Pev.Out.toS, Pev.Out.bind, Pev.noX, Pev.eVar, Pev.eC, Pev.eBin, Pev.eUn, Pev.eArgs, Pev.aCons, Pev.aNil, Pev.needN, Pev.eAnd, Pev.eOr, Pev.eNot, Pev.eIf, Pev.mAnd, Pev.mOr, Pev.mNot, Pev.mB, Pev.mT, Pev.eChain, Pev.truth, Pev.ofT, Pev.ofB, Pev.R.d?, Pev.eLc, Pev.iOf, Pev.iArgs, Pev.gN, Pev.gTp, Pev.gsCons, Pev.gsNil, Pev.tv, Pev.eBMl, Pev.eFld, Pev.tYes', Pev.wipeR, Pev.permL, List.map_cons, List.map_nil, List.length_cons, List.length_nil, List.cons_append, List.nil_append, List.append_nil, List.replicate, List.getElem?_cons_zero, List.getElem?_cons_succ, List.getElem?_nil, List.set_cons_zero, List.set_cons_succ, List.set_nil, List.filterMap_cons, List.filterMap_nil, Option.map_some, Option.map_none, Option.bind_some, Option.bind_none, if_true, if_false, Bool.not_true, Bool.not_false, Nat.reduceSub, Nat.reduceAdd, Nat.reduceEqDiff, Nat.reduceLeDiff, reduceIte, ite_true, ite_false, Bool.true_eq_false, Bool.false_eq_true, ↓reduceIte, Nat.zero_add, Nat.add_zero, Nat.sub_zero, id_eq, Bool.or_false, Bool.or_true, Bool.true_or, Bool.false_or, Bool.and_true, Bool.true_and, Bool.and_false, Bool.false_and, Bool.and_self, Bool.or_self, ap, le]
  have t2 : (mNot (mT (eArgs (needN 2 (pureF m__law_common)) (aCons (eVar 10) (aCons (eVar 12) aNil))))) [some (.ro (ns.map .int)), x1, x2, x3, some (nR n), x5, x6, some (.dat (LI (os a))), x8, x9, some (.dat (TU (kpt order a n))), some (.dat (LI (os b))), some (.dat (TU (kpt order b n))), x13, x14, x15, x16, x17] S = .ok (!com (kpt order a n) (kpt order b n)) S := by
    simp only [Pev.fnB, Pev.OutS.toF, Pev.sCons, Pev.sSet, Pev.sRet, Pev.sRetN, Pev.sIf, Pev.sSkip, Pev.sExpr, Pev.sTgt, Pev.sFor, Pev.sRaise, Pev.sPut, Pev.sAugS, Pev.sPar2, Pev.sPar3, Pev.OutS.fade, Pev.OutS.calm, Pev.Out.toS, Pev.Out.bind, Pev.noX, Pev.eVar, Pev.eC, Pev.eBin, Pev.eUn, Pev.eArgs, Pev.aCons, Pev.aNil, Pev.needN, Pev.eAnd, Pev.eOr, Pev.eNot, Pev.eIf, Pev.mAnd, Pev.mOr, Pev.mNot, Pev.mB, Pev.mT, Pev.eChain, Pev.truth, Pev.ofT, Pev.ofB, Pev.R.d?, Pev.eLc, Pev.iOf, Pev.iArgs, Pev.gN, Pev.gTp, Pev.gsCons, Pev.gsNil, Pev.tv, Pev.eBMl, Pev.eFld, Pev.tYes', Pev.wipeR, Pev.permL, List.map_cons, List.map_nil, List.length_cons, List.length_nil, List.cons_append, List.nil_append, List.append_nil, List.replicate, List.getElem?_cons_zero, List.getElem?_cons_succ, List.getElem?_nil, List.set_cons_zero, List.set_cons_succ, List.set_nil, List.filterMap_cons, List.filterMap_nil, Option.map_some, Option.map_none, Option.bind_some, Option.bind_none, if_true, if_false, Bool.not_true, Bool.not_false, Nat.reduceSub, Nat.reduceAdd, Nat.reduceEqDiff, Nat.reduceLeDiff, reduceIte, ite_true, ite_false, Bool.true_eq_false, Bool.false_eq_true, ↓reduceIte, Nat.zero_add, Nat.add_zero, Nat.sub_zero, id_eq, Bool.or_false, Bool.or_true, Bool.true_or, Bool.false_or, Bool.and_true, Bool.true_and, Bool.and_false, Bool.false_and, Bool.and_self, Bool.or_self, cm]
  have t := mAnd_ok t1 t2
  have f : (decide (((apart (os a) (os b) : Nat) : Int) ≤ n) && !com (kpt order a n) (kpt order b n)) = false := by
    by_cases q : apart (os a) (os b) ≤ n
    · rw [share o1 ha.1 hb.1 ha.2 hb.2 q]; simp
    · rw [decide_eq_false (by omega)]; rfl
  rw [f] at t
  exact (sif_f t).trans rfl
theorem same_tD (order : List Nat) (n : Nat) (l : List Nat) : same (tD order n l) (tD order n l) = true := same_two (same_LI _) (same_TU _)
theorem shF_ok {told : List (List Nat)} {a : List Nat} (hO : Ord order) (hl : ∀ l ∈ told, LotOk order l) (ha : LotOk order a) (hS : S[kt]? = some (.lst (told.map fun l => R.dat (tD order n l)))) : ∃ y11 y12, shF [some (.ro (ns.map .int)), x1, x2, x3, some (nR n), some (.obj kt), x6, some (.dat (LI (os a))), x8, x9, some (.dat (TU (kpt order a n))), x11, x12, x13, x14, x15, x16, x17] S = .nx [some (.ro (ns.map .int)), x1, x2, x3, some (nR n), some (.obj kt), x6, some (.dat (LI (os a))), x8, x9, some (.dat (TU (kpt order a n))), y11, y12, x13, x14, x15, x16, x17] S := by
  obtain ⟨ρ', S', e, y11, y12, rfl, rfl⟩ := for_nx (keep := [(kt, told.map fun l => R.dat (tD order n l))]) (g := (gTp 2 (gsCons (gN 11) (gsCons (gN 12) gsNil)))) (b := shB) (fun i ρ S' => ∃ y11 y12, ρ = [some (.ro (ns.map .int)), x1, x2, x3, some (nR n), some (.obj kt), x6, some (.dat (LI (os a))), x8, x9, some (.dat (TU (kpt order a n))), y11, y12, x13, x14, x15, x16, x17] ∧ S' = S) (told.map fun l => R.dat (tD order n l)) (ρ := [some (.ro (ns.map .int)), x1, x2, x3, some (nR n), some (.obj kt), x6, some (.dat (LI (os a))), x8, x9, some (.dat (TU (kpt order a n))), x11, x12, x13, x14, x15, x16, x17]) (S := S) ⟨x11, x12, rfl, rfl⟩ (fun i ρ S' _ hI => by
    obtain ⟨_, _, _, rfl⟩ := hI
    exact st_of (same_tD order n) hS) (by
    rintro i q ρ S' hq ⟨y11, y12, rfl, rfl⟩
    rw [List.getElem?_map] at hq
    obtain ⟨b, hb, rfl⟩ := Option.map_eq_some_iff.mp hq
    exact ⟨_, rfl, _, _, shB_ok hO ha (hl b (List.mem_of_getElem? hb)), _, _, rfl, rfl⟩)
  have e2 : shF [some (.ro (ns.map .int)), x1, x2, x3, some (nR n), some (.obj kt), x6, some (.dat (LI (os a))), x8, x9, some (.dat (TU (kpt order a n))), x11, x12, x13, x14, x15, x16, x17] S' = .nx [some (.ro (ns.map .int)), x1, x2, x3, some (nR n), some (.obj kt), x6, some (.dat (LI (os a))), x8, x9, some (.dat (TU (kpt order a n))), y11, y12, x13, x14, x15, x16, x17] S' := by
    unfold shF sFor
    rw [show iOf (eVar 5) [some (.ro (ns.map .int)), x1, x2, x3, some (nR n), some (.obj kt), x6, some (.dat (LI (os a))), x8, x9, some (.dat (TU (kpt order a n))), x11, x12, x13, x14, x15, x16, x17] S' = _ from itO hS]
    exact e
  exact ⟨y11, y12, e2⟩
theorem t6_ok {told : List (List Nat)} (hO : Ord order) (hl : ∀ l ∈ told, LotOk order l) (hS : S[kt]? = some (.lst (told.map fun l => R.dat (tD order n l)))) : ∃ y7 y10 y11 y12, t6 [some (.ro (ns.map .int)), x1, x2, x3, some (nR n), some (.obj kt), x6, x7, x8, x9, x10, x11, x12, x13, x14, x15, x16, x17] S = .nx [some (.ro (ns.map .int)), x1, x2, x3, some (nR n), some (.obj kt), x6, y7, x8, x9, y10, y11, y12, x13, x14, x15, x16, x17] S := by
  obtain ⟨ρ', S', e, y7, y10, y11, y12, rfl, rfl⟩ := for_nx (keep := [(kt, told.map fun l => R.dat (tD order n l))]) (g := (gTp 2 (gsCons (gN 7) (gsCons (gN 10) gsNil)))) (b := shF) (fun i ρ S' => ∃ y7 y10 y11 y12, ρ = [some (.ro (ns.map .int)), x1, x2, x3, some (nR n), some (.obj kt), x6, y7, x8, x9, y10, y11, y12, x13, x14, x15, x16, x17] ∧ S' = S) (told.map fun l => R.dat (tD order n l)) (ρ := [some (.ro (ns.map .int)), x1, x2, x3, some (nR n), some (.obj kt), x6, x7, x8, x9, x10, x11, x12, x13, x14, x15, x16, x17]) (S := S) ⟨x7, x10, x11, x12, rfl, rfl⟩ (fun i ρ S' _ hI => by
    obtain ⟨_, _, _, _, _, rfl⟩ := hI
    exact st_of (same_tD order n) hS) (by
    rintro i q ρ S' hq ⟨y7, y10, y11, y12, rfl, rfl⟩
    rw [List.getElem?_map] at hq
    obtain ⟨a, ha, rfl⟩ := Option.map_eq_some_iff.mp hq
    obtain ⟨z11, z12, e⟩ := shF_ok (ns := ns) (x1 := x1) (x2 := x2) (x6 := x6) (x8 := x8) (x9 := x9) (x11 := y11) (x12 := y12) (x13 := x13) (x14 := x14) (x15 := x15) (x16 := x16) (x17 := x17) hO hl (hl a (List.mem_of_getElem? ha)) hS
    exact ⟨_, rfl, _, _, e, _, _, _, _, rfl, rfl⟩)
  have e2 : t6 [some (.ro (ns.map .int)), x1, x2, x3, some (nR n), some (.obj kt), x6, x7, x8, x9, x10, x11, x12, x13, x14, x15, x16, x17] S' = .nx [some (.ro (ns.map .int)), x1, x2, x3, some (nR n), some (.obj kt), x6, y7, x8, x9, y10, y11, y12, x13, x14, x15, x16, x17] S' := by
    rw [t6_eq]
    unfold sFor
    rw [show iOf (eVar 5) [some (.ro (ns.map .int)), x1, x2, x3, some (nR n), some (.obj kt), x6, x7, x8, x9, x10, x11, x12, x13, x14, x15, x16, x17] S' = _ from itO hS]
    exact e
  exact ⟨y7, y10, y11, y12, e2⟩
end
end Lw
namespace Lw
open PySem Pev
open L2 (atI ixN cutS)
def b_part : SM := (sCons (sSet 10 (eLc false (iOf (eArgs (needN 3 (pureF m__law_kept)) (aCons (eVar 3) (aCons (eVar 15) (aCons (eVar 4) aNil))))) (gN 17) (mB (eBin (bIsN true) (eVar 17) (eC (.none)))) (eVar 17) [17]))
    (sCons (sIf (mB (eBin (bEq false) (eArgs (needN 2 m__law_take) (aCons (eVar 2) (aCons (eC (.int 9)) aNil))) (eC (.int 0)))) (sSet 10 (eLc false (iOf (eVar 15)) (gN 17) (mB (eBin (bEq false) (eArgs (needN 2 m__law_take) (aCons (eVar 2) (aCons (eC (.int 2)) aNil))) (eC (.int 0)))) (eVar 17) [17])) sSkip)
    (sIf (mB (eBin bGt (eArgs (needN 2 m__law_take) (aCons (eVar 2) (aCons (eC (.int 40)) aNil))) (eC (.int 0)))) (sExpr (eBMl gAppend (eVar 13) (aCons (eArgs gTupG (aCons (eArgs (needN 2 m__law_mixed) (aCons (eVar 2) (aCons (eVar 15) aNil))) (aCons (eArgs gTuple (aCons (eArgs (needN 2 m__law_mixed) (aCons (eVar 2) (aCons (eVar 10) aNil))) aNil)) aNil))) aNil))) (sSet 14 (eC (.bool false))))))
def u1 : SM := (sSet 10 (eLc false (iOf (eArgs (needN 3 (pureF m__law_kept)) (aCons (eVar 3) (aCons (eVar 15) (aCons (eVar 4) aNil))))) (gN 17) (mB (eBin (bIsN true) (eVar 17) (eC (.none)))) (eVar 17) [17]))
def u2 : SM := (sIf (mB (eBin (bEq false) (eArgs (needN 2 m__law_take) (aCons (eVar 2) (aCons (eC (.int 9)) aNil))) (eC (.int 0)))) (sSet 10 (eLc false (iOf (eVar 15)) (gN 17) (mB (eBin (bEq false) (eArgs (needN 2 m__law_take) (aCons (eVar 2) (aCons (eC (.int 2)) aNil))) (eC (.int 0)))) (eVar 17) [17])) sSkip)
def u3 : SM := (sIf (mB (eBin bGt (eArgs (needN 2 m__law_take) (aCons (eVar 2) (aCons (eC (.int 40)) aNil))) (eC (.int 0)))) (sExpr (eBMl gAppend (eVar 13) (aCons (eArgs gTupG (aCons (eArgs (needN 2 m__law_mixed) (aCons (eVar 2) (aCons (eVar 15) aNil))) (aCons (eArgs gTuple (aCons (eArgs (needN 2 m__law_mixed) (aCons (eVar 2) (aCons (eVar 10) aNil))) aNil)) aNil))) aNil))) (sSet 14 (eC (.bool false))))
theorem b_part_eq : b_part = sCons u1 (sCons u2 u3) := rfl
def c1 : SM := (sIf (mOr (mB (eBin (bEq true) (eArgs (needN 3 (pureF m_first_marks)) (aCons (eArgs (gLst false) (aCons (eC (.int 4)) (aCons (eC (.int 0)) (aCons (eC (.int 7)) aNil)))) (aCons (eArgs gTup (aCons (eC (.int 7)) (aCons (eC (.int 4)) aNil))) (aCons (eC (.int 0)) aNil)))) (eArgs gTup (aCons (eC (.int 4)) aNil)))) (mB (eBin (bEq true) (eArgs (needN 3 (pureF m_first_marks)) (aCons (eArgs gTup (aCons (eC (.int 4)) (aCons (eC (.int 0)) (aCons (eC (.int 7)) aNil)))) (aCons (eArgs (gLst false) (aCons (eC (.int 7)) aNil)) (aCons (eC (.int 1)) aNil)))) (eArgs gTup (aCons (eC (.int 7)) (aCons (eC (.none)) aNil)))))) (sRet (eC (.bool false))) sSkip)
def c2 : SM := (sIf (mB (eBin (bEq true) (eArgs (needN 2 (pureF m_keeping_paper)) (aCons (eArgs (gLst false) (aCons (eArgs gTup (aCons (eArgs gTup (aCons (eC (.int 1)) (aCons (eC (.int 2)) aNil))) (aCons (eArgs gTup (aCons (eC (.int 1)) aNil)) aNil))) (aCons (eArgs gTup (aCons (eArgs gTup (aCons (eC (.int 2)) (aCons (eC (.int 3)) aNil))) (aCons (eArgs gTup (aCons (eC (.int 3)) aNil)) aNil))) (aCons (eArgs gTup (aCons (eArgs gTup (aCons (eC (.int 1)) aNil)) (aCons (eArgs gTup (aCons (eC (.int 1)) aNil)) aNil))) aNil)))) (aCons (eC (.int 2)) aNil))) (eArgs gTup (aCons (eC (.str "missed")) (aCons (eC (.int 0)) (aCons (eC (.int 1)) aNil)))))) (sRet (eC (.bool false))) sSkip)
def c3 : SM := (sFor (iArgs gRange1 (aCons (eC (.int 2)) aNil)) (gN 1) (sCons (sSet 2 (eArgs (needN 2 m__law_box) (aCons (eVar 0) (aCons (eVar 1) aNil))))
    (sCons (sSet 3 (eArgs (needN 2 m__law_mixed) (aCons (eVar 2) (aCons (eArgs (gLR1 false) (aCons (eBin (bAdd false) (eC (.int 3)) (eArgs (needN 2 m__law_take) (aCons (eVar 2) (aCons (eC (.int 4)) aNil)))) aNil)) aNil))))
    (sCons (sSet 3 (eLc false (iOf (eVar 3)) (gN 17) tYes' (eBin (bAdd false) (eVar 17) (eBin (bMul false) (eBin (bMul false) (eC (.int 2)) (eArgs (needN 2 m__law_take) (aCons (eVar 2) (aCons (eC (.int 2)) aNil)))) (eArgs gLen (aCons (eVar 3) aNil)))) [17]))
    (sCons (sPar2 4 5 (aCons (eArgs (needN 2 m__law_take) (aCons (eVar 2) (aCons (eC (.int 4)) aNil))) (aCons (eArgs (gLst true) aNil) aNil)))
    (sCons (sFor (iArgs gRange1 (aCons (eC (.int 4)) aNil)) (gN 6) (sCons (sSet 7 (eArgs (needN 2 m__law_mixed) (aCons (eVar 2) (aCons (eLc false (iOf (eVar 3)) (gN 17) (mB (eBin (bEq false) (eArgs (needN 2 m__law_take) (aCons (eVar 2) (aCons (eC (.int 2)) aNil))) (eC (.int 0)))) (eVar 17) [17]) aNil))))
    (sCons (sPar2 8 9 (aCons (eArgs (gList false) (aCons (eVar 7) aNil)) (aCons (eArgs (gList false) (aCons (eVar 3) aNil)) aNil)))
    (sCons (sSet 10 (eArgs (needN 3 fun rs => needN 3 (pureF m_first_marks) (permL [0, 1, 2] rs)) (aCons (eVar 9) (aCons (eVar 8) (aCons (eVar 4) aNil)))))
    (sCons (sIf (mOr (mB (eBin (bEq true) (eVar 10) (eArgs (needN 3 (pureF m__law_kept)) (aCons (eVar 3) (aCons (eVar 7) (aCons (eVar 4) aNil)))))) (mOr (mB (eBin (bEq true) (eVar 8) (eVar 7))) (mB (eBin (bEq true) (eVar 9) (eVar 3))))) (sRet (eC (.bool false))) sSkip)
    (sExpr (eBMl gAppend (eVar 5) (aCons (eArgs gTupG (aCons (eVar 7) (aCons (eVar 10) aNil))) aNil))))))))
    (sCons (sFor (iOf (eVar 5)) (gTp 2 (gsCons (gN 7) (gsCons (gN 10) gsNil))) (sFor (iOf (eVar 5)) (gTp 2 (gsCons (gN 11) (gsCons (gN 12) gsNil))) (sIf (mAnd (mB (eBin bLe (eArgs (needN 2 (pureF m__law_apart)) (aCons (eVar 7) (aCons (eVar 11) aNil))) (eVar 4))) (mNot (mT (eArgs (needN 2 (pureF m__law_common)) (aCons (eVar 10) (aCons (eVar 12) aNil)))))) (sRet (eC (.bool false))) sSkip)))
    (sCons (sPar2 13 14 (aCons (eArgs (gLst true) aNil) (aCons (eC (.bool true)) aNil)))
    (sCons (sFor (iOf (eArgs (needN 2 m__law_mixed) (aCons (eVar 2) (aCons (eArgs (needN 1 (pureF m__law_parts)) (aCons (eSl false (eVar 3) none (some (eBin (bAdd false) (eC (.int 3)) (eArgs (needN 2 m__law_take) (aCons (eVar 2) (aCons (eC (.int 2)) aNil)))))) aNil)) aNil)))) (gN 15) (sCons (sSet 10 (eLc false (iOf (eArgs (needN 3 (pureF m__law_kept)) (aCons (eVar 3) (aCons (eVar 15) (aCons (eVar 4) aNil))))) (gN 17) (mB (eBin (bIsN true) (eVar 17) (eC (.none)))) (eVar 17) [17]))
    (sCons (sIf (mB (eBin (bEq false) (eArgs (needN 2 m__law_take) (aCons (eVar 2) (aCons (eC (.int 9)) aNil))) (eC (.int 0)))) (sSet 10 (eLc false (iOf (eVar 15)) (gN 17) (mB (eBin (bEq false) (eArgs (needN 2 m__law_take) (aCons (eVar 2) (aCons (eC (.int 2)) aNil))) (eC (.int 0)))) (eVar 17) [17])) sSkip)
    (sIf (mB (eBin bGt (eArgs (needN 2 m__law_take) (aCons (eVar 2) (aCons (eC (.int 40)) aNil))) (eC (.int 0)))) (sExpr (eBMl gAppend (eVar 13) (aCons (eArgs gTupG (aCons (eArgs (needN 2 m__law_mixed) (aCons (eVar 2) (aCons (eVar 15) aNil))) (aCons (eArgs gTuple (aCons (eArgs (needN 2 m__law_mixed) (aCons (eVar 2) (aCons (eVar 10) aNil))) aNil)) aNil))) aNil))) (sSet 14 (eC (.bool false)))))))
    (sCons (sSet 13 (eBin (bAdd true) (eVar 13) (eArgs (gLst false) (aCons (eArgs gTup (aCons (eArgs gTup (aCons (eC (.int 99)) aNil)) (aCons (eArgs gTup (aCons (eC (.int 99)) aNil)) aNil))) aNil))))
    (sCons (sSet 16 (eArgs (needN 2 fun rs => needN 2 (pureF m_keeping_paper) (permL [0, 1] rs)) (aCons (eLc false (iOf (eVar 13)) (gN 9) tYes' (eArgs (gList false) (aCons (eVar 9) aNil)) [9]) (aCons (eVar 4) aNil))))
    (sCons (sIf (mB (eBin (bEq true) (eVar 16) (eArgs (needN 2 (pureF m__law_missed)) (aCons (eVar 13) (aCons (eVar 4) aNil))))) (sRet (eC (.bool false))) sSkip)
    (sCons (sIf (mAnd (mB (eBin (bEq false) (eVar 16) (eArgs gTup (aCons (eC (.str "kept")) aNil)))) (mAnd (mT (eVar 14)) (mB (eBin (bEq true) (eLc false (iOf (eVar 13)) (gTp 2 (gsCons (gN 7) (gsCons (gN 10) gsNil))) (mB (eBin bLt (eArgs gLen (aCons (eVar 10) aNil)) (eArgs gMin2 (aCons (eArgs gLen (aCons (eVar 7) aNil)) (aCons (eBin (bAdd false) (eVar 4) (eC (.int 1))) aNil))))) (eVar 7) [7, 10]) (eArgs (gLst false) aNil))))) (sRet (eC (.bool false))) sSkip)
    (sIf (mNot (mT (eArgs (needN 3 m__law_errors) (aCons (eVar 2) (aCons (eVar 3) (aCons (eVar 13) aNil)))))) (sRet (eC (.bool false))) sSkip))))))))))))))
def c4 : SM := (sRet (eC (.bool true)))
theorem b_law_eq : b_law = sCons c1 (sCons c2 (sCons c3 c4)) := rfl

section
variable {ns : List Int} {k n kr r : Nat} {order p : List Nat} {S : Sto} {wh : Bool} {x1 x2 x3 x4 x5 x6 x7 x8 x9 x10 x11 x12 x13 x14 x15 x16 x17 : Option R}
theorem t7_ok (h : Tk k S) : ∃ (kr : Nat) (S' : Sto), kr ≠ k ∧ Tk k S' ∧ S'[kr]? = some (rowsC []) ∧ t7 [some (.ro (ns.map .int)), x1, x2, x3, x4, x5, x6, x7, x8, x9, x10, x11, x12, x13, x14, x15, x16, x17] S = .nx [some (.ro (ns.map .int)), x1, x2, x3, x4, x5, x6, x7, x8, x9, x10, x11, x12, some (.obj kr), some (.dat (.bool true)), x15, x16, x17] S' := by
  have := h.lt
  exact ⟨S.length, S ++ [.lst []], by omega, h.more _, by rw [List.getElem?_append_right (Nat.le_refl _), Nat.sub_self]; rfl, rfl⟩
/-! one part -/
theorem isN (a : Option Nat) (S : Sto) : bIsN true (.dat (mo a)) (.dat .none) S = .ok (.dat (.bool a.isSome)) S := by cases a <;> rfl
theorem filter_kof (r : List Nat) (n : Nat) : (kof r n).filter (fun a => a.isSome) = os (r.take (n + 1)) := by
  unfold kof
  rw [List.filter_append]
  have e1 : (os (r.take (n + 1))).filter (fun a => a.isSome) = os (r.take (n + 1)) := List.filter_eq_self.mpr fun a ha => by
    unfold os at ha
    obtain ⟨b, _, rfl⟩ := List.mem_map.mp ha
    rfl
  rw [e1]
  split <;> simp
theorem u1_ok (hO : Ord order) (hn : n ≤ 3) : u1 [some (.ro (ns.map .int)), x1, x2, some (.dat (LI (os order))), some (nR n), x5, x6, x7, x8, x9, x10, x11, x12, x13, x14, some (.dat (ptD p)), x16, x17] S = .nx [some (.ro (ns.map .int)), x1, x2, some (.dat (LI (os order))), some (nR n), x5, x6, x7, x8, x9, some (.dat (LI (os ((flt order p).take (n + 1))))), x11, x12, x13, x14, some (.dat (ptD p)), x16, x17] S := by
  obtain ⟨o1, o2, o3, o4⟩ := hO
  have lf : (flt order p).length ≤ order.length := List.length_filter_le _ _
  have lk := kof_len (flt order p) n
  have c : pureF m__law_kept [.dat (LI (os order)), .dat (ptD p), .dat (.int (n : Nat))] S = _ := three_call (lawkept_ok (order := order) (lot := p) (n := n) false true (by omega) (by omega)) S
  have it : itOf (.dat (TU (kpt order p n))) S = _ := it_sq true (kpt order p n) S
  have lc := lc_pure (keep := []) (g := gN 17) (t := (mB (eBin (bIsN true) (eVar 17) (eC (.none))))) (elt := eVar 17) (ρ := [some (.ro (ns.map .int)), x1, x2, some (.dat (LI (os order))), some (nR n), x5, x6, x7, x8, x9, x10, x11, x12, x13, x14, some (.dat (ptD p)), x16, none]) (S := S) (fun a : Option Nat => R.dat (mo a)) (fun a => a.isSome) (fun a => R.dat (mo a)) stands_nil (kpt order p n) (fun a _ => ⟨_, rfl, by
    have i := isN a S
    show (mB (eBin (bIsN true) (eVar 17) (eC (.none)))) [some (.ro (ns.map .int)), x1, x2, some (.dat (LI (os order))), some (nR n), x5, x6, x7, x8, x9, x10, x11, x12, x13, x14, some (.dat (ptD p)), x16, some (.dat (mo a))] S = _
    simp only [Pev.fnB, Pev.OutS.toF, Pev.sCons, Pev.sSet, Pev.sRet, Pev.sRetN, Pev.sIf, Pev.sSkip, Pev.sExpr, Pev.sTgt, Pev.sFor, Pev.sRaise, Pev.sPut, Pev.sAugS, Pev.sPar2, Pev.sPar3, Pev.OutS.fade, Pev.OutS.calm, Pev.Out.toS, Pev.Out.bind, Pev.noX, Pev.eVar, Pev.eC, Pev.eBin, Pev.eUn, Pev.eArgs, Pev.aCons, Pev.aNil, Pev.needN, Pev.eAnd, Pev.eOr, Pev.eNot, Pev.eIf, Pev.mAnd, Pev.mOr, Pev.mNot, Pev.mB, Pev.mT, Pev.eChain, Pev.truth, Pev.ofT, Pev.ofB, Pev.R.d?, Pev.eLc, Pev.iOf, Pev.iArgs, Pev.gN, Pev.gTp, Pev.gsCons, Pev.gsNil, Pev.tv, Pev.eBMl, Pev.eFld, Pev.tYes', Pev.wipeR, Pev.permL, List.map_cons, List.map_nil, List.length_cons, List.length_nil, List.cons_append, List.nil_append, List.append_nil, List.replicate, List.getElem?_cons_zero, List.getElem?_cons_succ, List.getElem?_nil, List.set_cons_zero, List.set_cons_succ, List.set_nil, List.filterMap_cons, List.filterMap_nil, Option.map_some, Option.map_none, Option.bind_some, Option.bind_none, if_true, if_false, Bool.not_true, Bool.not_false, Nat.reduceSub, Nat.reduceAdd, Nat.reduceEqDiff, Nat.reduceLeDiff, reduceIte, ite_true, ite_false, Bool.true_eq_false, Bool.false_eq_true, ↓reduceIte, Nat.zero_add, Nat.add_zero, Nat.sub_zero, id_eq, Bool.or_false, Bool.or_true, Bool.true_or, Bool.false_or, Bool.and_true, Bool.true_and, Bool.and_false, Bool.false_and, Bool.and_self, Bool.or_self, i], fun _ => rfl⟩)
  have fk : (kpt order p n).filter (fun a => a.isSome) = os ((flt order p).take (n + 1)) := filter_kof _ _
  rw [fk] at lc
  have sz := sz_of (show (kpt order p n).length ≤ 10000 by unfold kpt; omega)
  have nl := nl_mo (os ((flt order p).take (n + 1))) S
  unfold u1
  unfold nR at *
  simp only [Pev.fnB, Pev.OutS.toF, Pev.sCons, Pev.sSet, Pev.sRet, Pev.sRetN, Pev.sIf, Pev.sSkip, Pev.sExpr, Pev.sTgt, Pev.sFor, Pev.sRaise, Pev.sPut, Pev.sAugS, Pev.sPar2, Pev.sPar3, Pev.OutS.fade, Pev.OutS.calm, Pev.Out.toS, Pev.Out.bind, Pev.noX, Pev.eVar, Pev.eC, Pev.eBin, Pev.eUn, Pev.eArgs, Pev.aCons, Pev.aNil, Pev.needN, Pev.eAnd, Pev.eOr, Pev.eNot, Pev.eIf, Pev.mAnd, Pev.mOr, Pev.mNot, Pev.mB, Pev.mT, Pev.eChain, Pev.truth, Pev.ofT, Pev.ofB, Pev.R.d?, Pev.eLc, Pev.iOf, Pev.iArgs, Pev.gN, Pev.gTp, Pev.gsCons, Pev.gsNil, Pev.tv, Pev.eBMl, Pev.eFld, Pev.tYes', Pev.wipeR, Pev.permL, List.map_cons, List.map_nil, List.length_cons, List.length_nil, List.cons_append, List.nil_append, List.append_nil, List.replicate, List.getElem?_cons_zero, List.getElem?_cons_succ, List.getElem?_nil, List.set_cons_zero, List.set_cons_succ, List.set_nil, List.filterMap_cons, List.filterMap_nil, Option.map_some, Option.map_none, Option.bind_some, Option.bind_none, if_true, if_false, Bool.not_true, Bool.not_false, Nat.reduceSub, Nat.reduceAdd, Nat.reduceEqDiff, Nat.reduceLeDiff, reduceIte, ite_true, ite_false, Bool.true_eq_false, Bool.false_eq_true, ↓reduceIte, Nat.zero_add, Nat.add_zero, Nat.sub_zero, id_eq, Bool.or_false, Bool.or_true, Bool.true_or, Bool.false_or, Bool.and_true, Bool.true_and, Bool.and_false, Bool.false_and, Bool.and_self, Bool.or_self, c, it, List.length_map, sz, lc, nl]
theorem zero_t {many : Nat} (h : Tk k S) (h0 : 0 < many) (hb : many < 1000) {c1 c2 : Cell} {k1 k2 : Nat} (d1 : S[k1]? = some c1) (d2 : S[k2]? = some c2) (n1 : k1 ≠ k) (n2 : k2 ≠ k) : ∃ (x : Nat) (S' : Sto), Tk k S' ∧ S'[k1]? = some c1 ∧ S'[k2]? = some c2 ∧ m__law_take [.obj k, .dat (.int (many : Nat))] S = .ok (nR x) S' := by
  obtain ⟨x, S1, a1, a2, a3, a4⟩ := draw h many h0 (by omega)
  exact ⟨x, S1, a2, a3.two.cell d1 n1, a3.two.cell d2 n2, a4⟩
theorem u2_ok {q : List Nat} {c1 : Cell} {rs : List Rw} (h : Tk k S) (np : p.Nodup) (lp : p.length ≤ 10) (hq : q.Nodup ∧ ∀ x ∈ q, x ∈ p) (d1 : S[r]? = some c1) (d2 : S[kr]? = some (rowsC rs)) (n1 : r ≠ k) (n2 : kr ≠ k) : ∃ (q' : List Nat) (S' : Sto), (q'.Nodup ∧ ∀ x ∈ q', x ∈ p) ∧ Tk k S' ∧ S'[r]? = some c1 ∧ S'[kr]? = some (rowsC rs) ∧ u2 [some (.ro (ns.map .int)), x1, some (.obj k), x3, x4, x5, x6, x7, x8, x9, some (.dat (LI (os q))), x11, x12, x13, x14, some (.dat (ptD p)), x16, x17] S = .nx [some (.ro (ns.map .int)), x1, some (.obj k), x3, x4, x5, x6, x7, x8, x9, some (.dat (LI (os q'))), x11, x12, x13, x14, some (.dat (ptD p)), x16, x17] S' := by
  obtain ⟨x, S1, a1, a2, a3, a4⟩ := zero_t h (many := 9) (by omega) (by omega) d1 d2 n1 n2
  have a4 : m__law_take [.obj k, .dat (.int 9)] S = .ok (nR x) S1 := a4
  have eq : bEq false (nR x) (.dat (.int 0)) S1 = .ok (.dat (.bool (decide ((x : Int) = 0)))) S1 := by
    unfold nR
    rw [eq_ints, if_neg (by simp)]
  have te : (mB (eBin (bEq false) (eArgs (needN 2 m__law_take) (aCons (eVar 2) (aCons (eC (.int 9)) aNil))) (eC (.int 0)))) [some (.ro (ns.map .int)), x1, some (.obj k), x3, x4, x5, x6, x7, x8, x9, some (.dat (LI (os q))), x11, x12, x13, x14, some (.dat (ptD p)), x16, x17] S = .ok (decide ((x : Int) = 0)) S1 := by
    unfold nR at *
    simp only [Pev.fnB, Pev.OutS.toF, Pev.sCons, Pev.sSet, Pev.sRet, Pev.sRetN, Pev.sIf, Pev.sSkip, Pev.sExpr, Pev.sTgt, Pev.sFor, Pev.sRaise, Pev.sPut, Pev.sAugS, Pev.sPar2, Pev.sPar3, Pev.OutS.fade, Pev.OutS.calm, Pev.Out.toS, Pev.Out.bind, Pev.noX, Pev.eVar, Pev.eC, Pev.eBin, Pev.eUn, Pev.eArgs, Pev.aCons, Pev.aNil, Pev.needN, Pev.eAnd, Pev.eOr, Pev.eNot, Pev.eIf, Pev.mAnd, Pev.mOr, Pev.mNot, Pev.mB, Pev.mT, Pev.eChain, Pev.truth, Pev.ofT, Pev.ofB, Pev.R.d?, Pev.eLc, Pev.iOf, Pev.iArgs, Pev.gN, Pev.gTp, Pev.gsCons, Pev.gsNil, Pev.tv, Pev.eBMl, Pev.eFld, Pev.tYes', Pev.wipeR, Pev.permL, List.map_cons, List.map_nil, List.length_cons, List.length_nil, List.cons_append, List.nil_append, List.append_nil, List.replicate, List.getElem?_cons_zero, List.getElem?_cons_succ, List.getElem?_nil, List.set_cons_zero, List.set_cons_succ, List.set_nil, List.filterMap_cons, List.filterMap_nil, Option.map_some, Option.map_none, Option.bind_some, Option.bind_none, if_true, if_false, Bool.not_true, Bool.not_false, Nat.reduceSub, Nat.reduceAdd, Nat.reduceEqDiff, Nat.reduceLeDiff, reduceIte, ite_true, ite_false, Bool.true_eq_false, Bool.false_eq_true, ↓reduceIte, Nat.zero_add, Nat.add_zero, Nat.sub_zero, id_eq, Bool.or_false, Bool.or_true, Bool.true_or, Bool.false_or, Bool.and_true, Bool.true_and, Bool.and_false, Bool.false_and, Bool.and_self, Bool.or_self, a4, eq]
  by_cases hx : (x : Int) = 0
  · rw [decide_eq_true hx] at te
    obtain ⟨ys, S2, y1, y2, y3, y4⟩ := some_lc (kc := r) (g0 := 0) p a1 a2 n1 (ρ := [some (.ro (ns.map .int)), x1, some (.obj k), x3, x4, x5, x6, x7, x8, x9, some (.dat (LI (os q))), x11, x12, x13, x14, some (.dat (ptD p)), x16, none]) (fun _ => rfl) (fun _ => rfl)
    obtain ⟨ys', S2', y1', y2', y3', y4'⟩ := some_lc (kc := kr) (g0 := 0) p a1 a3 n2 (ρ := [some (.ro (ns.map .int)), x1, some (.obj k), x3, x4, x5, x6, x7, x8, x9, some (.dat (LI (os q))), x11, x12, x13, x14, some (.dat (ptD p)), x16, none]) (fun _ => rfl) (fun _ => rfl)
    have ee := y4.symm.trans y4'
    injection ee with ee1 ee2
    subst ee2
    have it : itOf (.dat (ptD p)) S1 = _ := it_sq true (os p) S1
    have sz := sz_of (show (os p).length ≤ 10000 by rw [os_len]; omega)
    have nl := nl_mo (os ys) S2
    refine ⟨ys, S2, ⟨y1.nodup np, fun x hx => y1.subset hx⟩, y2, y3, y3', (sif_t te).trans ?_⟩
    show sSet 10 _ [some (.ro (ns.map .int)), x1, some (.obj k), x3, x4, x5, x6, x7, x8, x9, some (.dat (LI (os q))), x11, x12, x13, x14, some (.dat (ptD p)), x16, x17] S1 = _
    simp only [Pev.fnB, Pev.OutS.toF, Pev.sCons, Pev.sSet, Pev.sRet, Pev.sRetN, Pev.sIf, Pev.sSkip, Pev.sExpr, Pev.sTgt, Pev.sFor, Pev.sRaise, Pev.sPut, Pev.sAugS, Pev.sPar2, Pev.sPar3, Pev.OutS.fade, Pev.OutS.calm, Pev.Out.toS, Pev.Out.bind, Pev.noX, Pev.eVar, Pev.eC, Pev.eBin, Pev.eUn, Pev.eArgs, Pev.aCons, Pev.aNil, Pev.needN, Pev.eAnd, Pev.eOr, Pev.eNot, Pev.eIf, Pev.mAnd, Pev.mOr, Pev.mNot, Pev.mB, Pev.mT, Pev.eChain, Pev.truth, Pev.ofT, Pev.ofB, Pev.R.d?, Pev.eLc, Pev.iOf, Pev.iArgs, Pev.gN, Pev.gTp, Pev.gsCons, Pev.gsNil, Pev.tv, Pev.eBMl, Pev.eFld, Pev.tYes', Pev.wipeR, Pev.permL, List.map_cons, List.map_nil, List.length_cons, List.length_nil, List.cons_append, List.nil_append, List.append_nil, List.replicate, List.getElem?_cons_zero, List.getElem?_cons_succ, List.getElem?_nil, List.set_cons_zero, List.set_cons_succ, List.set_nil, List.filterMap_cons, List.filterMap_nil, Option.map_some, Option.map_none, Option.bind_some, Option.bind_none, if_true, if_false, Bool.not_true, Bool.not_false, Nat.reduceSub, Nat.reduceAdd, Nat.reduceEqDiff, Nat.reduceLeDiff, reduceIte, ite_true, ite_false, Bool.true_eq_false, Bool.false_eq_true, ↓reduceIte, Nat.zero_add, Nat.add_zero, Nat.sub_zero, id_eq, Bool.or_false, Bool.or_true, Bool.true_or, Bool.false_or, Bool.and_true, Bool.true_and, Bool.and_false, Bool.false_and, Bool.and_self, Bool.or_self, it, List.length_map, sz, y4, nl]
  · rw [decide_eq_false hx] at te
    exact ⟨q, S1, hq, a1, a2, a3, (sif_f te).trans rfl⟩
theorem u3_ok {q : List Nat} {ps : List (List Nat)} {rs : List Rw} (h : Tk k S) (np : p.Nodup) (lp : p.length ≤ 10) (hq : q.Nodup ∧ ∀ x ∈ q, x ∈ p) (d1 : S[r]? = some (.lst (ps.map fun p => R.dat (ptD p)))) (d2 : S[kr]? = some (rowsC rs)) (n1 : r ≠ k) (n2 : kr ≠ k) (n3 : r ≠ kr) (lr : rs.length ≤ 100) : ∃ (wh' : Bool) (rs' : List Rw) (S' : Sto), ((wh' = false ∧ rs' = rs) ∨ (wh' = wh ∧ ∃ a, rs' = rs ++ [a] ∧ a.t = false ∧ a.lot.Perm p ∧ a.kp.Nodup ∧ ∀ x ∈ a.kp, x ∈ a.lot)) ∧ Tk k S' ∧ S'[r]? = some (.lst (ps.map fun p => R.dat (ptD p))) ∧ S'[kr]? = some (rowsC rs') ∧ u3 [some (.ro (ns.map .int)), x1, some (.obj k), x3, x4, x5, x6, x7, x8, x9, some (.dat (LI (os q))), x11, x12, some (.obj kr), some (.dat (.bool wh)), some (.dat (ptD p)), x16, x17] S = .nx [some (.ro (ns.map .int)), x1, some (.obj k), x3, x4, x5, x6, x7, x8, x9, some (.dat (LI (os q))), x11, x12, some (.obj kr), some (.dat (.bool wh')), some (.dat (ptD p)), x16, x17] S' := by
  obtain ⟨x, S1, a1, a2, a3, a4⟩ := zero_t h (many := 40) (by omega) (by omega) d1 d2 n1 n2
  have a4 : m__law_take [.obj k, .dat (.int 40)] S = .ok (nR x) S1 := a4
  have gt := gt_ii (x : Int) 0 S1
  have te : (mB (eBin bGt (eArgs (needN 2 m__law_take) (aCons (eVar 2) (aCons (eC (.int 40)) aNil))) (eC (.int 0)))) [some (.ro (ns.map .int)), x1, some (.obj k), x3, x4, x5, x6, x7, x8, x9, some (.dat (LI (os q))), x11, x12, some (.obj kr), some (.dat (.bool wh)), some (.dat (ptD p)), x16, x17] S = .ok (decide ((x : Int) > 0)) S1 := by
    unfold nR at *
    simp only [Pev.fnB, Pev.OutS.toF, Pev.sCons, Pev.sSet, Pev.sRet, Pev.sRetN, Pev.sIf, Pev.sSkip, Pev.sExpr, Pev.sTgt, Pev.sFor, Pev.sRaise, Pev.sPut, Pev.sAugS, Pev.sPar2, Pev.sPar3, Pev.OutS.fade, Pev.OutS.calm, Pev.Out.toS, Pev.Out.bind, Pev.noX, Pev.eVar, Pev.eC, Pev.eBin, Pev.eUn, Pev.eArgs, Pev.aCons, Pev.aNil, Pev.needN, Pev.eAnd, Pev.eOr, Pev.eNot, Pev.eIf, Pev.mAnd, Pev.mOr, Pev.mNot, Pev.mB, Pev.mT, Pev.eChain, Pev.truth, Pev.ofT, Pev.ofB, Pev.R.d?, Pev.eLc, Pev.iOf, Pev.iArgs, Pev.gN, Pev.gTp, Pev.gsCons, Pev.gsNil, Pev.tv, Pev.eBMl, Pev.eFld, Pev.tYes', Pev.wipeR, Pev.permL, List.map_cons, List.map_nil, List.length_cons, List.length_nil, List.cons_append, List.nil_append, List.append_nil, List.replicate, List.getElem?_cons_zero, List.getElem?_cons_succ, List.getElem?_nil, List.set_cons_zero, List.set_cons_succ, List.set_nil, List.filterMap_cons, List.filterMap_nil, Option.map_some, Option.map_none, Option.bind_some, Option.bind_none, if_true, if_false, Bool.not_true, Bool.not_false, Nat.reduceSub, Nat.reduceAdd, Nat.reduceEqDiff, Nat.reduceLeDiff, reduceIte, ite_true, ite_false, Bool.true_eq_false, Bool.false_eq_true, ↓reduceIte, Nat.zero_add, Nat.add_zero, Nat.sub_zero, id_eq, Bool.or_false, Bool.or_true, Bool.true_or, Bool.false_or, Bool.and_true, Bool.true_and, Bool.and_false, Bool.false_and, Bool.and_self, Bool.or_self, a4, gt]
  by_cases hx : (x : Int) > 0
  · rw [decide_eq_true hx] at te
    obtain ⟨l, S2, b1, b2, b3, b4, b5⟩ := mixed_sq true p (by omega) a1
    have b5 : m__law_mixed [.obj k, .dat (ptD p)] S1 = _ := b5
    obtain ⟨l2, S3, e1, e2, e3, e4, e5⟩ := mixed_sq false q (by
      have := (flt_perm np hq.1 hq.2).length_eq
      have : (flt p q).length ≤ p.length := List.length_filter_le _ _
      omega) b2
    have e5 : m__law_mixed [.obj k, .dat (LI (os q))] S2 = _ := e5
    have kl := a1.lt
    have rl := (List.getElem?_eq_some_iff.mp a2).1
    have krl := (List.getElem?_eq_some_iff.mp a3).1
    have cl := e3.cell b4 (show S1.length + 1 ≠ k by omega)
    have ck := e3.cell (b3.cell a3 n2) n2
    have cr := e3.cell (b3.cell a2 n1) n1
    have gt2 := gtO e4
    have fz := frz (k := os l2) cl
    have me : (eArgs gTupG (aCons (eArgs (needN 2 m__law_mixed) (aCons (eVar 2) (aCons (eVar 15) aNil))) (aCons (eArgs gTuple (aCons (eArgs (needN 2 m__law_mixed) (aCons (eVar 2) (aCons (eVar 10) aNil))) aNil)) aNil))) [some (.ro (ns.map .int)), x1, some (.obj k), x3, x4, x5, x6, x7, x8, x9, some (.dat (LI (os q))), x11, x12, some (.obj kr), some (.dat (.bool wh)), some (.dat (ptD p)), x16, x17] S1 = .ok (.dat (rD true ⟨false, l, l2⟩)) (S3.set (S1.length + 1) .dead) := by
      simp only [Pev.fnB, Pev.OutS.toF, Pev.sCons, Pev.sSet, Pev.sRet, Pev.sRetN, Pev.sIf, Pev.sSkip, Pev.sExpr, Pev.sTgt, Pev.sFor, Pev.sRaise, Pev.sPut, Pev.sAugS, Pev.sPar2, Pev.sPar3, Pev.OutS.fade, Pev.OutS.calm, Pev.Out.toS, Pev.Out.bind, Pev.noX, Pev.eVar, Pev.eC, Pev.eBin, Pev.eUn, Pev.eArgs, Pev.aCons, Pev.aNil, Pev.needN, Pev.eAnd, Pev.eOr, Pev.eNot, Pev.eIf, Pev.mAnd, Pev.mOr, Pev.mNot, Pev.mB, Pev.mT, Pev.eChain, Pev.truth, Pev.ofT, Pev.ofB, Pev.R.d?, Pev.eLc, Pev.iOf, Pev.iArgs, Pev.gN, Pev.gTp, Pev.gsCons, Pev.gsNil, Pev.tv, Pev.eBMl, Pev.eFld, Pev.tYes', Pev.wipeR, Pev.permL, List.map_cons, List.map_nil, List.length_cons, List.length_nil, List.cons_append, List.nil_append, List.append_nil, List.replicate, List.getElem?_cons_zero, List.getElem?_cons_succ, List.getElem?_nil, List.set_cons_zero, List.set_cons_succ, List.set_nil, List.filterMap_cons, List.filterMap_nil, Option.map_some, Option.map_none, Option.bind_some, Option.bind_none, if_true, if_false, Bool.not_true, Bool.not_false, Nat.reduceSub, Nat.reduceAdd, Nat.reduceEqDiff, Nat.reduceLeDiff, reduceIte, ite_true, ite_false, Bool.true_eq_false, Bool.false_eq_true, ↓reduceIte, Nat.zero_add, Nat.add_zero, Nat.sub_zero, id_eq, Bool.or_false, Bool.or_true, Bool.true_or, Bool.false_or, Bool.and_true, Bool.true_and, Bool.and_false, Bool.false_and, Bool.and_self, Bool.or_self, b5, e5, gt2, fz]
      rfl
    have ap := appO2 (mo := eVar 13) (ρ := [some (.ro (ns.map .int)), x1, some (.obj k), x3, x4, x5, x6, x7, x8, x9, some (.dat (LI (os q))), x11, x12, some (.obj kr), some (.dat (.bool wh)), some (.dat (ptD p)), x16, x17]) rfl a3 me (dead_ne ck (by omega)) (by rw [List.length_map]; omega)
    refine ⟨wh, rs ++ [⟨false, l, l2⟩], _, .inr ⟨rfl, _, rfl, rfl, b1, (e1.nodup_iff).mpr hq.1, fun x hx => b1.mem_iff.mpr (hq.2 x (e1.mem_iff.mp hx))⟩, (e2.ne _ (by omega)).ne _ n2, ?_, ?_, (sif_t te).trans ap⟩
    · rw [List.getElem?_set_ne (Ne.symm n3), List.getElem?_set_ne (by omega)]
      exact cr
    · rw [set_at (by rw [List.length_set]; exact (List.getElem?_eq_some_iff.mp ck).1)]
      unfold rowsC
      rw [List.map_append]
      rfl
  · rw [decide_eq_false hx] at te
    exact ⟨false, rs, S1, .inl ⟨rfl, rfl⟩, a1, a2, a3, (sif_f te).trans rfl⟩
def PrOk (pr : List Nat × Rw) : Prop := pr.2.t = false ∧ pr.2.lot.Perm pr.1 ∧ pr.2.kp.Nodup ∧ ∀ x ∈ pr.2.kp, x ∈ pr.2.lot
theorem t8_ok (h : Tk k S) (hO : Ord order) (hn : n ≤ 3) (hS : S[kr]? = some (rowsC [])) (n2 : kr ≠ k) : ∃ (ms : List Nat) (ps : List (List Nat)) (prs : List (List Nat × Rw)) (wh : Bool) (S' : Sto) (y10 y15 : Option R), ms.Sublist order ∧ ms.length ≤ 4 ∧ ps.Perm (parts ms) ∧ (prs.map Prod.fst).Sublist ps ∧ (wh = true → prs.map Prod.fst = ps) ∧ (∀ pr ∈ prs, PrOk pr) ∧ Tk k S' ∧ S'[kr]? = some (rowsC (prs.map Prod.snd)) ∧ t8 [some (.ro (ns.map .int)), x1, some (.obj k), some (.dat (LI (os order))), some (nR n), x5, x6, x7, x8, x9, x10, x11, x12, some (.obj kr), some (.dat (.bool true)), x15, x16, x17] S = .nx [some (.ro (ns.map .int)), x1, some (.obj k), some (.dat (LI (os order))), some (nR n), x5, x6, x7, x8, x9, y10, x11, x12, some (.obj kr), some (.dat (.bool wh)), y15, x16, x17] S' := by
  have hO' := hO
  obtain ⟨o1, o2, o3, o4⟩ := hO
  obtain ⟨x, S1, a1, a2, a3, a4⟩ := draw h 2 (by omega) (by omega)
  have a4 : m__law_take [.obj k, .dat (.int 2)] S = .ok (nR x) S1 := a4
  have ad : bAdd false (.dat (.int 3)) (.dat (.int (x : Nat))) S1 = .ok (.dat (.int ((3 + x : Nat) : Int))) S1 := rfl
  have sl : gSl false (.dat (LI (os order))) none (some ((3 + x : Nat) : Int)) S1 = .ok (.dat (LI (os (order.take (3 + x))))) S1 := by
    have := sl_list mo (os order) (3 + x) S1
    unfold os LI at *
    rw [List.map_take]
    exact this
  have sub : (order.take (3 + x)).Sublist order := List.take_sublist _ _
  have lm : (order.take (3 + x)).length ≤ 4 := by rw [List.length_take]; omega
  generalize order.take (3 + x) = ms at sl sub lm
  have nm := sub.nodup o1
  have lp : pureF m__law_parts [.dat (LI (os ms))] S1 = .ok (.dat (.list ((parts ms).map ptD))) S1 := one_call (lawparts_ok false (by omega)) S1
  have pl : (parts ms).length ≤ 16 := by
    have := prt_len ms
    have p2 : 2 ^ ms.length ≤ 2 ^ 4 := Nat.pow_le_pow_right (by omega) lm
    unfold parts
    rw [List.length_drop]
    omega
  obtain ⟨ps, S2, p1, p2, p3, p4, p5⟩ := mixed_ok ptD (parts ms) (by omega) (arg := .list ((parts ms).map ptD)) (len_list ptD _ (by omega)) (listF ptD _) a2
  have ck := p3.cell (a3.two.cell hS n2) n2
  have krl := (List.getElem?_eq_some_iff.mp (a3.two.cell hS n2)).1
  have kl := a2.lt
  have lps : ps.length ≤ 16 := by have := p1.length_eq; omega
  have pmem : ∀ p ∈ ps, p.Nodup ∧ p.length ≤ 4 ∧ ∀ x ∈ p, x ∈ order := fun p hp => by
    have := prt_sub ms p (List.mem_of_mem_drop (p1.mem_iff.mp hp))
    exact ⟨this.nodup nm, Nat.le_trans this.length_le lm, fun x hx => sub.subset (this.subset hx)⟩
  obtain ⟨ρ', S', e, prs, wh, y10, y15, rfl, q1, q2, q3, q4, q5, q6⟩ := for_nx (keep := [(S1.length + 1, ps.map fun p => R.dat (ptD p))]) (g := gN 15) (b := b_part) (fun i ρ S => ∃ (prs : List (List Nat × Rw)) (wh : Bool) (y10 y15 : Option R), ρ = [some (.ro (ns.map .int)), x1, some (.obj k), some (.dat (LI (os order))), some (nR n), x5, x6, x7, x8, x9, y10, x11, x12, some (.obj kr), some (.dat (.bool wh)), y15, x16, x17] ∧ (prs.map Prod.fst).Sublist (ps.take i) ∧ (wh = true → prs.map Prod.fst = ps.take i) ∧ (∀ pr ∈ prs, PrOk pr) ∧ Tk k S ∧ S[S1.length + 1]? = some (.lst (ps.map fun p => R.dat (ptD p))) ∧ S[kr]? = some (rowsC (prs.map Prod.snd))) (ps.map fun p => R.dat (ptD p)) (ρ := [some (.ro (ns.map .int)), x1, some (.obj k), some (.dat (LI (os order))), some (nR n), x5, x6, x7, x8, x9, x10, x11, x12, some (.obj kr), some (.dat (.bool true)), x15, x16, x17]) (S := S2) ⟨[], true, x10, x15, rfl, List.nil_sublist _, fun _ => rfl, fun pr hpr => absurd hpr List.not_mem_nil, p2, p4, ck⟩ (fun i ρ S' _ hI => by
    obtain ⟨_, _, _, _, _, _, _, _, _, hc, _⟩ := hI
    exact st_of (f := ptD) (fun p => same_TU (os p)) hc) (by
    rintro i q ρ S hq ⟨prs, wh, y10, y15, rfl, q1, q2, q3, q4, q5, q6⟩
    rw [List.getElem?_map] at hq
    obtain ⟨p, hp, rfl⟩ := Option.map_eq_some_iff.mp hq
    obtain ⟨np, lp4, hpo⟩ := pmem p (List.mem_of_getElem? hp)
    have lpr : (prs.map Prod.snd).length ≤ 16 := by
      have := q1.length_le
      rw [List.length_map, List.length_take] at this
      rw [List.length_map]
      omega
    have e1 := u1_ok (ns := ns) (S := S) (order := order) (p := p) (x1 := x1) (x2 := some (.obj k)) (x5 := x5) (x6 := x6) (x7 := x7) (x8 := x8) (x9 := x9) (x10 := y10) (x11 := x11) (x12 := x12) (x13 := some (.obj kr)) (x14 := some (.dat (.bool wh))) (x16 := x16) (x17 := x17) hO' hn
    have hf : ((flt order p).take (n + 1)).Nodup ∧ ∀ x ∈ (flt order p).take (n + 1), x ∈ p := ⟨((List.take_sublist _ _).trans List.filter_sublist).nodup o1, fun x hx => by
      have := List.mem_of_mem_take hx
      unfold flt at this
      exact of_decide_eq_true (List.mem_filter.mp this).2⟩
    obtain ⟨q', S3, hq', s1, s2, s3, e2⟩ := u2_ok (ns := ns) (x1 := x1) (x3 := some (.dat (LI (os order)))) (x4 := some (nR n)) (x5 := x5) (x6 := x6) (x7 := x7) (x8 := x8) (x9 := x9) (x11 := x11) (x12 := x12) (x13 := some (.obj kr)) (x14 := some (.dat (.bool wh))) (x16 := x16) (x17 := x17) q4 np (by omega) hf q5 q6 (by omega) n2
    obtain ⟨wh', rs', S4, hw, s4, s5, s6, e3⟩ := u3_ok (wh := wh) (ns := ns) (x1 := x1) (x3 := some (.dat (LI (os order)))) (x4 := some (nR n)) (x5 := x5) (x6 := x6) (x7 := x7) (x8 := x8) (x9 := x9) (x11 := x11) (x12 := x12) (x16 := x16) (x17 := x17) s1 np (by omega) hq' s2 s3 (by omega) n2 (by omega) (by omega)
    have all := (congrFun (congrFun b_part_eq _) _).trans ((cons_nx e1).trans ((cons_nx e2).trans e3))
    rcases hw with ⟨rfl, rfl⟩ | ⟨rfl, a, rfl, t1, t2, t3, t4⟩
    · refine ⟨_, rfl, _, _, all, prs, false, _, _, rfl, q1.trans (by rw [List.take_add_one]; exact List.sublist_append_left _ _), fun z => (by cases z), q3, s4, s5, s6⟩
    · refine ⟨_, rfl, _, _, all, prs ++ [(p, a)], wh', _, _, rfl, ?_, fun z => ?_, fun pr hpr => ?_, s4, s5, ?_⟩
      · rw [List.map_append, List.take_add_one, hp]
        exact q1.append (List.Sublist.refl _)
      · rw [List.map_append, List.take_add_one, hp, q2 z]
        rfl
      · rcases List.mem_append.mp hpr with hpr | hpr
        · exact q3 pr hpr
        · rw [List.mem_singleton.mp hpr]
          exact ⟨t1, t2, t3, t4⟩
      · rw [s6, List.map_append]
        rfl)
  rw [List.length_map, List.take_length] at q1 q2
  have it := itO (f := ptD) p4
  have ei : iOf (eArgs (needN 2 m__law_mixed) (aCons (eVar 2) (aCons (eArgs (needN 1 (pureF m__law_parts)) (aCons (eSl false (eVar 3) none (some (eBin (bAdd false) (eC (.int 3)) (eArgs (needN 2 m__law_take) (aCons (eVar 2) (aCons (eC (.int 2)) aNil)))))) aNil)) aNil))) [some (.ro (ns.map .int)), x1, some (.obj k), some (.dat (LI (os order))), some (nR n), x5, x6, x7, x8, x9, x10, x11, x12, some (.obj kr), some (.dat (.bool true)), x15, x16, x17] S = .ok ⟨ps.map fun p => R.dat (ptD p), [(S1.length + 1, ps.map fun p => R.dat (ptD p))]⟩ S2 := by
    unfold nR at *
    simp only [Pev.fnB, Pev.OutS.toF, Pev.sCons, Pev.sSet, Pev.sRet, Pev.sRetN, Pev.sIf, Pev.sSkip, Pev.sExpr, Pev.sTgt, Pev.sFor, Pev.sRaise, Pev.sPut, Pev.sAugS, Pev.sPar2, Pev.sPar3, Pev.OutS.fade, Pev.OutS.calm, Pev.Out.toS, Pev.Out.bind, Pev.noX, Pev.eVar, Pev.eC, Pev.eBin, Pev.eUn, Pev.eArgs, Pev.aCons, Pev.aNil, Pev.needN, Pev.eAnd, Pev.eOr, Pev.eNot, Pev.eIf, Pev.mAnd, Pev.mOr, Pev.mNot, Pev.mB, Pev.mT, Pev.eChain, Pev.truth, Pev.ofT, Pev.ofB, Pev.R.d?, Pev.eLc, Pev.iOf, Pev.iArgs, Pev.gN, Pev.gTp, Pev.gsCons, Pev.gsNil, Pev.tv, Pev.eBMl, Pev.eFld, Pev.tYes', Pev.wipeR, Pev.permL, List.map_cons, List.map_nil, List.length_cons, List.length_nil, List.cons_append, List.nil_append, List.append_nil, List.replicate, List.getElem?_cons_zero, List.getElem?_cons_succ, List.getElem?_nil, List.set_cons_zero, List.set_cons_succ, List.set_nil, List.filterMap_cons, List.filterMap_nil, Option.map_some, Option.map_none, Option.bind_some, Option.bind_none, if_true, if_false, Bool.not_true, Bool.not_false, Nat.reduceSub, Nat.reduceAdd, Nat.reduceEqDiff, Nat.reduceLeDiff, reduceIte, ite_true, ite_false, Bool.true_eq_false, Bool.false_eq_true, ↓reduceIte, Nat.zero_add, Nat.add_zero, Nat.sub_zero, id_eq, Bool.or_false, Bool.or_true, Bool.true_or, Bool.false_or, Bool.and_true, Bool.true_and, Bool.and_false, Bool.false_and, Bool.and_self, Bool.or_self, eSl, oPart, toI_i, a4, ad, sl, lp, p5, it]
  have e8 : t8 [some (.ro (ns.map .int)), x1, some (.obj k), some (.dat (LI (os order))), some (nR n), x5, x6, x7, x8, x9, x10, x11, x12, some (.obj kr), some (.dat (.bool true)), x15, x16, x17] S = .nx [some (.ro (ns.map .int)), x1, some (.obj k), some (.dat (LI (os order))), some (nR n), x5, x6, x7, x8, x9, y10, x11, x12, some (.obj kr), some (.dat (.bool wh)), y15, x16, x17] S' := by
    show sFor _ (gN 15) b_part [some (.ro (ns.map .int)), x1, some (.obj k), some (.dat (LI (os order))), some (nR n), x5, x6, x7, x8, x9, x10, x11, x12, some (.obj kr), some (.dat (.bool true)), x15, x16, x17] S = _
    unfold sFor
    rw [ei]
    exact e
  exact ⟨ms, ps, prs, wh, S', y10, y15, sub, lm, p1, q1, q2, q3, q4, q6, e8⟩
def r99 : Rw := ⟨true, [99], [99]⟩
theorem rows_good {ms : List Nat} {ps : List (List Nat)} {prs : List (List Nat × Rw)} (hO : Ord order) (sub : ms.Sublist order) (lm : ms.length ≤ 4) (hp : ps.Perm (parts ms)) (h1 : (prs.map Prod.fst).Sublist ps) (h3 : ∀ pr ∈ prs, PrOk pr) : GR (prs.map Prod.snd ++ [r99]) ∧ (∀ pr ∈ prs, pr.2.lot.Nodup ∧ ∀ x ∈ pr.2.lot, x ∈ ms) := by
  obtain ⟨o1, o2, o3, o4⟩ := hO
  have nm := sub.nodup o1
  have mem : ∀ pr ∈ prs, pr.1.Sublist ms := fun pr hpr => prt_sub ms pr.1 (List.mem_of_mem_drop (hp.mem_iff.mp (h1.subset (List.mem_map.mpr ⟨pr, hpr, rfl⟩))))
  have lot : ∀ pr ∈ prs, pr.2.lot.Nodup ∧ ∀ x ∈ pr.2.lot, x ∈ ms := fun pr hpr => by
    obtain ⟨_, t2, _, _⟩ := h3 pr hpr
    exact ⟨(t2.nodup_iff).mpr ((mem pr hpr).nodup nm), fun x hx => (mem pr hpr).subset (t2.mem_iff.mp hx)⟩
  have pl : (parts ms).length ≤ 16 := by
    have := prt_len ms
    have p2 : 2 ^ ms.length ≤ 2 ^ 4 := Nat.pow_le_pow_right (by omega) lm
    unfold parts
    rw [List.length_drop]
    omega
  have lpr : prs.length ≤ 16 := by
    have := h1.length_le
    rw [List.length_map] at this
    have := hp.length_eq
    omega
  have un : ps.Pairwise fun a b => ¬ a.Perm b := (List.Perm.pairwise_iff (fun {x y} h z => h z.symm) hp).mpr (parts_un nm)
  have un2 := List.pairwise_map.mp (un.sublist h1)
  refine ⟨⟨fun r hr => ?_, List.pairwise_append.mpr ⟨?_, by simp, fun a ha b hb z => ?_⟩, by rw [List.length_append, List.length_map]; show _ + 1 ≤ 50; omega⟩, lot⟩
  · rcases List.mem_append.mp hr with hr | hr
    · obtain ⟨pr, hpr, rfl⟩ := List.mem_map.mp hr
      obtain ⟨_, t2, t3, t4⟩ := h3 pr hpr
      have l1 := (mem pr hpr).length_le
      have l2 := t2.length_eq
      have l3 := (flt_perm (lot pr hpr).1 t3 t4).length_eq
      have l4 : (flt pr.2.lot pr.2.kp).length ≤ pr.2.lot.length := List.length_filter_le _ _
      exact ⟨(lot pr hpr).1, t3, t4, by omega, by omega⟩
    · rw [List.mem_singleton.mp hr]
      exact ⟨by simp [r99], by simp [r99], fun x hx => hx, by simp [r99], by simp [r99]⟩
  · refine List.pairwise_map.mpr (un2.imp_of_mem fun {a b} ha hb hab z => hab ?_)
    exact (h3 a ha).2.1.symm.trans (z.trans (h3 b hb).2.1)
  · obtain ⟨pr, hpr, rfl⟩ := List.mem_map.mp ha
    rw [List.mem_singleton.mp hb] at z
    have : 99 ∈ pr.2.lot := z.mem_iff.mpr (by simp [r99])
    have := o2 99 (sub.subset ((lot pr hpr).2 99 this))
    omega
theorem t9_ok {rs : List Rw} (hS : S[kr]? = some (rowsC rs)) (h : Tk k S) (lr : rs.length ≤ 100) : ∃ (kr2 : Nat) (S' : Sto), kr2 ≠ k ∧ Tk k S' ∧ S'[kr2]? = some (rowsC (rs ++ [r99])) ∧ t9 [some (.ro (ns.map .int)), x1, x2, x3, x4, x5, x6, x7, x8, x9, x10, x11, x12, some (.obj kr), x14, x15, x16, x17] S = .nx [some (.ro (ns.map .int)), x1, x2, x3, x4, x5, x6, x7, x8, x9, x10, x11, x12, some (.obj kr2), x14, x15, x16, x17] S' := by
  have kl := h.lt
  have sz := sz_of (show rs.length + 1 ≤ 10000 by omega)
  have ad : bAdd true (.obj kr) (.dat (.list [.tuple [.tuple [.int 99], .tuple [.int 99]]])) S = .ok (.obj S.length) (S ++ [rowsC (rs ++ [r99])]) := by
    unfold bAdd
    dsimp only [lvt, lv]
    rw [hS]
    dsimp only
    rw [List.length_map, show (([PyData.tuple [.tuple [.int 99], .tuple [.int 99]]].map R.dat).length) = 1 from rfl, if_pos (of_eq_true sz)]
    show Out.ok (R.obj S.length) (S ++ [Cell.lst ((rs.map fun r => R.dat (rD true r)) ++ [.dat (rD true r99)])]) = .ok (R.obj S.length) (S ++ [Cell.lst ((rs ++ [r99]).map fun r => R.dat (rD true r))])
    rw [List.map_append]
    rfl
  have g1 : gTup [.dat (.int 99)] S = .ok (.dat (.tuple [.int 99])) S := rfl
  have g2 : gTup [.dat (.tuple [.int 99]), .dat (.tuple [.int 99])] S = .ok (.dat (.tuple [.tuple [.int 99], .tuple [.int 99]])) S := rfl
  have g3 : gLst false [.dat (.tuple [.tuple [.int 99], .tuple [.int 99]])] S = .ok (.dat (.list [.tuple [.tuple [.int 99], .tuple [.int 99]]])) S := rfl
  refine ⟨S.length, S ++ [rowsC (rs ++ [r99])], by omega, h.more _, by rw [List.getElem?_append_right (Nat.le_refl _), Nat.sub_self]; rfl, ?_⟩
  unfold t9
  simp only [Pev.fnB, Pev.OutS.toF, Pev.sCons, Pev.sSet, Pev.sRet, Pev.sRetN, Pev.sIf, Pev.sSkip, Pev.sExpr, Pev.sTgt, Pev.sFor, Pev.sRaise, Pev.sPut, Pev.sAugS, Pev.sPar2, Pev.sPar3, Pev.OutS.fade, Pev.OutS.calm, Pev.Out.toS, Pev.Out.bind, Pev.noX, Pev.eVar, Pev.eC, Pev.eBin, Pev.eUn, Pev.eArgs, Pev.aCons, Pev.aNil, Pev.needN, Pev.eAnd, Pev.eOr, Pev.eNot, Pev.eIf, Pev.mAnd, Pev.mOr, Pev.mNot, Pev.mB, Pev.mT, Pev.eChain, Pev.truth, Pev.ofT, Pev.ofB, Pev.R.d?, Pev.eLc, Pev.iOf, Pev.iArgs, Pev.gN, Pev.gTp, Pev.gsCons, Pev.gsNil, Pev.tv, Pev.eBMl, Pev.eFld, Pev.tYes', Pev.wipeR, Pev.permL, List.map_cons, List.map_nil, List.length_cons, List.length_nil, List.cons_append, List.nil_append, List.append_nil, List.replicate, List.getElem?_cons_zero, List.getElem?_cons_succ, List.getElem?_nil, List.set_cons_zero, List.set_cons_succ, List.set_nil, List.filterMap_cons, List.filterMap_nil, Option.map_some, Option.map_none, Option.bind_some, Option.bind_none, if_true, if_false, Bool.not_true, Bool.not_false, Nat.reduceSub, Nat.reduceAdd, Nat.reduceEqDiff, Nat.reduceLeDiff, reduceIte, ite_true, ite_false, Bool.true_eq_false, Bool.false_eq_true, ↓reduceIte, Nat.zero_add, Nat.add_zero, Nat.sub_zero, id_eq, Bool.or_false, Bool.or_true, Bool.true_or, Bool.false_or, Bool.and_true, Bool.true_and, Bool.and_false, Bool.false_and, Bool.and_self, Bool.or_self, g1, g2, g3, ad]
theorem t10_ok {rs : List Rw} (hG : GR rs) (hS : S[kr]? = some (rowsC rs)) : t10 [some (.ro (ns.map .int)), x1, x2, x3, some (nR n), x5, x6, x7, x8, x9, x10, x11, x12, some (.obj kr), x14, x15, x16, x17] S = .nx [some (.ro (ns.map .int)), x1, x2, x3, some (nR n), x5, x6, x7, x8, x9, x10, x11, x12, some (.obj kr), x14, x15, some (.dat (resD rs n)), x17] S := by
  have lf := hG.few
  have it := itO (f := rD true) hS
  have lc : lcLoop [(kr, rs.map fun r => R.dat (rD true r))] (gN 9) tYes' (eArgs (gList false) (aCons (eVar 9) aNil)) [some (.ro (ns.map .int)), x1, x2, x3, some (nR n), x5, x6, x7, x8, none, x10, x11, x12, some (.obj kr), x14, x15, x16, x17] (rs.map fun r => R.dat (rD true r)) S = .ok (rs.map fun r => R.dat (rD false r)) S := by
    have := lc_pure (keep := [(kr, rs.map fun r => R.dat (rD true r))]) (g := gN 9) (t := tYes') (elt := (eArgs (gList false) (aCons (eVar 9) aNil))) (ρ := [some (.ro (ns.map .int)), x1, x2, x3, some (nR n), x5, x6, x7, x8, none, x10, x11, x12, some (.obj kr), x14, x15, x16, x17]) (S := S) (fun r : Rw => R.dat (rD true r)) (fun _ => true) (fun r => R.dat (rD false r)) (st_of (f := rD true) same_rD hS) rs (fun r _ => ⟨_, rfl, rfl, fun _ => by
      have gl : gList false [.dat (rD true r)] S = .ok (.dat (rD false r)) S := rfl
      show (eArgs (gList false) (aCons (eVar 9) aNil)) [some (.ro (ns.map .int)), x1, x2, x3, some (nR n), x5, x6, x7, x8, some (.dat (rD true r)), x10, x11, x12, some (.obj kr), x14, x15, x16, x17] S = _
      simp only [Pev.fnB, Pev.OutS.toF, Pev.sCons, Pev.sSet, Pev.sRet, Pev.sRetN, Pev.sIf, Pev.sSkip, Pev.sExpr, Pev.sTgt, Pev.sFor, Pev.sRaise, Pev.sPut, Pev.sAugS, Pev.sPar2, Pev.sPar3, Pev.OutS.fade, Pev.OutS.calm, Pev.Out.toS, Pev.Out.bind, Pev.noX, Pev.eVar, Pev.eC, Pev.eBin, Pev.eUn, Pev.eArgs, Pev.aCons, Pev.aNil, Pev.needN, Pev.eAnd, Pev.eOr, Pev.eNot, Pev.eIf, Pev.mAnd, Pev.mOr, Pev.mNot, Pev.mB, Pev.mT, Pev.eChain, Pev.truth, Pev.ofT, Pev.ofB, Pev.R.d?, Pev.eLc, Pev.iOf, Pev.iArgs, Pev.gN, Pev.gTp, Pev.gsCons, Pev.gsNil, Pev.tv, Pev.eBMl, Pev.eFld, Pev.tYes', Pev.wipeR, Pev.permL, List.map_cons, List.map_nil, List.length_cons, List.length_nil, List.cons_append, List.nil_append, List.append_nil, List.replicate, List.getElem?_cons_zero, List.getElem?_cons_succ, List.getElem?_nil, List.set_cons_zero, List.set_cons_succ, List.set_nil, List.filterMap_cons, List.filterMap_nil, Option.map_some, Option.map_none, Option.bind_some, Option.bind_none, if_true, if_false, Bool.not_true, Bool.not_false, Nat.reduceSub, Nat.reduceAdd, Nat.reduceEqDiff, Nat.reduceLeDiff, reduceIte, ite_true, ite_false, Bool.true_eq_false, Bool.false_eq_true, ↓reduceIte, Nat.zero_add, Nat.add_zero, Nat.sub_zero, id_eq, Bool.or_false, Bool.or_true, Bool.true_or, Bool.false_or, Bool.and_true, Bool.true_and, Bool.and_false, Bool.false_and, Bool.and_self, Bool.or_self, gl]⟩)
    rw [List.filter_eq_self.mpr fun _ _ => rfl] at this
    exact this
  have sz := sz_of (show rs.length ≤ 10000 by omega)
  have nl := newL_f (rD false) rs S
  have pk := two_call (paper_ok (n := n) hG false) S
  unfold t10
  unfold nR at *
  simp only [Pev.fnB, Pev.OutS.toF, Pev.sCons, Pev.sSet, Pev.sRet, Pev.sRetN, Pev.sIf, Pev.sSkip, Pev.sExpr, Pev.sTgt, Pev.sFor, Pev.sRaise, Pev.sPut, Pev.sAugS, Pev.sPar2, Pev.sPar3, Pev.OutS.fade, Pev.OutS.calm, Pev.Out.toS, Pev.Out.bind, Pev.noX, Pev.eVar, Pev.eC, Pev.eBin, Pev.eUn, Pev.eArgs, Pev.aCons, Pev.aNil, Pev.needN, Pev.eAnd, Pev.eOr, Pev.eNot, Pev.eIf, Pev.mAnd, Pev.mOr, Pev.mNot, Pev.mB, Pev.mT, Pev.eChain, Pev.truth, Pev.ofT, Pev.ofB, Pev.R.d?, Pev.eLc, Pev.iOf, Pev.iArgs, Pev.gN, Pev.gTp, Pev.gsCons, Pev.gsNil, Pev.tv, Pev.eBMl, Pev.eFld, Pev.tYes', Pev.wipeR, Pev.permL, List.map_cons, List.map_nil, List.length_cons, List.length_nil, List.cons_append, List.nil_append, List.append_nil, List.replicate, List.getElem?_cons_zero, List.getElem?_cons_succ, List.getElem?_nil, List.set_cons_zero, List.set_cons_succ, List.set_nil, List.filterMap_cons, List.filterMap_nil, Option.map_some, Option.map_none, Option.bind_some, Option.bind_none, if_true, if_false, Bool.not_true, Bool.not_false, Nat.reduceSub, Nat.reduceAdd, Nat.reduceEqDiff, Nat.reduceLeDiff, reduceIte, ite_true, ite_false, Bool.true_eq_false, Bool.false_eq_true, ↓reduceIte, Nat.zero_add, Nat.add_zero, Nat.sub_zero, id_eq, Bool.or_false, Bool.or_true, Bool.true_or, Bool.false_or, Bool.and_true, Bool.true_and, Bool.and_false, Bool.false_and, Bool.and_self, Bool.or_self, it, List.length_map, sz, lc, nl, pk]
theorem res_cases (rs : List Rw) (n : Nat) : resD rs n = keptD ∨ ∃ i k, resD rs n = msd i k := by
  unfold resD
  cases q : missR rs n with
  | none => exact .inl rfl
  | some r =>
    obtain ⟨i, k, rfl⟩ := missR_dat q
    exact .inr ⟨i, k, rfl⟩
theorem kept_fit : Fit 1 keptD := ⟨by kernel_rfl, by show _ ≤ _; decide⟩
theorem msd_fit (i k : Nat) : Fit 1 (msd i k) := fit_tup fun d hd => by
  simp only [List.mem_cons, List.not_mem_nil, or_false] at hd
  rcases hd with rfl | rfl | rfl
  · exact ⟨by kernel_rfl, Nat.zero_le _⟩
  · exact fit_int 0 _
  · exact fit_int 0 _
theorem res_fit (rs : List Rw) (n : Nat) : Fit 1 (resD rs n) := by
  rcases res_cases rs n with e | ⟨i, k, e⟩ <;> rw [e]
  · exact kept_fit
  · exact msd_fit i k
theorem res_free (rs : List Rw) (n : Nat) : free (resD rs n) = true := by
  rcases res_cases rs n with e | ⟨i, k, e⟩ <;> rw [e] <;> rfl
theorem t11_ok {rs : List Rw} (hG : GR rs) (hS : S[kr]? = some (rowsC rs)) : t11 [some (.ro (ns.map .int)), x1, x2, x3, some (nR n), x5, x6, x7, x8, x9, x10, x11, x12, some (.obj kr), x14, x15, some (.dat (resD rs n)), x17] S = .nx [some (.ro (ns.map .int)), x1, x2, x3, some (nR n), x5, x6, x7, x8, x9, x10, x11, x12, some (.obj kr), x14, x15, some (.dat (resD rs n)), x17] S := by
  have c : pureF m__law_missed [.obj kr, .dat (.int (n : Nat))] S = .ok (.dat (resD rs n)) S := pure_gives (missed_ok (n := n) hG) (by
    rw [List.mapM_cons, List.mapM_cons, snap_dat, show snap S depS (.obj kr) = some (.list (rs.map (rD true))) from snap_obj (rD true) rs hS]
    rfl) (by rw [res_free]; exact Bool.or_true _)
  have sm : bEq true (.dat (resD rs n)) (.dat (resD rs n)) S = .ok (.dat (.bool false)) S := beq_same (res_fit rs n)
  unfold t11
  unfold nR at *
  simp only [Pev.fnB, Pev.OutS.toF, Pev.sCons, Pev.sSet, Pev.sRet, Pev.sRetN, Pev.sIf, Pev.sSkip, Pev.sExpr, Pev.sTgt, Pev.sFor, Pev.sRaise, Pev.sPut, Pev.sAugS, Pev.sPar2, Pev.sPar3, Pev.OutS.fade, Pev.OutS.calm, Pev.Out.toS, Pev.Out.bind, Pev.noX, Pev.eVar, Pev.eC, Pev.eBin, Pev.eUn, Pev.eArgs, Pev.aCons, Pev.aNil, Pev.needN, Pev.eAnd, Pev.eOr, Pev.eNot, Pev.eIf, Pev.mAnd, Pev.mOr, Pev.mNot, Pev.mB, Pev.mT, Pev.eChain, Pev.truth, Pev.ofT, Pev.ofB, Pev.R.d?, Pev.eLc, Pev.iOf, Pev.iArgs, Pev.gN, Pev.gTp, Pev.gsCons, Pev.gsNil, Pev.tv, Pev.eBMl, Pev.eFld, Pev.tYes', Pev.wipeR, Pev.permL, List.map_cons, List.map_nil, List.length_cons, List.length_nil, List.cons_append, List.nil_append, List.append_nil, List.replicate, List.getElem?_cons_zero, List.getElem?_cons_succ, List.getElem?_nil, List.set_cons_zero, List.set_cons_succ, List.set_nil, List.filterMap_cons, List.filterMap_nil, Option.map_some, Option.map_none, Option.bind_some, Option.bind_none, if_true, if_false, Bool.not_true, Bool.not_false, Nat.reduceSub, Nat.reduceAdd, Nat.reduceEqDiff, Nat.reduceLeDiff, reduceIte, ite_true, ite_false, Bool.true_eq_false, Bool.false_eq_true, ↓reduceIte, Nat.zero_add, Nat.add_zero, Nat.sub_zero, id_eq, Bool.or_false, Bool.or_true, Bool.true_or, Bool.false_or, Bool.and_true, Bool.true_and, Bool.and_false, Bool.false_and, Bool.and_self, Bool.or_self, c, sm]
def wLc : EM := (eLc false (iOf (eVar 13)) (gTp 2 (gsCons (gN 7) (gsCons (gN 10) gsNil))) (mB (eBin bLt (eArgs gLen (aCons (eVar 10) aNil)) (eArgs gMin2 (aCons (eArgs gLen (aCons (eVar 7) aNil)) (aCons (eBin (bAdd false) (eVar 4) (eC (.int 1))) aNil))))) (eVar 7) [7, 10])
def wT1 : TM := (mB (eBin (bEq false) (eVar 16) (eArgs gTup (aCons (eC (.str "kept")) aNil))))
def wT2 : TM := (mT (eVar 14))
def wT3 : TM := (mB (eBin (bEq true) wLc (eArgs (gLst false) aNil)))
theorem t12_eq : t12 = sIf (mAnd wT1 (mAnd wT2 wT3)) (sRet (eC (.bool false))) sSkip := rfl
theorem mAnd_no {a b : TM} {ρ : Rho} {S : Sto} (h : a ρ S = .ok false S) : mAnd a b ρ S = .ok false S := by
  unfold mAnd
  rw [h]
  rfl
theorem eqv_msd (i k : Nat) : PyData.eqv (msd i k) keptD = false := by kernel_rfl
theorem wLc_ok {rs : List Rw} (hG : GR rs) (hS : S[kr]? = some (rowsC rs)) (hne : ∀ r ∈ rs, ¬ (r.kp.length < r.lot.length ∧ r.kp.length ≤ n)) : wLc [some (.ro (ns.map .int)), x1, x2, x3, some (nR n), x5, x6, x7, x8, x9, x10, x11, x12, some (.obj kr), x14, x15, x16, x17] S = .ok (.dat (.list [])) S := by
  have lf := hG.few
  have it := itO (f := rD true) hS
  have lc := lc_pure (keep := [(kr, rs.map fun r => R.dat (rD true r))]) (g := (gTp 2 (gsCons (gN 7) (gsCons (gN 10) gsNil)))) (t := (mB (eBin bLt (eArgs gLen (aCons (eVar 10) aNil)) (eArgs gMin2 (aCons (eArgs gLen (aCons (eVar 7) aNil)) (aCons (eBin (bAdd false) (eVar 4) (eC (.int 1))) aNil)))))) (elt := eVar 7) (ρ := [some (.ro (ns.map .int)), x1, x2, x3, some (nR n), x5, x6, none, x8, x9, none, x11, x12, some (.obj kr), x14, x15, x16, x17]) (S := S) (fun r : Rw => R.dat (rD true r)) (fun _ => false) (fun r => R.dat (rD true r)) (st_of (f := rD true) same_rD hS) rs (fun r hr => by
    obtain ⟨h1, h2, h3, h4, h5⟩ := hG.nl r hr
    have hz := hne r hr
    have g1 : gLen [.dat (TU (os r.kp))] S = .ok (nR r.kp.length) S := by
      have : gLen [.dat (TU (os r.kp))] S = _ := len_sq true (os r.kp) (by rw [os_len]; omega) S
      rwa [os_len] at this
    have g2 : gLen [.dat (sq r.t (os r.lot))] S = .ok (nR r.lot.length) S := by
      have := len_sq r.t (os r.lot) (by rw [os_len]; omega) S
      rwa [os_len] at this
    have mi := min_ii (r.lot.length : Int) ((n + 1 : Nat) : Int) S
    have lt := lt_ii (r.kp.length : Int) (if ((n + 1 : Nat) : Int) < (r.lot.length : Int) then ((n + 1 : Nat) : Int) else (r.lot.length : Int)) S
    rw [decide_eq_false (by split <;> omega)] at lt
    refine ⟨_, rfl, ?_, fun h => by cases h⟩
    show (mB (eBin bLt (eArgs gLen (aCons (eVar 10) aNil)) (eArgs gMin2 (aCons (eArgs gLen (aCons (eVar 7) aNil)) (aCons (eBin (bAdd false) (eVar 4) (eC (.int 1))) aNil))))) [some (.ro (ns.map .int)), x1, x2, x3, some (nR n), x5, x6, some (.dat (sq r.t (os r.lot))), x8, x9, some (.dat (TU (os r.kp))), x11, x12, some (.obj kr), x14, x15, x16, x17] S = _
    unfold nR at *
    simp only [Pev.fnB, Pev.OutS.toF, Pev.sCons, Pev.sSet, Pev.sRet, Pev.sRetN, Pev.sIf, Pev.sSkip, Pev.sExpr, Pev.sTgt, Pev.sFor, Pev.sRaise, Pev.sPut, Pev.sAugS, Pev.sPar2, Pev.sPar3, Pev.OutS.fade, Pev.OutS.calm, Pev.Out.toS, Pev.Out.bind, Pev.noX, Pev.eVar, Pev.eC, Pev.eBin, Pev.eUn, Pev.eArgs, Pev.aCons, Pev.aNil, Pev.needN, Pev.eAnd, Pev.eOr, Pev.eNot, Pev.eIf, Pev.mAnd, Pev.mOr, Pev.mNot, Pev.mB, Pev.mT, Pev.eChain, Pev.truth, Pev.ofT, Pev.ofB, Pev.R.d?, Pev.eLc, Pev.iOf, Pev.iArgs, Pev.gN, Pev.gTp, Pev.gsCons, Pev.gsNil, Pev.tv, Pev.eBMl, Pev.eFld, Pev.tYes', Pev.wipeR, Pev.permL, List.map_cons, List.map_nil, List.length_cons, List.length_nil, List.cons_append, List.nil_append, List.append_nil, List.replicate, List.getElem?_cons_zero, List.getElem?_cons_succ, List.getElem?_nil, List.set_cons_zero, List.set_cons_succ, List.set_nil, List.filterMap_cons, List.filterMap_nil, Option.map_some, Option.map_none, Option.bind_some, Option.bind_none, if_true, if_false, Bool.not_true, Bool.not_false, Nat.reduceSub, Nat.reduceAdd, Nat.reduceEqDiff, Nat.reduceLeDiff, reduceIte, ite_true, ite_false, Bool.true_eq_false, Bool.false_eq_true, ↓reduceIte, Nat.zero_add, Nat.add_zero, Nat.sub_zero, id_eq, Bool.or_false, Bool.or_true, Bool.true_or, Bool.false_or, Bool.and_true, Bool.true_and, Bool.and_false, Bool.false_and, Bool.and_self, Bool.or_self, g1, g2, add_n1, mi, lt])
  have fl : rs.filter (fun _ => false) = [] := List.filter_eq_nil_iff.mpr fun _ _ h => by cases h
  rw [fl] at lc
  have sz := sz_of (show rs.length ≤ 10000 by omega)
  have nl : newL false [] S = .ok (.dat (.list [])) S := rfl
  unfold wLc
  simp only [Pev.fnB, Pev.OutS.toF, Pev.sCons, Pev.sSet, Pev.sRet, Pev.sRetN, Pev.sIf, Pev.sSkip, Pev.sExpr, Pev.sTgt, Pev.sFor, Pev.sRaise, Pev.sPut, Pev.sAugS, Pev.sPar2, Pev.sPar3, Pev.OutS.fade, Pev.OutS.calm, Pev.Out.toS, Pev.Out.bind, Pev.noX, Pev.eVar, Pev.eC, Pev.eBin, Pev.eUn, Pev.eArgs, Pev.aCons, Pev.aNil, Pev.needN, Pev.eAnd, Pev.eOr, Pev.eNot, Pev.eIf, Pev.mAnd, Pev.mOr, Pev.mNot, Pev.mB, Pev.mT, Pev.eChain, Pev.truth, Pev.ofT, Pev.ofB, Pev.R.d?, Pev.eLc, Pev.iOf, Pev.iArgs, Pev.gN, Pev.gTp, Pev.gsCons, Pev.gsNil, Pev.tv, Pev.eBMl, Pev.eFld, Pev.tYes', Pev.wipeR, Pev.permL, List.map_cons, List.map_nil, List.length_cons, List.length_nil, List.cons_append, List.nil_append, List.append_nil, List.replicate, List.getElem?_cons_zero, List.getElem?_cons_succ, List.getElem?_nil, List.set_cons_zero, List.set_cons_succ, List.set_nil, List.filterMap_cons, List.filterMap_nil, Option.map_some, Option.map_none, Option.bind_some, Option.bind_none, if_true, if_false, Bool.not_true, Bool.not_false, Nat.reduceSub, Nat.reduceAdd, Nat.reduceEqDiff, Nat.reduceLeDiff, reduceIte, ite_true, ite_false, Bool.true_eq_false, Bool.false_eq_true, ↓reduceIte, Nat.zero_add, Nat.add_zero, Nat.sub_zero, id_eq, Bool.or_false, Bool.or_true, Bool.true_or, Bool.false_or, Bool.and_true, Bool.true_and, Bool.and_false, Bool.false_and, Bool.and_self, Bool.or_self, it, List.length_map, sz, lc, nl]
theorem t12_ok {rs : List Rw} (hG : GR rs) (hS : S[kr]? = some (rowsC rs)) (hne : wh = true → resD rs n = keptD → ∀ r ∈ rs, ¬ (r.kp.length < r.lot.length ∧ r.kp.length ≤ n)) : t12 [some (.ro (ns.map .int)), x1, x2, x3, some (nR n), x5, x6, x7, x8, x9, x10, x11, x12, some (.obj kr), some (.dat (.bool wh)), x15, some (.dat (resD rs n)), x17] S = .nx [some (.ro (ns.map .int)), x1, x2, x3, some (nR n), x5, x6, x7, x8, x9, x10, x11, x12, some (.obj kr), some (.dat (.bool wh)), x15, some (.dat (resD rs n)), x17] S := by
  have tp : gTup [.dat (.str "kept")] S = .ok (.dat keptD) S := rfl
  have t : mAnd wT1 (mAnd wT2 wT3) [some (.ro (ns.map .int)), x1, x2, x3, some (nR n), x5, x6, x7, x8, x9, x10, x11, x12, some (.obj kr), some (.dat (.bool wh)), x15, some (.dat (resD rs n)), x17] S = .ok false S := by
    rcases res_cases rs n with e | ⟨i, k, e⟩
    · rw [e]
      have sm : bEq false (.dat keptD) (.dat keptD) S = .ok (.dat (.bool true)) S := beq_same kept_fit
      have w1 : wT1 [some (.ro (ns.map .int)), x1, x2, x3, some (nR n), x5, x6, x7, x8, x9, x10, x11, x12, some (.obj kr), some (.dat (.bool wh)), x15, some (.dat keptD), x17] S = .ok true S := by
        unfold wT1
        simp only [Pev.fnB, Pev.OutS.toF, Pev.sCons, Pev.sSet, Pev.sRet, Pev.sRetN, Pev.sIf, Pev.sSkip, Pev.sExpr, Pev.sTgt, Pev.sFor, Pev.sRaise, Pev.sPut, Pev.sAugS, Pev.sPar2, Pev.sPar3, Pev.OutS.fade, Pev.OutS.calm, Pev.Out.toS, Pev.Out.bind, Pev.noX, Pev.eVar, Pev.eC, Pev.eBin, Pev.eUn, Pev.eArgs, Pev.aCons, Pev.aNil, Pev.needN, Pev.eAnd, Pev.eOr, Pev.eNot, Pev.eIf, Pev.mAnd, Pev.mOr, Pev.mNot, Pev.mB, Pev.mT, Pev.eChain, Pev.truth, Pev.ofT, Pev.ofB, Pev.R.d?, Pev.eLc, Pev.iOf, Pev.iArgs, Pev.gN, Pev.gTp, Pev.gsCons, Pev.gsNil, Pev.tv, Pev.eBMl, Pev.eFld, Pev.tYes', Pev.wipeR, Pev.permL, List.map_cons, List.map_nil, List.length_cons, List.length_nil, List.cons_append, List.nil_append, List.append_nil, List.replicate, List.getElem?_cons_zero, List.getElem?_cons_succ, List.getElem?_nil, List.set_cons_zero, List.set_cons_succ, List.set_nil, List.filterMap_cons, List.filterMap_nil, Option.map_some, Option.map_none, Option.bind_some, Option.bind_none, if_true, if_false, Bool.not_true, Bool.not_false, Nat.reduceSub, Nat.reduceAdd, Nat.reduceEqDiff, Nat.reduceLeDiff, reduceIte, ite_true, ite_false, Bool.true_eq_false, Bool.false_eq_true, ↓reduceIte, Nat.zero_add, Nat.add_zero, Nat.sub_zero, id_eq, Bool.or_false, Bool.or_true, Bool.true_or, Bool.false_or, Bool.and_true, Bool.true_and, Bool.and_false, Bool.false_and, Bool.and_self, Bool.or_self, tp, sm]
      cases wh with
      | false => exact mAnd_ok w1 (mAnd_no rfl)
      | true =>
        have w := wLc_ok (ns := ns) (n := n) (x1 := x1) (x2 := x2) (x3 := x3) (x5 := x5) (x6 := x6) (x7 := x7) (x8 := x8) (x9 := x9) (x10 := x10) (x11 := x11) (x12 := x12) (x14 := some (.dat (.bool true))) (x15 := x15) (x16 := some (.dat keptD)) (x17 := x17) hG hS (hne rfl e)
        have be : bEq true (.dat (.list [])) (.dat (.list [])) S = .ok (.dat (.bool false)) S := rfl
        have gg : gLst false [] S = .ok (.dat (.list [])) S := rfl
        have w3 : wT3 [some (.ro (ns.map .int)), x1, x2, x3, some (nR n), x5, x6, x7, x8, x9, x10, x11, x12, some (.obj kr), some (.dat (.bool true)), x15, some (.dat keptD), x17] S = .ok false S := by
          unfold wT3
          generalize wLc = mm at w
          unfold nR at *
          simp only [Pev.fnB, Pev.OutS.toF, Pev.sCons, Pev.sSet, Pev.sRet, Pev.sRetN, Pev.sIf, Pev.sSkip, Pev.sExpr, Pev.sTgt, Pev.sFor, Pev.sRaise, Pev.sPut, Pev.sAugS, Pev.sPar2, Pev.sPar3, Pev.OutS.fade, Pev.OutS.calm, Pev.Out.toS, Pev.Out.bind, Pev.noX, Pev.eVar, Pev.eC, Pev.eBin, Pev.eUn, Pev.eArgs, Pev.aCons, Pev.aNil, Pev.needN, Pev.eAnd, Pev.eOr, Pev.eNot, Pev.eIf, Pev.mAnd, Pev.mOr, Pev.mNot, Pev.mB, Pev.mT, Pev.eChain, Pev.truth, Pev.ofT, Pev.ofB, Pev.R.d?, Pev.eLc, Pev.iOf, Pev.iArgs, Pev.gN, Pev.gTp, Pev.gsCons, Pev.gsNil, Pev.tv, Pev.eBMl, Pev.eFld, Pev.tYes', Pev.wipeR, Pev.permL, List.map_cons, List.map_nil, List.length_cons, List.length_nil, List.cons_append, List.nil_append, List.append_nil, List.replicate, List.getElem?_cons_zero, List.getElem?_cons_succ, List.getElem?_nil, List.set_cons_zero, List.set_cons_succ, List.set_nil, List.filterMap_cons, List.filterMap_nil, Option.map_some, Option.map_none, Option.bind_some, Option.bind_none, if_true, if_false, Bool.not_true, Bool.not_false, Nat.reduceSub, Nat.reduceAdd, Nat.reduceEqDiff, Nat.reduceLeDiff, reduceIte, ite_true, ite_false, Bool.true_eq_false, Bool.false_eq_true, ↓reduceIte, Nat.zero_add, Nat.add_zero, Nat.sub_zero, id_eq, Bool.or_false, Bool.or_true, Bool.true_or, Bool.false_or, Bool.and_true, Bool.true_and, Bool.and_false, Bool.false_and, Bool.and_self, Bool.or_self, w, gg, be]
        exact mAnd_ok w1 (mAnd_ok (p := true) rfl w3)
    · rw [e]
      have sm : bEq false (.dat (msd i k)) (.dat keptD) S = .ok (.dat (.bool false)) S := by
        rw [beq_dat (msd_fit i k).shaped kept_fit.shaped, if_neg (by simp), eqv_msd]
      refine mAnd_no ?_
      unfold wT1
      simp only [Pev.fnB, Pev.OutS.toF, Pev.sCons, Pev.sSet, Pev.sRet, Pev.sRetN, Pev.sIf, Pev.sSkip, Pev.sExpr, Pev.sTgt, Pev.sFor, Pev.sRaise, Pev.sPut, Pev.sAugS, Pev.sPar2, Pev.sPar3, Pev.OutS.fade, Pev.OutS.calm, Pev.Out.toS, Pev.Out.bind, Pev.noX, Pev.eVar, Pev.eC, Pev.eBin, Pev.eUn, Pev.eArgs, Pev.aCons, Pev.aNil, Pev.needN, Pev.eAnd, Pev.eOr, Pev.eNot, Pev.eIf, Pev.mAnd, Pev.mOr, Pev.mNot, Pev.mB, Pev.mT, Pev.eChain, Pev.truth, Pev.ofT, Pev.ofB, Pev.R.d?, Pev.eLc, Pev.iOf, Pev.iArgs, Pev.gN, Pev.gTp, Pev.gsCons, Pev.gsNil, Pev.tv, Pev.eBMl, Pev.eFld, Pev.tYes', Pev.wipeR, Pev.permL, List.map_cons, List.map_nil, List.length_cons, List.length_nil, List.cons_append, List.nil_append, List.append_nil, List.replicate, List.getElem?_cons_zero, List.getElem?_cons_succ, List.getElem?_nil, List.set_cons_zero, List.set_cons_succ, List.set_nil, List.filterMap_cons, List.filterMap_nil, Option.map_some, Option.map_none, Option.bind_some, Option.bind_none, if_true, if_false, Bool.not_true, Bool.not_false, Nat.reduceSub, Nat.reduceAdd, Nat.reduceEqDiff, Nat.reduceLeDiff, reduceIte, ite_true, ite_false, Bool.true_eq_false, Bool.false_eq_true, ↓reduceIte, Nat.zero_add, Nat.add_zero, Nat.sub_zero, id_eq, Bool.or_false, Bool.or_true, Bool.true_or, Bool.false_or, Bool.and_true, Bool.true_and, Bool.and_false, Bool.false_and, Bool.and_self, Bool.or_self, tp, sm]
  rw [t12_eq]
  exact (sif_f t).trans rfl
theorem t13_ok {rs : List Rw} (h : Tk k S) (hO : Ord order) (hG : GR rs) (h1 : 0 < rs.length) (hS : S[kr]? = some (rowsC rs)) (n2 : kr ≠ k) : ∃ S', t13 [some (.ro (ns.map .int)), x1, some (.obj k), some (.dat (LI (os order))), x4, x5, x6, x7, x8, x9, x10, x11, x12, some (.obj kr), x14, x15, x16, x17] S = .nx [some (.ro (ns.map .int)), x1, some (.obj k), some (.dat (LI (os order))), x4, x5, x6, x7, x8, x9, x10, x11, x12, some (.obj kr), x14, x15, x16, x17] S' := by
  obtain ⟨o1, o2, o3, o4⟩ := hO
  obtain ⟨S', e⟩ := errors_ok h hS n2 o1 (by omega) (by omega) hG h1
  refine ⟨S', ?_⟩
  unfold t13
  simp only [Pev.fnB, Pev.OutS.toF, Pev.sCons, Pev.sSet, Pev.sRet, Pev.sRetN, Pev.sIf, Pev.sSkip, Pev.sExpr, Pev.sTgt, Pev.sFor, Pev.sRaise, Pev.sPut, Pev.sAugS, Pev.sPar2, Pev.sPar3, Pev.OutS.fade, Pev.OutS.calm, Pev.Out.toS, Pev.Out.bind, Pev.noX, Pev.eVar, Pev.eC, Pev.eBin, Pev.eUn, Pev.eArgs, Pev.aCons, Pev.aNil, Pev.needN, Pev.eAnd, Pev.eOr, Pev.eNot, Pev.eIf, Pev.mAnd, Pev.mOr, Pev.mNot, Pev.mB, Pev.mT, Pev.eChain, Pev.truth, Pev.ofT, Pev.ofB, Pev.R.d?, Pev.eLc, Pev.iOf, Pev.iArgs, Pev.gN, Pev.gTp, Pev.gsCons, Pev.gsNil, Pev.tv, Pev.eBMl, Pev.eFld, Pev.tYes', Pev.wipeR, Pev.permL, List.map_cons, List.map_nil, List.length_cons, List.length_nil, List.cons_append, List.nil_append, List.append_nil, List.replicate, List.getElem?_cons_zero, List.getElem?_cons_succ, List.getElem?_nil, List.set_cons_zero, List.set_cons_succ, List.set_nil, List.filterMap_cons, List.filterMap_nil, Option.map_some, Option.map_none, Option.bind_some, Option.bind_none, if_true, if_false, Bool.not_true, Bool.not_false, Nat.reduceSub, Nat.reduceAdd, Nat.reduceEqDiff, Nat.reduceLeDiff, reduceIte, ite_true, ite_false, Bool.true_eq_false, Bool.false_eq_true, ↓reduceIte, Nat.zero_add, Nat.add_zero, Nat.sub_zero, id_eq, Bool.or_false, Bool.or_true, Bool.true_or, Bool.false_or, Bool.and_true, Bool.true_and, Bool.and_false, Bool.false_and, Bool.and_self, Bool.or_self, e]
end
/-! ### the law -/
abbrev rT (ns : List Int) (x1 x2 x3 x4 x5 x6 x7 x8 x9 x10 x11 x12 x13 x14 x15 x16 x17 : Option R) : Rho := [some (.ro (ns.map .int)), x1, x2, x3, x4, x5, x6, x7, x8, x9, x10, x11, x12, x13, x14, x15, x16, x17]
theorem turn_ok {ns : List Int} {S : Sto} {x2 x3 x4 x5 x6 x7 x8 x9 x10 x11 x12 x13 x14 x15 x16 x17 : Option R} (hl : ns.length ≤ 63) {j : Nat} (hj : j < 100) : ∃ (y2 y3 y4 y5 y6 y7 y8 y9 y10 y11 y12 y13 y14 y15 y16 y17 : Option R) (S' : Sto), b_turn (rT ns (some (nR j)) x2 x3 x4 x5 x6 x7 x8 x9 x10 x11 x12 x13 x14 x15 x16 x17) S = .nx (rT ns (some (nR j)) y2 y3 y4 y5 y6 y7 y8 y9 y10 y11 y12 y13 y14 y15 y16 y17) S' := by
  obtain ⟨k, S1, k1, e1⟩ := t1_ok (ns := ns) (S := S) (x2 := x2) (x4 := x4) (x5 := x5) (x6 := x6) (x7 := x7) (x8 := x8) (x9 := x9) (x10 := x10) (x11 := x11) (x12 := x12) (x13 := x13) (x14 := x14) (x15 := x15) (x16 := x16) (x17 := x17) (x3 := x3) hj hl
  obtain ⟨ys, r, m, S2, p1, p2, p3, k2, p4, p5, e2⟩ := t2_ok (ns := ns) (x1 := some (nR j)) (x4 := x4) (x5 := x5) (x6 := x6) (x7 := x7) (x8 := x8) (x9 := x9) (x10 := x10) (x11 := x11) (x12 := x12) (x13 := x13) (x14 := x14) (x15 := x15) (x16 := x16) (x17 := x17) (x3 := x3) k1
  obtain ⟨order, S3, hO, k3, e3⟩ := t3_ok (ns := ns) (x1 := some (nR j)) (x4 := x4) (x5 := x5) (x6 := x6) (x7 := x7) (x8 := x8) (x9 := x9) (x10 := x10) (x11 := x11) (x12 := x12) (x13 := x13) (x14 := x14) (x15 := x15) (x16 := x16) (x17 := x17) k2 p1 p2 p3 p4 p5
  obtain ⟨n, kt, S4, hn, q1, k4, q2, e4⟩ := t4_ok (ns := ns) (x1 := some (nR j)) (x3 := some (.dat (LI (os order)))) (x4 := x4) (x5 := x5) (x6 := x6) (x7 := x7) (x8 := x8) (x9 := x9) (x10 := x10) (x11 := x11) (x12 := x12) (x13 := x13) (x14 := x14) (x15 := x15) (x16 := x16) (x17 := x17) k3
  obtain ⟨told, S5, y6, y7, y8, y9, y10, h1, h2, k5, h3, e5⟩ := t5_ok (ns := ns) (x1 := some (nR j)) (x6 := x6) (x7 := x7) (x8 := x8) (x9 := x9) (x10 := x10) (x11 := x11) (x12 := x12) (x13 := x13) (x14 := x14) (x15 := x15) (x16 := x16) (x17 := x17) k4 hO hn q1 q2
  obtain ⟨z7, z10, z11, z12, e6⟩ := t6_ok (ns := ns) (x1 := some (nR j)) (x2 := some (.obj k)) (x3 := some (.dat (LI (os order)))) (x6 := y6) (x7 := y7) (x8 := y8) (x9 := y9) (x10 := y10) (x11 := x11) (x12 := x12) (x13 := x13) (x14 := x14) (x15 := x15) (x16 := x16) (x17 := x17) hO h1 h3
  obtain ⟨kr, S7, r1, k7, r2, e7⟩ := t7_ok (ns := ns) (x1 := some (nR j)) (x2 := some (.obj k)) (x3 := some (.dat (LI (os order)))) (x4 := some (nR n)) (x5 := some (.obj kt)) (x6 := y6) (x7 := z7) (x8 := y8) (x9 := y9) (x10 := z10) (x11 := z11) (x12 := z12) (x13 := x13) (x14 := x14) (x15 := x15) (x16 := x16) (x17 := x17) k5
  obtain ⟨ms, ps, prs, wh, S8, w10, w15, s1, s2, s3, s4, s5, s6, k8, s7, e8⟩ := t8_ok (ns := ns) (x1 := some (nR j)) (x5 := some (.obj kt)) (x6 := y6) (x7 := z7) (x8 := y8) (x9 := y9) (x10 := z10) (x11 := z11) (x12 := z12) (x15 := x15) (x16 := x16) (x17 := x17) k7 hO hn r2 r1
  obtain ⟨hG, hL⟩ := rows_good hO s1 s2 s3 s4 s6
  have lpr : (prs.map Prod.snd).length ≤ 100 := by
    have := hG.few
    rw [List.length_append] at this
    have : [r99].length = 1 := rfl
    omega
  obtain ⟨kr2, S9, v1, k9, v2, e9⟩ := t9_ok (ns := ns) (x1 := some (nR j)) (x2 := some (.obj k)) (x3 := some (.dat (LI (os order)))) (x4 := some (nR n)) (x5 := some (.obj kt)) (x6 := y6) (x7 := z7) (x8 := y8) (x9 := y9) (x10 := w10) (x11 := z11) (x12 := z12) (x14 := some (.dat (.bool wh))) (x15 := w15) (x16 := x16) (x17 := x17) s7 k8 lpr
  have e10 := t10_ok (ns := ns) (n := n) (x1 := some (nR j)) (x2 := some (.obj k)) (x3 := some (.dat (LI (os order)))) (x5 := some (.obj kt)) (x6 := y6) (x7 := z7) (x8 := y8) (x9 := y9) (x10 := w10) (x11 := z11) (x12 := z12) (x14 := some (.dat (.bool wh))) (x15 := w15) (x16 := x16) (x17 := x17) hG v2
  have e11 := t11_ok (ns := ns) (n := n) (x1 := some (nR j)) (x2 := some (.obj k)) (x3 := some (.dat (LI (os order)))) (x5 := some (.obj kt)) (x6 := y6) (x7 := z7) (x8 := y8) (x9 := y9) (x10 := w10) (x11 := z11) (x12 := z12) (x14 := some (.dat (.bool wh))) (x15 := w15) (x17 := x17) hG v2
  have hne : wh = true → resD (prs.map Prod.snd ++ [r99]) n = keptD → ∀ r ∈ prs.map Prod.snd ++ [r99], ¬ (r.kp.length < r.lot.length ∧ r.kp.length ≤ n) := fun hw hk r hr => by
    rcases List.mem_append.mp hr with hr1 | hr1
    · obtain ⟨pr, hpr, rfl⟩ := List.mem_map.mp hr1
      obtain ⟨_, t2, t3, t4⟩ := s6 pr hpr
      refine enough (ms := ms) hk (s1.nodup hO.1) hr (hL pr hpr).1 t3 t4 (hL pr hpr).2 fun p hp => ?_
      have : p ∈ prs.map Prod.fst := by rw [s5 hw]; exact s3.mem_iff.mpr hp
      obtain ⟨q, hq, rfl⟩ := List.mem_map.mp this
      exact ⟨q.2, List.mem_append_left _ (List.mem_map.mpr ⟨q, hq, rfl⟩), (s6 q hq).2.1, (s6 q hq).2.2.2⟩
    · rw [List.mem_singleton.mp hr1]
      rintro ⟨z, _⟩
      exact absurd z (by simp [r99])
  have e12 := t12_ok (ns := ns) (n := n) (wh := wh) (x1 := some (nR j)) (x2 := some (.obj k)) (x3 := some (.dat (LI (os order)))) (x5 := some (.obj kt)) (x6 := y6) (x7 := z7) (x8 := y8) (x9 := y9) (x10 := w10) (x11 := z11) (x12 := z12) (x15 := w15) (x17 := x17) hG v2 hne
  obtain ⟨S13, e13⟩ := t13_ok (ns := ns) (x1 := some (nR j)) (x4 := some (nR n)) (x5 := some (.obj kt)) (x6 := y6) (x7 := z7) (x8 := y8) (x9 := y9) (x10 := w10) (x11 := z11) (x12 := z12) (x14 := some (.dat (.bool wh))) (x15 := w15) (x16 := some (.dat (resD (prs.map Prod.snd ++ [r99]) n))) (x17 := x17) k9 hO hG (by rw [List.length_append]; show 0 < _ + 1; omega) v2 v1
  have all := (congrFun (congrFun b_turn_eq _) _).trans ((cons_nx e1).trans ((cons_nx e2).trans ((cons_nx e3).trans ((cons_nx e4).trans ((cons_nx e5).trans ((cons_nx e6).trans ((cons_nx e7).trans ((cons_nx e8).trans ((cons_nx e9).trans ((cons_nx e10).trans ((cons_nx e11).trans ((cons_nx e12).trans e13))))))))))))
  exact ⟨_, _, _, _, _, _, _, _, _, _, _, _, _, _, _, _,  S13, all⟩
theorem c1_ok (ρ : Rho) : c1 ρ [] = .nx ρ [] := by kernel_rfl
theorem c2_ok (ρ : Rho) : c2 ρ [] = .nx ρ [] := by kernel_rfl
theorem c3_ok {ns : List Int} (hl : ns.length ≤ 63) : ∃ ρ S, c3 (rT ns none none none none none none none none none none none none none none none none none) [] = .nx ρ S := by
  obtain ⟨ρ', S', e, _⟩ := for_nx (keep := []) (g := gN 1) (b := b_turn) (fun i ρ S => ∃ x1 x2 x3 x4 x5 x6 x7 x8 x9 x10 x11 x12 x13 x14 x15 x16 x17, ρ = rT ns x1 x2 x3 x4 x5 x6 x7 x8 x9 x10 x11 x12 x13 x14 x15 x16 x17) ((List.range 2).map fun j : Nat => R.dat (.int (j : Nat))) (ρ := rT ns none none none none none none none none none none none none none none none none none) (S := []) ⟨_, _, _, _, _, _, _, _, _, _, _, _, _, _, _, _, _,  rfl⟩ (fun _ _ _ _ _ => stands_nil) (by
    rintro i q ρ S hq ⟨x1, x2, x3, x4, x5, x6, x7, x8, x9, x10, x11, x12, x13, x14, x15, x16, x17, rfl⟩
    have hi := (List.getElem?_eq_some_iff.mp hq).1
    rw [List.length_map, List.length_range] at hi
    rw [List.getElem?_map, List.getElem?_range hi] at hq
    have := Option.some.inj hq
    subst this
    obtain ⟨y2, y3, y4, y5, y6, y7, y8, y9, y10, y11, y12, y13, y14, y15, y16, y17, S', e⟩ := turn_ok (S := S) (x2 := x2) (x4 := x4) (x5 := x5) (x6 := x6) (x7 := x7) (x8 := x8) (x9 := x9) (x10 := x10) (x11 := x11) (x12 := x12) (x13 := x13) (x14 := x14) (x15 := x15) (x16 := x16) (x17 := x17) (x3 := x3) hl (show i < 100 by omega)
    exact ⟨_, rfl, _, _, e, _, _, _, _, _, _, _, _, _, _, _, _, _, _, _, _, _,  rfl⟩)
  exact ⟨ρ', S', e⟩
theorem law_true (ns : List Int) (hl : ns.length ≤ 63) : ∃ S, m_law [.ro (ns.map .int)] [] = .ok (.dat (.bool true)) S := by
  obtain ⟨ρ, S, e⟩ := c3_ok hl
  refine ⟨S, ?_⟩
  show OutS.toF (b_law (rT ns none none none none none none none none none none none none none none none none none) []) = _
  rw [b_law_eq, cons_nx (c1_ok _), cons_nx (c2_ok _), cons_nx e]
  rfl
end Lw
namespace Lw
open PySem PySem.Spec PyProof.Rows L2 Pev
/-! ### what the top has written -/
abbrev eBl : List Bool := [true, true]
structure EnvC (P : Program) (w : World) (mg : Str → Option Value) (T : Tb) (base : Heap) where
  cu : T.cur = none
  z_abs : mg "abs" = none
  z_all : mg "all" = none
  z_any : mg "any" = none
  z_bool : mg "bool" = none
  z_enumerate : mg "enumerate" = none
  z_int : mg "int" = none
  z_isinstance : mg "isinstance" = none
  z_len : mg "len" = none
  z_list : mg "list" = none
  z_max : mg "max" = none
  z_min : mg "min" = none
  z_range : mg "range" = none
  z_sorted : mg "sorted" = none
  z_tuple : mg "tuple" = none
  a_is_integer : Addr
  fd_is_integer : FuncData
  F_is_integer : L2.Fun T.K "is_integer" "is_integer" s_is_integer a_is_integer fd_is_integer
  g_is_integer : mg "is_integer" = some (.ref a_is_integer)
  b_is_integer : Binds T.K fd_is_integer ["value"] []
  a_need_many : Addr
  fd_need_many : FuncData
  F_need_many : FunD T.K "need_many" "need_many" (defArgs s_need_many) (defBody s_need_many) (defScope s_need_many) [.int 0] [] a_need_many fd_need_many
  g_need_many : mg "need_many" = some (.ref a_need_many)
  b_need_many : Binds T.K fd_need_many ["value", "word", "least"] []
  a_is_number : Addr
  fd_is_number : FuncData
  F_is_number : L2.Fun T.K "is_number" "is_number" s_is_number a_is_number fd_is_number
  g_is_number : mg "is_number" = some (.ref a_is_number)
  b_is_number : Binds T.K fd_is_number ["value"] []
  a_is_sequence : Addr
  fd_is_sequence : FuncData
  F_is_sequence : L2.Fun T.K "is_sequence" "is_sequence" s_is_sequence a_is_sequence fd_is_sequence
  g_is_sequence : mg "is_sequence" = some (.ref a_is_sequence)
  b_is_sequence : Binds T.K fd_is_sequence ["value"] []
  a_are_unlike : Addr
  fd_are_unlike : FuncData
  F_are_unlike : L2.Fun T.K "are_unlike" "are_unlike" s_are_unlike a_are_unlike fd_are_unlike
  g_are_unlike : mg "are_unlike" = some (.ref a_are_unlike)
  b_are_unlike : Binds T.K fd_are_unlike ["values"] []
  a_need_marks : Addr
  fd_need_marks : FuncData
  F_need_marks : L2.Fun T.K "need_marks" "need_marks" s_need_marks a_need_marks fd_need_marks
  g_need_marks : mg "need_marks" = some (.ref a_need_marks)
  b_need_marks : Binds T.K fd_need_marks ["value", "at"] []
  a_kept_of : Addr
  fd_kept_of : FuncData
  F_kept_of : L2.Fun T.K "kept_of" "kept_of" s_kept_of a_kept_of fd_kept_of
  g_kept_of : mg "kept_of" = some (.ref a_kept_of)
  b_kept_of : Binds T.K fd_kept_of ["row", "near"] []
  a_first_marks : Addr
  fd_first_marks : FuncData
  F_first_marks : L2.Fun T.K "first_marks" "first_marks" s_first_marks a_first_marks fd_first_marks
  g_first_marks : mg "first_marks" = some (.ref a_first_marks)
  b_first_marks : Binds T.K fd_first_marks ["order", "lot", "near"] []
  a_lots_apart : Addr
  fd_lots_apart : FuncData
  F_lots_apart : L2.Fun T.K "lots_apart" "lots_apart" s_lots_apart a_lots_apart fd_lots_apart
  g_lots_apart : mg "lots_apart" = some (.ref a_lots_apart)
  b_lots_apart : Binds T.K fd_lots_apart ["one", "other"] []
  a_is_pair : Addr
  fd_is_pair : FuncData
  F_is_pair : L2.Fun T.K "is_pair" "is_pair" s_is_pair a_is_pair fd_is_pair
  g_is_pair : mg "is_pair" = some (.ref a_is_pair)
  b_is_pair : Binds T.K fd_is_pair ["value"] []
  a_need_kept_rows : Addr
  fd_need_kept_rows : FuncData
  F_need_kept_rows : L2.Fun T.K "need_kept_rows" "need_kept_rows" s_need_kept_rows a_need_kept_rows fd_need_kept_rows
  g_need_kept_rows : mg "need_kept_rows" = some (.ref a_need_kept_rows)
  b_need_kept_rows : Binds T.K fd_need_kept_rows ["value"] []
  a_keeping_paper : Addr
  fd_keeping_paper : FuncData
  F_keeping_paper : L2.Fun T.K "keeping_paper" "keeping_paper" s_keeping_paper a_keeping_paper fd_keeping_paper
  g_keeping_paper : mg "keeping_paper" = some (.ref a_keeping_paper)
  b_keeping_paper : Binds T.K fd_keeping_paper ["rows", "near"] []
  a__law_box : Addr
  fd__law_box : FuncData
  F__law_box : L2.Fun T.K "_law_box" "_law_box" s__law_box a__law_box fd__law_box
  g__law_box : mg "_law_box" = some (.ref a__law_box)
  b__law_box : Binds T.K fd__law_box ["script", "k"] []
  a__law_take : Addr
  fd__law_take : FuncData
  F__law_take : L2.Fun T.K "_law_take" "_law_take" s__law_take a__law_take fd__law_take
  g__law_take : mg "_law_take" = some (.ref a__law_take)
  b__law_take : Binds T.K fd__law_take ["box", "many"] []
  a__law_mixed : Addr
  fd__law_mixed : FuncData
  F__law_mixed : L2.Fun T.K "_law_mixed" "_law_mixed" s__law_mixed a__law_mixed fd__law_mixed
  g__law_mixed : mg "_law_mixed" = some (.ref a__law_mixed)
  b__law_mixed : Binds T.K fd__law_mixed ["box", "some"] []
  a__law_apart : Addr
  fd__law_apart : FuncData
  F__law_apart : L2.Fun T.K "_law_apart" "_law_apart" s__law_apart a__law_apart fd__law_apart
  g__law_apart : mg "_law_apart" = some (.ref a__law_apart)
  b__law_apart : Binds T.K fd__law_apart ["one", "other"] []
  a__law_common : Addr
  fd__law_common : FuncData
  F__law_common : L2.Fun T.K "_law_common" "_law_common" s__law_common a__law_common fd__law_common
  g__law_common : mg "_law_common" = some (.ref a__law_common)
  b__law_common : Binds T.K fd__law_common ["one", "other"] []
  a__law_kept : Addr
  fd__law_kept : FuncData
  F__law_kept : L2.Fun T.K "_law_kept" "_law_kept" s__law_kept a__law_kept fd__law_kept
  g__law_kept : mg "_law_kept" = some (.ref a__law_kept)
  b__law_kept : Binds T.K fd__law_kept ["order", "lot", "near"] []
  a__law_parts : Addr
  fd__law_parts : FuncData
  F__law_parts : L2.Fun T.K "_law_parts" "_law_parts" s__law_parts a__law_parts fd__law_parts
  g__law_parts : mg "_law_parts" = some (.ref a__law_parts)
  b__law_parts : Binds T.K fd__law_parts ["marks"] []
  a__law_missed : Addr
  fd__law_missed : FuncData
  F__law_missed : L2.Fun T.K "_law_missed" "_law_missed" s__law_missed a__law_missed fd__law_missed
  g__law_missed : mg "_law_missed" = some (.ref a__law_missed)
  b__law_missed : Binds T.K fd__law_missed ["rows", "near"] []
  a__law_pick : Addr
  fd__law_pick : FuncData
  F__law_pick : L2.Fun T.K "_law_pick" "_law_pick" s__law_pick a__law_pick fd__law_pick
  g__law_pick : mg "_law_pick" = some (.ref a__law_pick)
  b__law_pick : Binds T.K fd__law_pick ["box", "some"] []
  a__law_refused : Addr
  fd__law_refused : FuncData
  F__law_refused : L2.Fun T.K "_law_refused" "_law_refused" s__law_refused a__law_refused fd__law_refused
  g__law_refused : mg "_law_refused" = some (.ref a__law_refused)
  b__law_refused : Binds T.K fd__law_refused ["work"] []
  a__law_errors : Addr
  fd__law_errors : FuncData
  F__law_errors : L2.Fun T.K "_law_errors" "_law_errors" s__law_errors a__law_errors fd__law_errors
  g__law_errors : mg "_law_errors" = some (.ref a__law_errors)
  b__law_errors : Binds T.K fd__law_errors ["box", "order", "rows"] []
  a_law : Addr
  fd_law : FuncData
  F_law : L2.Fun T.K "law" "law" s_law a_law fd_law
  g_law : mg "law" = some (.ref a_law)
  b_law : Binds T.K fd_law ["script"] []
  le__law_errors : Addr
  lP__law_errors : Addr
  lc__law_errors : fd__law_errors.code = .ref le__law_errors
  lB__law_errors : LamX.TabB base mg le__law_errors lP__law_errors
  lm__law_errors : (lP__law_errors, (("_law_errors" : Str) ++ ".<locals>.") ++ "<lambda>") ∈ T.tabs
  lo__law_errors : ∀ t ∈ T.tabs, t.1 = lP__law_errors → t.2 = (("_law_errors" : Str) ++ ".<locals>.") ++ "<lambda>"
  us_need_many_1 : List Value
  bd_need_many_1 : Binds T.K fd_need_many ["value", "word", "least"] us_need_many_1
  dv_need_many_1 : Vals [.int 0] us_need_many_1
  bk_first_marks_012 : BindsK T.K fd_first_marks ["order", "lot", "near"] ["order", "lot", "near"] [0, 1, 2]
  bk_keeping_paper_01 : BindsK T.K fd_keeping_paper ["rows", "near"] ["rows", "near"] [0, 1]
  eB : Addr
  ie : Nat → Addr
  er : ErrsN T.K P mg T.cls eB ie T.fld 0 eBl
  fl : T.fld = fun k => (["at", "word"] : List Str).getD k ""
  ge : GlobsN mg T.cls 0 (["InvalidLot", "InvalidSize"] : List Str)
  nd : ∀ i j, i < eBl.length → j < eBl.length → T.cls i = T.cls j → i = j
  nB : ∀ i, i < eBl.length → T.cls i ≠ eB
structure Env (P : Program) (w : World) (mg : Str → Option Value) (T : Tb) (base : Heap) extends EnvC P w mg T base where
  ln : T.lams = []
  lx : ∀ (β : List Addr) (α : List (Option Addr)) (H : Hp), T.ctx β α H
def EnvC.toL {P : Program} {w : World} {mg : Str → Option Value} {T : Tb}{base : Heap}  (G : EnvC P w mg T base) (ls : List LamI) (σ : L2.St) (ρ : Rho) : EnvC P w mg ((T.lam ls).er σ ρ) base := {
  cu := G.cu,
  z_abs := G.z_abs,
  z_all := G.z_all,
  z_any := G.z_any,
  z_bool := G.z_bool,
  z_enumerate := G.z_enumerate,
  z_int := G.z_int,
  z_isinstance := G.z_isinstance,
  z_len := G.z_len,
  z_list := G.z_list,
  z_max := G.z_max,
  z_min := G.z_min,
  z_range := G.z_range,
  z_sorted := G.z_sorted,
  z_tuple := G.z_tuple,
  a_is_integer := G.a_is_integer,
  fd_is_integer := G.fd_is_integer,
  F_is_integer := G.F_is_integer,
  g_is_integer := G.g_is_integer,
  b_is_integer := G.b_is_integer,
  a_need_many := G.a_need_many,
  fd_need_many := G.fd_need_many,
  F_need_many := G.F_need_many,
  g_need_many := G.g_need_many,
  b_need_many := G.b_need_many,
  a_is_number := G.a_is_number,
  fd_is_number := G.fd_is_number,
  F_is_number := G.F_is_number,
  g_is_number := G.g_is_number,
  b_is_number := G.b_is_number,
  a_is_sequence := G.a_is_sequence,
  fd_is_sequence := G.fd_is_sequence,
  F_is_sequence := G.F_is_sequence,
  g_is_sequence := G.g_is_sequence,
  b_is_sequence := G.b_is_sequence,
  a_are_unlike := G.a_are_unlike,
  fd_are_unlike := G.fd_are_unlike,
  F_are_unlike := G.F_are_unlike,
  g_are_unlike := G.g_are_unlike,
  b_are_unlike := G.b_are_unlike,
  a_need_marks := G.a_need_marks,
  fd_need_marks := G.fd_need_marks,
  F_need_marks := G.F_need_marks,
  g_need_marks := G.g_need_marks,
  b_need_marks := G.b_need_marks,
  a_kept_of := G.a_kept_of,
  fd_kept_of := G.fd_kept_of,
  F_kept_of := G.F_kept_of,
  g_kept_of := G.g_kept_of,
  b_kept_of := G.b_kept_of,
  a_first_marks := G.a_first_marks,
  fd_first_marks := G.fd_first_marks,
  F_first_marks := G.F_first_marks,
  g_first_marks := G.g_first_marks,
  b_first_marks := G.b_first_marks,
  a_lots_apart := G.a_lots_apart,
  fd_lots_apart := G.fd_lots_apart,
  F_lots_apart := G.F_lots_apart,
  g_lots_apart := G.g_lots_apart,
  b_lots_apart := G.b_lots_apart,
  a_is_pair := G.a_is_pair,
  fd_is_pair := G.fd_is_pair,
  F_is_pair := G.F_is_pair,
  g_is_pair := G.g_is_pair,
  b_is_pair := G.b_is_pair,
  a_need_kept_rows := G.a_need_kept_rows,
  fd_need_kept_rows := G.fd_need_kept_rows,
  F_need_kept_rows := G.F_need_kept_rows,
  g_need_kept_rows := G.g_need_kept_rows,
  b_need_kept_rows := G.b_need_kept_rows,
  a_keeping_paper := G.a_keeping_paper,
  fd_keeping_paper := G.fd_keeping_paper,
  F_keeping_paper := G.F_keeping_paper,
  g_keeping_paper := G.g_keeping_paper,
  b_keeping_paper := G.b_keeping_paper,
  a__law_box := G.a__law_box,
  fd__law_box := G.fd__law_box,
  F__law_box := G.F__law_box,
  g__law_box := G.g__law_box,
  b__law_box := G.b__law_box,
  a__law_take := G.a__law_take,
  fd__law_take := G.fd__law_take,
  F__law_take := G.F__law_take,
  g__law_take := G.g__law_take,
  b__law_take := G.b__law_take,
  a__law_mixed := G.a__law_mixed,
  fd__law_mixed := G.fd__law_mixed,
  F__law_mixed := G.F__law_mixed,
  g__law_mixed := G.g__law_mixed,
  b__law_mixed := G.b__law_mixed,
  a__law_apart := G.a__law_apart,
  fd__law_apart := G.fd__law_apart,
  F__law_apart := G.F__law_apart,
  g__law_apart := G.g__law_apart,
  b__law_apart := G.b__law_apart,
  a__law_common := G.a__law_common,
  fd__law_common := G.fd__law_common,
  F__law_common := G.F__law_common,
  g__law_common := G.g__law_common,
  b__law_common := G.b__law_common,
  a__law_kept := G.a__law_kept,
  fd__law_kept := G.fd__law_kept,
  F__law_kept := G.F__law_kept,
  g__law_kept := G.g__law_kept,
  b__law_kept := G.b__law_kept,
  a__law_parts := G.a__law_parts,
  fd__law_parts := G.fd__law_parts,
  F__law_parts := G.F__law_parts,
  g__law_parts := G.g__law_parts,
  b__law_parts := G.b__law_parts,
  a__law_missed := G.a__law_missed,
  fd__law_missed := G.fd__law_missed,
  F__law_missed := G.F__law_missed,
  g__law_missed := G.g__law_missed,
  b__law_missed := G.b__law_missed,
  a__law_pick := G.a__law_pick,
  fd__law_pick := G.fd__law_pick,
  F__law_pick := G.F__law_pick,
  g__law_pick := G.g__law_pick,
  b__law_pick := G.b__law_pick,
  a__law_refused := G.a__law_refused,
  fd__law_refused := G.fd__law_refused,
  F__law_refused := G.F__law_refused,
  g__law_refused := G.g__law_refused,
  b__law_refused := G.b__law_refused,
  a__law_errors := G.a__law_errors,
  fd__law_errors := G.fd__law_errors,
  F__law_errors := G.F__law_errors,
  g__law_errors := G.g__law_errors,
  b__law_errors := G.b__law_errors,
  a_law := G.a_law,
  fd_law := G.fd_law,
  F_law := G.F_law,
  g_law := G.g_law,
  b_law := G.b_law,
  le__law_errors := G.le__law_errors,
  lP__law_errors := G.lP__law_errors,
  lc__law_errors := G.lc__law_errors,
  lB__law_errors := G.lB__law_errors,
  lm__law_errors := G.lm__law_errors,
  lo__law_errors := G.lo__law_errors,
  us_need_many_1 := G.us_need_many_1,
  bd_need_many_1 := G.bd_need_many_1,
  dv_need_many_1 := G.dv_need_many_1,
  bk_first_marks_012 := G.bk_first_marks_012,
  bk_keeping_paper_01 := G.bk_keeping_paper_01,
  eB := G.eB,
  ie := G.ie,
  er := G.er,
  fl := G.fl,
  ge := G.ge,
  nd := G.nd,
  nB := G.nB }
def EnvC.toL0 {P : Program} {w : World} {mg : Str → Option Value} {T : Tb}{base : Heap}  (G : EnvC P w mg T base) (ls : List LamI) : EnvC P w mg (T.lam ls) base := {
  cu := G.cu,
  z_abs := G.z_abs,
  z_all := G.z_all,
  z_any := G.z_any,
  z_bool := G.z_bool,
  z_enumerate := G.z_enumerate,
  z_int := G.z_int,
  z_isinstance := G.z_isinstance,
  z_len := G.z_len,
  z_list := G.z_list,
  z_max := G.z_max,
  z_min := G.z_min,
  z_range := G.z_range,
  z_sorted := G.z_sorted,
  z_tuple := G.z_tuple,
  a_is_integer := G.a_is_integer,
  fd_is_integer := G.fd_is_integer,
  F_is_integer := G.F_is_integer,
  g_is_integer := G.g_is_integer,
  b_is_integer := G.b_is_integer,
  a_need_many := G.a_need_many,
  fd_need_many := G.fd_need_many,
  F_need_many := G.F_need_many,
  g_need_many := G.g_need_many,
  b_need_many := G.b_need_many,
  a_is_number := G.a_is_number,
  fd_is_number := G.fd_is_number,
  F_is_number := G.F_is_number,
  g_is_number := G.g_is_number,
  b_is_number := G.b_is_number,
  a_is_sequence := G.a_is_sequence,
  fd_is_sequence := G.fd_is_sequence,
  F_is_sequence := G.F_is_sequence,
  g_is_sequence := G.g_is_sequence,
  b_is_sequence := G.b_is_sequence,
  a_are_unlike := G.a_are_unlike,
  fd_are_unlike := G.fd_are_unlike,
  F_are_unlike := G.F_are_unlike,
  g_are_unlike := G.g_are_unlike,
  b_are_unlike := G.b_are_unlike,
  a_need_marks := G.a_need_marks,
  fd_need_marks := G.fd_need_marks,
  F_need_marks := G.F_need_marks,
  g_need_marks := G.g_need_marks,
  b_need_marks := G.b_need_marks,
  a_kept_of := G.a_kept_of,
  fd_kept_of := G.fd_kept_of,
  F_kept_of := G.F_kept_of,
  g_kept_of := G.g_kept_of,
  b_kept_of := G.b_kept_of,
  a_first_marks := G.a_first_marks,
  fd_first_marks := G.fd_first_marks,
  F_first_marks := G.F_first_marks,
  g_first_marks := G.g_first_marks,
  b_first_marks := G.b_first_marks,
  a_lots_apart := G.a_lots_apart,
  fd_lots_apart := G.fd_lots_apart,
  F_lots_apart := G.F_lots_apart,
  g_lots_apart := G.g_lots_apart,
  b_lots_apart := G.b_lots_apart,
  a_is_pair := G.a_is_pair,
  fd_is_pair := G.fd_is_pair,
  F_is_pair := G.F_is_pair,
  g_is_pair := G.g_is_pair,
  b_is_pair := G.b_is_pair,
  a_need_kept_rows := G.a_need_kept_rows,
  fd_need_kept_rows := G.fd_need_kept_rows,
  F_need_kept_rows := G.F_need_kept_rows,
  g_need_kept_rows := G.g_need_kept_rows,
  b_need_kept_rows := G.b_need_kept_rows,
  a_keeping_paper := G.a_keeping_paper,
  fd_keeping_paper := G.fd_keeping_paper,
  F_keeping_paper := G.F_keeping_paper,
  g_keeping_paper := G.g_keeping_paper,
  b_keeping_paper := G.b_keeping_paper,
  a__law_box := G.a__law_box,
  fd__law_box := G.fd__law_box,
  F__law_box := G.F__law_box,
  g__law_box := G.g__law_box,
  b__law_box := G.b__law_box,
  a__law_take := G.a__law_take,
  fd__law_take := G.fd__law_take,
  F__law_take := G.F__law_take,
  g__law_take := G.g__law_take,
  b__law_take := G.b__law_take,
  a__law_mixed := G.a__law_mixed,
  fd__law_mixed := G.fd__law_mixed,
  F__law_mixed := G.F__law_mixed,
  g__law_mixed := G.g__law_mixed,
  b__law_mixed := G.b__law_mixed,
  a__law_apart := G.a__law_apart,
  fd__law_apart := G.fd__law_apart,
  F__law_apart := G.F__law_apart,
  g__law_apart := G.g__law_apart,
  b__law_apart := G.b__law_apart,
  a__law_common := G.a__law_common,
  fd__law_common := G.fd__law_common,
  F__law_common := G.F__law_common,
  g__law_common := G.g__law_common,
  b__law_common := G.b__law_common,
  a__law_kept := G.a__law_kept,
  fd__law_kept := G.fd__law_kept,
  F__law_kept := G.F__law_kept,
  g__law_kept := G.g__law_kept,
  b__law_kept := G.b__law_kept,
  a__law_parts := G.a__law_parts,
  fd__law_parts := G.fd__law_parts,
  F__law_parts := G.F__law_parts,
  g__law_parts := G.g__law_parts,
  b__law_parts := G.b__law_parts,
  a__law_missed := G.a__law_missed,
  fd__law_missed := G.fd__law_missed,
  F__law_missed := G.F__law_missed,
  g__law_missed := G.g__law_missed,
  b__law_missed := G.b__law_missed,
  a__law_pick := G.a__law_pick,
  fd__law_pick := G.fd__law_pick,
  F__law_pick := G.F__law_pick,
  g__law_pick := G.g__law_pick,
  b__law_pick := G.b__law_pick,
  a__law_refused := G.a__law_refused,
  fd__law_refused := G.fd__law_refused,
  F__law_refused := G.F__law_refused,
  g__law_refused := G.g__law_refused,
  b__law_refused := G.b__law_refused,
  a__law_errors := G.a__law_errors,
  fd__law_errors := G.fd__law_errors,
  F__law_errors := G.F__law_errors,
  g__law_errors := G.g__law_errors,
  b__law_errors := G.b__law_errors,
  a_law := G.a_law,
  fd_law := G.fd_law,
  F_law := G.F_law,
  g_law := G.g_law,
  b_law := G.b_law,
  le__law_errors := G.le__law_errors,
  lP__law_errors := G.lP__law_errors,
  lc__law_errors := G.lc__law_errors,
  lB__law_errors := G.lB__law_errors,
  lm__law_errors := G.lm__law_errors,
  lo__law_errors := G.lo__law_errors,
  us_need_many_1 := G.us_need_many_1,
  bd_need_many_1 := G.bd_need_many_1,
  dv_need_many_1 := G.dv_need_many_1,
  bk_first_marks_012 := G.bk_first_marks_012,
  bk_keeping_paper_01 := G.bk_keeping_paper_01,
  eB := G.eB,
  ie := G.ie,
  er := G.er,
  fl := G.fl,
  ge := G.ge,
  nd := G.nd,
  nB := G.nB }
section
variable {P : Program} {w : World} {T : Tb} {mg : Str → Option Value} {base : Heap}
theorem ok_is_integer (G : EnvC P w mg T base) : FnG P w T.K mg base 2 G.a_is_integer G.fd_is_integer ["value"] (spF T 1 m_is_integer) :=
  fn_ok (k := 1) (b := b_is_integer) G.F_is_integer sc_is_integer rfl rfl fun cdv A outer s H E hr => (ts_one (ts_ret (tr_and rfl (tr_is1 .int rfl rfl G.z_isinstance (tr_var 0) (pe_bltn rfl G.z_int PyProof.Rows.boot_int rfl)) (tr_one (tr_not rfl (tr_is1 .bl rfl rfl G.z_isinstance (tr_var 0) (pe_bltn rfl G.z_bool PyProof.Rows.boot_bool rfl)))))))
theorem ok_need_many (G : EnvC P w mg T base) : FnG P w T.K mg base 3 G.a_need_many G.fd_need_many ["value", "word", "least"] (spF T 3 m_need_many) :=
  fn_okD (k := 2) (b := b_need_many) G.F_need_many sc_need_many rfl rfl fun cdv A outer s H E hr => (ts_cons (ts_if (PW.pt (tt_or (tt_not (tt_tru rfl (tr_call via_pure (ok_is_integer G) (hr.mono (by decide)) rfl G.g_is_integer G.F_is_integer.kp G.b_is_integer (takes_of rfl rfl rfl rfl) (tr_cons (tr_var 0) tr_nil)))) (tt_or1 (tt_cmpR op_ltU snd_lt (tr_var 0) (tr_var 2) (by rfl))))) (ts_one (ts_raise 1 rfl (errs_1 G.er 1) hr (takes_of rfl rfl rfl rfl) rfl (globs_0 G.ge 1) (tr_var 1))) ts_nil)
    (ts_one (ts_ret (tr_var 0))))
theorem ok_is_number (G : EnvC P w mg T base) : FnG P w T.K mg base 3 G.a_is_number G.fd_is_number ["value"] (spF T 1 m_is_number) :=
  fn_ok (k := 2) (b := b_is_number) G.F_is_number sc_is_number rfl rfl fun cdv A outer s H E hr => (ts_one (ts_ret (tr_and rfl (tr_call via_pure (ok_is_integer G) (hr.mono (by decide)) rfl G.g_is_integer G.F_is_integer.kp G.b_is_integer (takes_of rfl rfl rfl rfl) (tr_cons (tr_var 0) tr_nil)) (tr_one (tr_cmpR op_geU snd_ge (tr_var 0) tr_int (by rfl))))))
theorem ok_is_sequence (G : EnvC P w mg T base) : FnG P w T.K mg base 2 G.a_is_sequence G.fd_is_sequence ["value"] (spF T 1 m_is_sequence) :=
  fn_ok (k := 1) (b := b_is_sequence) G.F_is_sequence sc_is_sequence rfl rfl fun cdv A outer s H E hr => (ts_one (ts_ret (tr_isT [.lst, .tup] rfl rfl G.z_isinstance (tr_var 0) (ty_args (pe_bltn rfl G.z_list PyProof.Rows.boot_list rfl) (ty_args1 (pe_bltn rfl G.z_tuple PyProof.Rows.boot_tuple rfl))))))
theorem ok_are_unlike (G : EnvC P w mg T base) : FnG P w T.K mg base 2 G.a_are_unlike G.fd_are_unlike ["values"] (spF T 1 m_are_unlike) :=
  fn_ok (k := 1) (b := b_are_unlike) G.F_are_unlike sc_are_unlike rfl rfl fun cdv A outer s H E hr => (ts_one (ts_ret (tr_callB (cr_all rfl) snd_all rfl G.z_all boot_all (tr_cons (tr_lc false [("at", 1), ("value", 2)] rfl sc_are_unlike.nd (ti_enumU rfl rfl G.z_enumerate (tr_cons (tr_var 0) tr_nil)) (blk_mk (by kernel_rfl)) (fun _ _ _ _ _ => (tg_tup 2 rfl rfl (tgs_cons (tg_name 1 sc_are_unlike.nd rfl (by first | exact Or.inl rfl | exact Or.inr rfl)) (tgs_cons (tg_name 2 sc_are_unlike.nd rfl (by first | exact Or.inl rfl | exact Or.inr rfl)) tgs_nil)))) (fun _ _ _ _ _ => tts_nil) (fun _ _ _ _ _ => (tr_cmpR (op_notInU (hu65 hr)) snd_notIn (tr_var 2) (tr_sl01 false rfl (tr_var 0) (tr_var 1)) (by rfl)))) tr_nil))))
theorem ok_need_marks (G : EnvC P w mg T base) : FnG P w T.K mg base 4 G.a_need_marks G.fd_need_marks ["value", "at"] (spF T 2 m_need_marks) :=
  fn_ok (k := 3) (b := b_need_marks) G.F_need_marks sc_need_marks rfl rfl fun cdv A outer s H E hr => (ts_cons (ts_if (PW.pt (tt_or (tt_not (tt_tru rfl (tr_call via_pure (ok_is_sequence G) (hr.mono (by decide)) rfl G.g_is_sequence G.F_is_sequence.kp G.b_is_sequence (takes_of rfl rfl rfl rfl) (tr_cons (tr_var 0) tr_nil)))) (tt_or (tt_not (tt_tru rfl (tr_callB (cr_all rfl) snd_all rfl G.z_all boot_all (tr_cons (tr_lc false [("mark", 2)] rfl sc_need_marks.nd (ti_of rfl (tr_var 0)) (blk_mk (by kernel_rfl)) (fun _ _ _ _ _ => (tg_name 2 sc_need_marks.nd rfl (by first | exact Or.inl rfl | exact Or.inr rfl))) (fun _ _ _ _ _ => tts_nil) (fun _ _ _ _ _ => (tr_call via_pure (ok_is_number G) (hr.mono (by decide)) rfl G.g_is_number G.F_is_number.kp G.b_is_number takes0 (tr_cons (tr_var 2) tr_nil)))) tr_nil)))) (tt_or1 (tt_not (tt_tru rfl (tr_call via_pure (ok_are_unlike G) (hr.mono (by decide)) rfl G.g_are_unlike G.F_are_unlike.kp G.b_are_unlike (takes_of rfl rfl rfl rfl) (tr_cons (tr_callTy call_list_of (snd_list false) rfl G.z_list PyProof.Rows.boot_list (tr_cons (tr_var 0) tr_nil)) tr_nil)))))))) (ts_one (ts_raise 0 rfl (errs_1 G.er 0) hr (takes_of rfl rfl rfl rfl) rfl (globs_0 G.ge 0) (tr_var 1))) ts_nil)
    (ts_one (ts_ret (tr_callTy call_tuple_of snd_tuple rfl G.z_tuple PyProof.Rows.boot_tuple (tr_cons (tr_callB cr_sortedIU (snd_sortedIU false) rfl G.z_sorted boot_sorted (tr_cons (tr_var 0) tr_nil)) tr_nil)))))
theorem ok_kept_of (G : EnvC P w mg T base) : FnG P w T.K mg base 2 G.a_kept_of G.fd_kept_of ["row", "near"] (spF T 2 m_kept_of) :=
  fn_ok (k := 1) (b := b_kept_of) G.F_kept_of sc_kept_of rfl rfl fun cdv A outer s H E hr => (ts_one (ts_ret (tr_op op_addU (snd_add false) (tr_callTy call_tuple_of snd_tuple rfl G.z_tuple PyProof.Rows.boot_tuple (tr_cons (tr_sl01 false rfl (tr_var 0) (tr_op op_addU (snd_add false) (tr_var 1) tr_int)) tr_nil)) (tr_if (tt_cmpR op_leU snd_le (tr_callB call_len snd_len rfl G.z_len boot_len (tr_cons (tr_var 0) tr_nil)) (tr_var 1) (by rfl)) (tr_tup (tr_cons tr_non tr_nil)) (tr_tup tr_nil)))))
theorem ok_first_marks (G : EnvC P w mg T base) : FnG P w T.K mg base 5 G.a_first_marks G.fd_first_marks ["order", "lot", "near"] (spF T 3 m_first_marks) :=
  fn_ok (k := 4) (b := b_first_marks) G.F_first_marks sc_first_marks rfl rfl fun cdv A outer s H E hr => (ts_cons (ts_expr (tr_call via_pure (ok_need_marks G) (hr.mono (by decide)) rfl G.g_need_marks G.F_need_marks.kp G.b_need_marks (takes_of rfl rfl rfl rfl) (tr_cons (tr_var 0) (tr_cons tr_int tr_nil))))
    (ts_cons (ts_set 3 sc_first_marks.nd rfl (by first | exact Or.inl rfl | exact Or.inr rfl) (tr_call via_pure (ok_need_marks G) (hr.mono (by decide)) rfl G.g_need_marks G.F_need_marks.kp G.b_need_marks (takes_of rfl rfl rfl rfl) (tr_cons (tr_var 1) (tr_cons tr_int tr_nil))))
    (ts_cons (ts_if (tt_not (tt_tru rfl (tr_callB (cr_all rfl) snd_all rfl G.z_all boot_all (tr_cons (tr_lc false [("mark", 4)] rfl sc_first_marks.nd (ti_of rfl (tr_var 3)) (blk_mk (by kernel_rfl)) (fun _ _ _ _ _ => (tg_name 4 sc_first_marks.nd rfl (by first | exact Or.inl rfl | exact Or.inr rfl))) (fun _ _ _ _ _ => tts_nil) (fun _ _ _ _ _ => (tr_cmpR (op_inU (hu65 hr)) snd_in (tr_var 4) (tr_var 0) (by rfl)))) tr_nil)))) (ts_one (ts_raise 0 rfl (errs_1 G.er 0) hr (takes_of rfl rfl rfl rfl) rfl (globs_0 G.ge 0) tr_int)) ts_nil)
    (ts_cons (ts_expr (tr_callD (dd := [.int 0]) via_pure (ok_need_many G) (hr.mono (by decide)) rfl G.g_need_many G.F_need_many.kp G.bd_need_many_1 G.dv_need_many_1 (fun _ => (.cons (.int _) .nil)) (takes_of rfl rfl rfl rfl) (tr_cons (tr_var 2) (tr_cons tr_str tr_nil))))
    (ts_one (ts_ret (tr_call via_pure (ok_kept_of G) (hr.mono (by decide)) rfl G.g_kept_of G.F_kept_of.kp G.b_kept_of (takes_of rfl rfl rfl rfl) (tr_cons (tr_lc false [("mark", 4)] rfl sc_first_marks.nd (ti_of rfl (tr_var 0)) (blk_mk (by kernel_rfl)) (fun _ _ _ _ _ => (tg_name 4 sc_first_marks.nd rfl (by first | exact Or.inl rfl | exact Or.inr rfl))) (fun _ _ _ _ _ => (tts_one (tt_cmpR (op_inU (hu65 hr)) snd_in (tr_var 4) (tr_var 3) (by rfl)))) (fun _ _ _ _ _ => (tr_var 4))) (tr_cons (tr_var 2) tr_nil)))))))))
theorem ok_lots_apart (G : EnvC P w mg T base) : FnG P w T.K mg base 2 G.a_lots_apart G.fd_lots_apart ["one", "other"] (spF T 2 m_lots_apart) :=
  fn_ok (k := 1) (b := b_lots_apart) G.F_lots_apart sc_lots_apart rfl rfl fun cdv A outer s H E hr => (ts_one (ts_ret (tr_op op_addU (snd_add false) (tr_callB call_len snd_len rfl G.z_len boot_len (tr_cons (tr_lc false [("mark", 2)] rfl sc_lots_apart.nd (ti_of rfl (tr_var 0)) (blk_mk (by kernel_rfl)) (fun _ _ _ _ _ => (tg_name 2 sc_lots_apart.nd rfl (by first | exact Or.inl rfl | exact Or.inr rfl))) (fun _ _ _ _ _ => (tts_one (tt_cmpR (op_notInU (hu65 hr)) snd_notIn (tr_var 2) (tr_var 1) (by rfl)))) (fun _ _ _ _ _ => (tr_var 2))) tr_nil)) (tr_callB call_len snd_len rfl G.z_len boot_len (tr_cons (tr_lc false [("mark", 2)] rfl sc_lots_apart.nd (ti_of rfl (tr_var 1)) (blk_mk (by kernel_rfl)) (fun _ _ _ _ _ => (tg_name 2 sc_lots_apart.nd rfl (by first | exact Or.inl rfl | exact Or.inr rfl))) (fun _ _ _ _ _ => (tts_one (tt_cmpR (op_notInU (hu65 hr)) snd_notIn (tr_var 2) (tr_var 0) (by rfl)))) (fun _ _ _ _ _ => (tr_var 2))) tr_nil)))))
theorem ok_is_pair (G : EnvC P w mg T base) : FnG P w T.K mg base 3 G.a_is_pair G.fd_is_pair ["value"] (spF T 1 m_is_pair) :=
  fn_ok (k := 2) (b := b_is_pair) G.F_is_pair sc_is_pair rfl rfl fun cdv A outer s H E hr => (ts_one (ts_ret (tr_and rfl (tr_call via_pure (ok_is_sequence G) (hr.mono (by decide)) rfl G.g_is_sequence G.F_is_sequence.kp G.b_is_sequence (takes_of rfl rfl rfl rfl) (tr_cons (tr_var 0) tr_nil)) (tr_one (tr_cmpR (op_eqD (hu1 hr)) snd_eq (tr_callB call_len snd_len rfl G.z_len boot_len (tr_cons (tr_var 0) tr_nil)) tr_int (by rfl))))))
theorem ok_need_kept_rows (G : EnvC P w mg T base) : FnG P w T.K mg base 5 G.a_need_kept_rows G.fd_need_kept_rows ["value"] (spF T 1 m_need_kept_rows) :=
  fn_ok (k := 4) (b := b_need_kept_rows) G.F_need_kept_rows sc_need_kept_rows rfl rfl fun cdv A outer s H E hr => (ts_cons (ts_if (tt_not (tt_tru rfl (tr_call via_pure (ok_is_sequence G) (hr.mono (by decide)) rfl G.g_is_sequence G.F_is_sequence.kp G.b_is_sequence (takes_of rfl rfl rfl rfl) (tr_cons (tr_var 0) tr_nil)))) (ts_one (ts_raise 0 rfl (errs_1 G.er 0) hr (takes_of rfl rfl rfl rfl) rfl (globs_0 G.ge 0) (tr_un un_neg snd_neg tr_int))) ts_nil)
    (ts_cons (ts_set 1 sc_need_kept_rows.nd rfl (by first | exact Or.inl rfl | exact Or.inr rfl) (tr_lst true tr_nil))
    (ts_cons (ts_for (vs := [2, 3]) (passes_of rfl) rfl (ti_enumU rfl rfl G.z_enumerate (tr_cons (tr_var 0) tr_nil)) (tg_tup 2 rfl rfl (tgs_cons (tg_name 2 sc_need_kept_rows.nd rfl (by first | exact Or.inl rfl | exact Or.inr rfl)) (tgs_cons (tg_name 3 sc_need_kept_rows.nd rfl (by first | exact Or.inl rfl | exact Or.inr rfl)) tgs_nil))) (ts_cons (ts_if (tt_not (tt_tru rfl (tr_call via_pure (ok_is_pair G) (hr.mono (by decide)) rfl G.g_is_pair G.F_is_pair.kp G.b_is_pair (takes_of rfl rfl rfl rfl) (tr_cons (tr_var 3) tr_nil)))) (ts_one (ts_raise 0 rfl (errs_1 G.er 0) hr (takes_of rfl rfl rfl rfl) rfl (globs_0 G.ge 0) (tr_var 2))) ts_nil)
    (ts_cons (ts_par2n 4 5 rfl sc_need_kept_rows.nd rfl rfl (by first | exact Or.inl rfl | exact Or.inr rfl) (by first | exact Or.inl rfl | exact Or.inr rfl) (tr_cons (tr_call via_pure (ok_need_marks G) (hr.mono (by decide)) rfl G.g_need_marks G.F_need_marks.kp G.b_need_marks (takes_of rfl rfl rfl rfl) (tr_cons (tr_ix rfl (tr_var 3) tr_int) (tr_cons (tr_var 2) tr_nil))) (tr_cons (tr_call via_pure (ok_need_marks G) (hr.mono (by decide)) rfl G.g_need_marks G.F_need_marks.kp G.b_need_marks (takes_of rfl rfl rfl rfl) (tr_cons (tr_ix rfl (tr_var 3) tr_int) (tr_cons (tr_var 2) tr_nil))) tr_nil)))
    (ts_cons (ts_if (PW.pt (tt_or (tt_not (tt_tru rfl (tr_callB (cr_all rfl) snd_all rfl G.z_all boot_all (tr_cons (tr_lc false [("mark", 8)] rfl sc_need_kept_rows.nd (ti_of rfl (tr_var 5)) (blk_mk (by kernel_rfl)) (fun _ _ _ _ _ => (tg_name 8 sc_need_kept_rows.nd rfl (by first | exact Or.inl rfl | exact Or.inr rfl))) (fun _ _ _ _ _ => tts_nil) (fun _ _ _ _ _ => (tr_cmpR (op_inU (hu65 hr)) snd_in (tr_var 8) (tr_var 4) (by rfl)))) tr_nil)))) (tt_or1 (tt_cmpR (op_inU (hu65 hr)) snd_in (tr_var 4) (tr_lc false [("one", 6), ("marks", 7)] rfl sc_need_kept_rows.nd (ti_of rfl (tr_var 1)) (blk_mk (by kernel_rfl)) (fun _ _ _ _ _ => (tg_tup 2 rfl rfl (tgs_cons (tg_name 6 sc_need_kept_rows.nd rfl (by first | exact Or.inl rfl | exact Or.inr rfl)) (tgs_cons (tg_name 7 sc_need_kept_rows.nd rfl (by first | exact Or.inl rfl | exact Or.inr rfl)) tgs_nil)))) (fun _ _ _ _ _ => tts_nil) (fun _ _ _ _ _ => (tr_var 6))) (by rfl))))) (ts_one (ts_raise 0 rfl (errs_1 G.er 0) hr (takes_of rfl rfl rfl rfl) rfl (globs_0 G.ge 0) (tr_var 2))) ts_nil)
    (ts_one (ts_expr (tr_bml rfl PySem.F.slot_list_append PySem.F.type_list_append mt_append snd_append (tr_var 1) (tr_cons (tr_tup (tr_cons (tr_var 4) (tr_cons (tr_var 5) tr_nil))) tr_nil))))))))
    (ts_one (ts_ret (tr_var 1))))))
theorem ok_keeping_paper (G : EnvC P w mg T base) : FnG P w T.K mg base 6 G.a_keeping_paper G.fd_keeping_paper ["rows", "near"] (spF T 2 m_keeping_paper) :=
  fn_ok (k := 5) (b := b_keeping_paper) G.F_keeping_paper sc_keeping_paper rfl rfl fun cdv A outer s H E hr => (ts_cons (ts_set 0 sc_keeping_paper.nd rfl (by first | exact Or.inl rfl | exact Or.inr rfl) (tr_call via_pure (ok_need_kept_rows G) (hr.mono (by decide)) rfl G.g_need_kept_rows G.F_need_kept_rows.kp G.b_need_kept_rows (takes_of rfl rfl rfl rfl) (tr_cons (tr_var 0) tr_nil)))
    (ts_cons (ts_expr (tr_callD (dd := [.int 0]) via_pure (ok_need_many G) (hr.mono (by decide)) rfl G.g_need_many G.F_need_many.kp G.bd_need_many_1 G.dv_need_many_1 (fun _ => (.cons (.int _) .nil)) (takes_of rfl rfl rfl rfl) (tr_cons (tr_var 1) (tr_cons tr_str tr_nil))))
    (ts_cons (ts_for (vs := [2]) (passes_of rfl) rfl (ti_range1 rfl G.z_range (tr_cons (tr_callB call_len snd_len rfl G.z_len boot_len (tr_cons (tr_var 0) tr_nil)) tr_nil)) (tg_name 2 sc_keeping_paper.nd rfl (by first | exact Or.inl rfl | exact Or.inr rfl)) (ts_one (ts_for (vs := [3]) (passes_of rfl) rfl (ti_range2 rfl G.z_range (tr_cons (tr_var 2) (tr_cons (tr_callB call_len snd_len rfl G.z_len boot_len (tr_cons (tr_var 0) tr_nil)) tr_nil))) (tg_name 3 sc_keeping_paper.nd rfl (by first | exact Or.inl rfl | exact Or.inr rfl)) (ts_cons (ts_tgt (vs := [4, 5, 6, 7]) (tr_tup (tr_cons (tr_ix rfl (tr_var 0) (tr_var 2)) (tr_cons (tr_ix rfl (tr_var 0) (tr_var 3)) tr_nil))) (tg_tup 2 rfl rfl (tgs_cons (tg_tup 2 rfl rfl (tgs_cons (tg_name 4 sc_keeping_paper.nd rfl (by first | exact Or.inl rfl | exact Or.inr rfl)) (tgs_cons (tg_name 5 sc_keeping_paper.nd rfl (by first | exact Or.inl rfl | exact Or.inr rfl)) tgs_nil))) (tgs_cons (tg_tup 2 rfl rfl (tgs_cons (tg_name 6 sc_keeping_paper.nd rfl (by first | exact Or.inl rfl | exact Or.inr rfl)) (tgs_cons (tg_name 7 sc_keeping_paper.nd rfl (by first | exact Or.inl rfl | exact Or.inr rfl)) tgs_nil))) tgs_nil))))
    (ts_one (ts_if (PW.pt (tt_and (tt_cmpR op_leU snd_le (tr_call via_pure (ok_lots_apart G) (hr.mono (by decide)) rfl G.g_lots_apart G.F_lots_apart.kp G.b_lots_apart (takes_of rfl rfl rfl rfl) (tr_cons (tr_var 4) (tr_cons (tr_var 6) tr_nil))) (tr_var 1) (by rfl)) (tt_and1 (tt_tru rfl (tr_callB (cr_any rfl) snd_any rfl G.z_any boot_any (tr_cons (tr_lc false [("mark", 8)] rfl sc_keeping_paper.nd (ti_of rfl (tr_var 4)) (blk_mk (by kernel_rfl)) (fun _ _ _ _ _ => (tg_name 8 sc_keeping_paper.nd rfl (by first | exact Or.inl rfl | exact Or.inr rfl))) (fun _ _ _ _ _ => tts_nil) (fun _ _ _ _ _ => (tr_cmpR (op_inU (hu65 hr)) snd_in (tr_var 8) (tr_var 6) (by rfl)))) tr_nil)))))) (ts_one (ts_if (tt_not (tt_tru rfl (tr_callB (cr_any rfl) snd_any rfl G.z_any boot_any (tr_cons (tr_lc false [("mark", 8)] rfl sc_keeping_paper.nd (ti_of rfl (tr_var 5)) (blk_mk (by kernel_rfl)) (fun _ _ _ _ _ => (tg_name 8 sc_keeping_paper.nd rfl (by first | exact Or.inl rfl | exact Or.inr rfl))) (fun _ _ _ _ _ => tts_nil) (fun _ _ _ _ _ => (tr_cmpR (op_inU (hu65 hr)) snd_in (tr_var 8) (tr_var 7) (by rfl)))) tr_nil)))) (ts_one (ts_ret (tr_tup (tr_cons tr_str (tr_cons (tr_var 2) (tr_cons (tr_var 3) tr_nil)))))) ts_nil)) ts_nil))))))
    (ts_one (ts_ret (tr_tup (tr_cons tr_str tr_nil)))))))
theorem ok__law_box (G : EnvC P w mg T base) : FnG P w T.K mg base 2 G.a__law_box G.fd__law_box ["script", "k"] (spF T 2 m__law_box) :=
  fn_ok (k := 1) (b := b__law_box) G.F__law_box sc__law_box rfl rfl fun cdv A outer s H E hr => (ts_cons (ts_set 2 sc__law_box.nd rfl (by first | exact Or.inl rfl | exact Or.inr rfl) (tr_op op_addU (snd_add false) (tr_op op_mulU (snd_mul false) tr_int (tr_var 1)) tr_int))
    (ts_cons (ts_if (tt_cmpR op_ltU snd_lt (tr_var 1) (tr_callB call_len snd_len rfl G.z_len boot_len (tr_cons (tr_var 0) tr_nil)) (by rfl)) (ts_one (ts_set 2 sc__law_box.nd rfl (by first | exact Or.inl rfl | exact Or.inr rfl) (tr_callB call_abs snd_abs rfl G.z_abs boot_abs (tr_cons (tr_ix rfl (tr_var 0) (tr_var 1)) tr_nil)))) (ts_one (ts_if (tt_cmpR op_gtU snd_gt (tr_callB call_len snd_len rfl G.z_len boot_len (tr_cons (tr_var 0) tr_nil)) tr_int (by rfl)) (ts_one (ts_set 2 sc__law_box.nd rfl (by first | exact Or.inl rfl | exact Or.inr rfl) (tr_op op_addU (snd_add false) (tr_var 2) (tr_op op_mulU (snd_mul false) (tr_op op_modN snd_mod (tr_callTy call_int1 snd_int rfl G.z_int PyProof.Rows.boot_int (tr_cons (tr_callB call_abs snd_abs rfl G.z_abs boot_abs (tr_cons (tr_ix rfl (tr_var 0) (tr_op op_modN snd_mod (tr_callTy call_int1 snd_int rfl G.z_int PyProof.Rows.boot_int (tr_cons (tr_var 1) tr_nil)) (tr_callB call_len snd_len rfl G.z_len boot_len (tr_cons (tr_var 0) tr_nil)))) tr_nil)) tr_nil)) tr_int) tr_int)))) ts_nil)))
    (ts_one (ts_ret (tr_lst true (tr_cons (tr_ix rfl (tr_lst false (tr_cons tr_int (tr_cons (tr_var 2) tr_nil))) (tr_callTy call_int1 snd_int rfl G.z_int PyProof.Rows.boot_int (tr_cons (tr_cmpR op_geU snd_ge (tr_var 2) (tr_op op_pow snd_pow tr_int tr_int) (by rfl)) tr_nil))) (tr_cons (tr_op op_addU (snd_add false) (tr_op op_modN snd_mod (tr_callTy call_int1 snd_int rfl G.z_int PyProof.Rows.boot_int (tr_cons (tr_op op_addU (snd_add false) (tr_op op_mulU (snd_mul false) (tr_op op_modN snd_mod (tr_callTy call_int1 snd_int rfl G.z_int PyProof.Rows.boot_int (tr_cons (tr_var 2) tr_nil)) tr_int) tr_int) (tr_op op_mulU (snd_mul false) tr_int (tr_var 1))) tr_nil)) tr_int) tr_int) (tr_cons tr_int tr_nil))))))))
theorem ok__law_take (G : EnvC P w mg T base) : FnG P w T.K mg base 2 G.a__law_take G.fd__law_take ["box", "many"] (spF T 2 m__law_take) :=
  fn_ok (k := 1) (b := b__law_take) G.F__law_take sc__law_take rfl rfl fun cdv A outer s H E hr => (ts_cons (ts_if (tt_cmpR op_gtU snd_gt (tr_ix rfl (tr_var 0) tr_int) tr_int (by rfl)) (ts_cons (ts_set 2 sc__law_take.nd rfl (by first | exact Or.inl rfl | exact Or.inr rfl) (tr_op op_modN snd_mod (tr_callTy call_int1 snd_int rfl G.z_int PyProof.Rows.boot_int (tr_cons (tr_ix rfl (tr_var 0) tr_int) tr_nil)) (tr_var 1)))
    (ts_cons (ts_put (tr_op op_fdivN snd_div (tr_ix rfl (tr_var 0) tr_int) (tr_var 1)) (tr_var 0) tr_int)
    (ts_one (ts_ret (tr_var 2))))) ts_nil)
    (ts_cons (ts_put (tr_op op_addU (snd_add false) (tr_ix rfl (tr_var 0) tr_int) tr_int) (tr_var 0) tr_int)
    (ts_cons (ts_set 3 sc__law_take.nd rfl (by first | exact Or.inl rfl | exact Or.inr rfl) (tr_op op_modN snd_mod (tr_callTy call_int1 snd_int rfl G.z_int PyProof.Rows.boot_int (tr_cons (tr_op op_addU (snd_add false) (tr_op op_mulU (snd_mul false) (tr_op op_addU (snd_add false) (tr_ix rfl (tr_var 0) tr_int) (tr_op op_mulU (snd_mul false) tr_int (tr_ix rfl (tr_var 0) tr_int))) tr_int) tr_int) tr_nil)) tr_int))
    (ts_cons (ts_put (tr_op op_addU (snd_add false) (tr_op op_modN snd_mod (tr_callTy call_int1 snd_int rfl G.z_int PyProof.Rows.boot_int (tr_cons (tr_op op_addU (snd_add false) (tr_op op_mulU (snd_mul false) (tr_var 3) tr_int) tr_int) tr_nil)) tr_int) tr_int) (tr_var 0) tr_int)
    (ts_one (ts_ret (tr_op op_modN snd_mod (tr_callTy call_int1 snd_int rfl G.z_int PyProof.Rows.boot_int (tr_cons (tr_op op_fdivN snd_div (tr_op op_addU (snd_add false) (tr_op op_mulU (snd_mul false) (tr_var 3) tr_int) (tr_ix rfl (tr_var 0) tr_int)) tr_int) tr_nil)) (tr_var 1))))))))
theorem ok__law_mixed (G : EnvC P w mg T base) : FnG P w T.K mg base 3 G.a__law_mixed G.fd__law_mixed ["box", "some"] (spF T 2 m__law_mixed) :=
  fn_ok (k := 2) (b := b__law_mixed) G.F__law_mixed sc__law_mixed rfl rfl fun cdv A outer s H E hr => (ts_cons (ts_par2 2 3 rfl sc__law_mixed.nd rfl rfl (by decide) rfl rfl (tr_cons (tr_callTy call_list_of (snd_list true) rfl G.z_list PyProof.Rows.boot_list (tr_cons (tr_var 1) tr_nil)) (tr_cons (tr_lst true tr_nil) tr_nil)) (by rfl))
    (ts_cons (ts_for (vs := [4]) (passes_of rfl) rfl (ti_range1 rfl G.z_range (tr_cons (tr_callB call_len snd_len rfl G.z_len boot_len (tr_cons (tr_var 1) tr_nil)) tr_nil)) (tg_name 4 sc__law_mixed.nd rfl (by first | exact Or.inl rfl | exact Or.inr rfl)) (ts_one (ts_expr (tr_bml rfl PySem.F.slot_list_append PySem.F.type_list_append mt_append snd_append (tr_var 3) (tr_cons (tr_bml rfl PySem.F.slot_list_pop PySem.F.type_list_pop mt_popAt snd_popI (tr_var 2) (tr_cons (tr_call via_ref (ok__law_take G) (hr.mono (by decide)) rfl G.g__law_take G.F__law_take.kp G.b__law_take (takes_of rfl rfl rfl rfl) (tr_cons (tr_var 0) (tr_cons (tr_callB call_len snd_len rfl G.z_len boot_len (tr_cons (tr_var 2) tr_nil)) tr_nil))) tr_nil)) tr_nil)))))
    (ts_one (ts_ret (tr_var 3)))))
theorem ok__law_apart (G : EnvC P w mg T base) : FnG P w T.K mg base 2 G.a__law_apart G.fd__law_apart ["one", "other"] (spF T 2 m__law_apart) :=
  fn_ok (k := 1) (b := b__law_apart) G.F__law_apart sc__law_apart rfl rfl fun cdv A outer s H E hr => (ts_one (ts_ret (tr_op op_addU (snd_add false) (tr_callB call_len snd_len rfl G.z_len boot_len (tr_cons (tr_lc false [("mark", 2)] rfl sc__law_apart.nd (ti_of rfl (tr_var 0)) (blk_mk (by kernel_rfl)) (fun _ _ _ _ _ => (tg_name 2 sc__law_apart.nd rfl (by first | exact Or.inl rfl | exact Or.inr rfl))) (fun _ _ _ _ _ => (tts_one (tt_cmpR (op_notInU (hu65 hr)) snd_notIn (tr_var 2) (tr_var 1) (by rfl)))) (fun _ _ _ _ _ => (tr_var 2))) tr_nil)) (tr_callB call_len snd_len rfl G.z_len boot_len (tr_cons (tr_lc false [("mark", 2)] rfl sc__law_apart.nd (ti_of rfl (tr_var 1)) (blk_mk (by kernel_rfl)) (fun _ _ _ _ _ => (tg_name 2 sc__law_apart.nd rfl (by first | exact Or.inl rfl | exact Or.inr rfl))) (fun _ _ _ _ _ => (tts_one (tt_cmpR (op_notInU (hu65 hr)) snd_notIn (tr_var 2) (tr_var 0) (by rfl)))) (fun _ _ _ _ _ => (tr_var 2))) tr_nil)))))
theorem ok__law_common (G : EnvC P w mg T base) : FnG P w T.K mg base 2 G.a__law_common G.fd__law_common ["one", "other"] (spF T 2 m__law_common) :=
  fn_ok (k := 1) (b := b__law_common) G.F__law_common sc__law_common rfl rfl fun cdv A outer s H E hr => (ts_one (ts_ret (tr_cmpR (op_neD (hu1 hr)) snd_ne (tr_lc false [("thing", 2)] rfl sc__law_common.nd (ti_of rfl (tr_var 0)) (blk_mk (by kernel_rfl)) (fun _ _ _ _ _ => (tg_name 2 sc__law_common.nd rfl (by first | exact Or.inl rfl | exact Or.inr rfl))) (fun _ _ _ _ _ => (tts_one (tt_cmpR (op_inU (hu65 hr)) snd_in (tr_var 2) (tr_var 1) (by rfl)))) (fun _ _ _ _ _ => (tr_var 2))) (tr_lst false tr_nil) (by rfl))))
theorem ok__law_kept (G : EnvC P w mg T base) : FnG P w T.K mg base 2 G.a__law_kept G.fd__law_kept ["order", "lot", "near"] (spF T 3 m__law_kept) :=
  fn_ok (k := 1) (b := b__law_kept) G.F__law_kept sc__law_kept rfl rfl fun cdv A outer s H E hr => (ts_cons (ts_par2 3 4 rfl sc__law_kept.nd rfl rfl (by decide) rfl rfl (tr_cons (tr_lst true tr_nil) (tr_cons tr_int tr_nil)) (by rfl))
    (ts_cons (ts_for (vs := [5]) (passes_of rfl) rfl (ti_of rfl (tr_var 0)) (tg_name 5 sc__law_kept.nd rfl (by first | exact Or.inl rfl | exact Or.inr rfl)) (ts_one (ts_if (tt_cmpR (op_inU (hu65 hr)) snd_in (tr_var 5) (tr_var 1) (by rfl)) (ts_cons (ts_if (tt_cmpR op_leU snd_le (tr_var 4) (tr_var 2) (by rfl)) (ts_one (ts_expr (tr_bml rfl PySem.F.slot_list_append PySem.F.type_list_append mt_append snd_append (tr_var 3) (tr_cons (tr_var 5) tr_nil)))) ts_nil)
    (ts_one (ts_set 4 sc__law_kept.nd rfl (by first | exact Or.inl rfl | exact Or.inr rfl) (tr_op op_addU (snd_add false) (tr_var 4) tr_int)))) ts_nil)))
    (ts_one (ts_ret (tr_callTy call_tuple_of snd_tuple rfl G.z_tuple PyProof.Rows.boot_tuple (tr_cons (tr_op op_addU (snd_add false) (tr_var 3) (tr_op op_mulU (snd_mul false) (tr_lst false (tr_cons tr_non tr_nil)) (tr_callTy call_int1 snd_int rfl G.z_int PyProof.Rows.boot_int (tr_cons (tr_cmpR op_leU snd_le (tr_var 4) (tr_var 2) (by rfl)) tr_nil)))) tr_nil))))))
theorem ok__law_parts (G : EnvC P w mg T base) : FnG P w T.K mg base 2 G.a__law_parts G.fd__law_parts ["marks"] (spF T 1 m__law_parts) :=
  fn_ok (k := 1) (b := b__law_parts) G.F__law_parts sc__law_parts rfl rfl fun cdv A outer s H E hr => (ts_cons (ts_set 1 sc__law_parts.nd rfl (by first | exact Or.inl rfl | exact Or.inr rfl) (tr_lst false (tr_cons (tr_tup tr_nil) tr_nil)))
    (ts_cons (ts_for (vs := [2]) (passes_of rfl) rfl (ti_of rfl (tr_var 0)) (tg_name 2 sc__law_parts.nd rfl (by first | exact Or.inl rfl | exact Or.inr rfl)) (ts_one (ts_set 1 sc__law_parts.nd rfl (by first | exact Or.inl rfl | exact Or.inr rfl) (tr_op op_addU (snd_add false) (tr_var 1) (tr_lc false [("part", 3)] rfl sc__law_parts.nd (ti_of rfl (tr_var 1)) (blk_mk (by kernel_rfl)) (fun _ _ _ _ _ => (tg_name 3 sc__law_parts.nd rfl (by first | exact Or.inl rfl | exact Or.inr rfl))) (fun _ _ _ _ _ => tts_nil) (fun _ _ _ _ _ => (tr_op op_addU (snd_add false) (tr_var 3) (tr_tup (tr_cons (tr_var 2) tr_nil)))))))))
    (ts_one (ts_ret (tr_sl10 false rfl (tr_var 1) tr_int)))))
theorem ok__law_missed (G : EnvC P w mg T base) : FnG P w T.K mg base 3 G.a__law_missed G.fd__law_missed ["rows", "near"] (spF T 2 m__law_missed) :=
  fn_ok (k := 2) (b := b__law_missed) G.F__law_missed sc__law_missed rfl rfl fun cdv A outer s H E hr => (ts_cons (ts_for (vs := [2]) (passes_of rfl) rfl (ti_range1 rfl G.z_range (tr_cons (tr_callB call_len snd_len rfl G.z_len boot_len (tr_cons (tr_var 0) tr_nil)) tr_nil)) (tg_name 2 sc__law_missed.nd rfl (by first | exact Or.inl rfl | exact Or.inr rfl)) (ts_one (ts_for (vs := [3]) (passes_of rfl) rfl (ti_range2 rfl G.z_range (tr_cons (tr_var 2) (tr_cons (tr_callB call_len snd_len rfl G.z_len boot_len (tr_cons (tr_var 0) tr_nil)) tr_nil))) (tg_name 3 sc__law_missed.nd rfl (by first | exact Or.inl rfl | exact Or.inr rfl)) (ts_cons (ts_tgt (vs := [4, 5, 6, 7]) (tr_tup (tr_cons (tr_ix rfl (tr_var 0) (tr_var 2)) (tr_cons (tr_ix rfl (tr_var 0) (tr_var 3)) tr_nil))) (tg_tup 2 rfl rfl (tgs_cons (tg_tup 2 rfl rfl (tgs_cons (tg_name 4 sc__law_missed.nd rfl (by first | exact Or.inl rfl | exact Or.inr rfl)) (tgs_cons (tg_name 5 sc__law_missed.nd rfl (by first | exact Or.inl rfl | exact Or.inr rfl)) tgs_nil))) (tgs_cons (tg_tup 2 rfl rfl (tgs_cons (tg_name 6 sc__law_missed.nd rfl (by first | exact Or.inl rfl | exact Or.inr rfl)) (tgs_cons (tg_name 7 sc__law_missed.nd rfl (by first | exact Or.inl rfl | exact Or.inr rfl)) tgs_nil))) tgs_nil))))
    (ts_one (ts_if (PW.pt (tt_and (tt_cmpR op_leU snd_le (tr_call via_pure (ok__law_apart G) (hr.mono (by decide)) rfl G.g__law_apart G.F__law_apart.kp G.b__law_apart (takes_of rfl rfl rfl rfl) (tr_cons (tr_var 4) (tr_cons (tr_var 6) tr_nil))) (tr_var 1) (by rfl)) (tt_and (tt_tru rfl (tr_call via_pure (ok__law_common G) (hr.mono (by decide)) rfl G.g__law_common G.F__law_common.kp G.b__law_common (takes_of rfl rfl rfl rfl) (tr_cons (tr_var 4) (tr_cons (tr_var 6) tr_nil)))) (tt_and1 (tt_not (tt_tru rfl (tr_call via_pure (ok__law_common G) (hr.mono (by decide)) rfl G.g__law_common G.F__law_common.kp G.b__law_common (takes_of rfl rfl rfl rfl) (tr_cons (tr_var 5) (tr_cons (tr_var 7) tr_nil))))))))) (ts_one (ts_ret (tr_tup (tr_cons tr_str (tr_cons (tr_var 2) (tr_cons (tr_var 3) tr_nil)))))) ts_nil))))))
    (ts_one (ts_ret (tr_tup (tr_cons tr_str tr_nil)))))
theorem ok__law_pick (G : EnvC P w mg T base) : FnG P w T.K mg base 3 G.a__law_pick G.fd__law_pick ["box", "some"] (spF T 2 m__law_pick) :=
  fn_ok (k := 2) (b := b__law_pick) G.F__law_pick sc__law_pick rfl rfl fun cdv A outer s H E hr => (ts_one (ts_ret (tr_ix rfl (tr_var 1) (tr_call via_ref (ok__law_take G) (hr.mono (by decide)) rfl G.g__law_take G.F__law_take.kp G.b__law_take (takes_of rfl rfl rfl rfl) (tr_cons (tr_var 0) (tr_cons (tr_callB call_len snd_len rfl G.z_len boot_len (tr_cons (tr_var 1) tr_nil)) tr_nil))))))
theorem ok__law_refused (G : EnvC P w mg T base) (hl : Nat → Sto → Out R) {k : Nat} (cdv : Value) (A : Around) (outer : List PySem.Env) (s : Shared) (H : Hp) (E : XK) (hr : RoomG k (A.deeper (envOfC "_law_refused" (defScope s__law_refused) s.heap.objs.size G.a__law_refused cdv)))
    (hole : ∀ (pn : List (Addr × Obj)) (xe : Value → Shared → Prop) (W' : WX), Takes ((cxOf (L2.CX P w) P w T.K mg base ["work", "e"] "_law_refused" (defScope s__law_refused) G.a__law_refused cdv A outer s H E).tr pn xe) W' → ∀ p1 p2 : Pos, PE ((cxOf (L2.CX P w) P w T.K mg base ["work", "e"] "_law_refused" (defScope s__law_refused) G.a__law_refused cdv A outer s H E).tr pn xe) (.Call (.Name "work" p1) [] [] p2) (tE T W' (eWork 0 hl))) :
    PSs (cxOf (L2.CX P w) P w T.K mg base ["work", "e"] "_law_refused" (defScope s__law_refused) G.a__law_refused cdv A outer s H E) (defBody s__law_refused) (tS T (fun cls d _ H' => E cls d H') (b__law_refused hl)) := (ts_cons (ts_try G.cu rfl rfl (takes_of rfl rfl rfl rfl) (fun W pn xe tk hp => (ts_one (ts_expr (hole _ _ _ tk _ _)))) (.named 1 sc__law_refused.nd rfl rfl ⟨rfl, by decide, Or.inl (globs_0 G.ge 0)⟩ (hits_row G.er G.nd G.nB 0 [true, false] (by decide) (by rfl)) (fun a oe cls d pn hz hf => (ts_one (ts_ret (tr_tup (tr_cons tr_str (tr_cons (tr_fld [0] 1 hz hf (by intro k hk; simp only [List.mem_cons, List.not_mem_nil, or_false] at hk; subst hk; exact fld_at G.er G.fl 0 "at")) tr_nil)))))) (.named 1 sc__law_refused.nd rfl rfl ⟨rfl, by decide, Or.inl (globs_0 G.ge 1)⟩ (hits_row G.er G.nd G.nB 1 [false, true] (by decide) (by rfl)) (fun a oe cls d pn hz hf => (ts_one (ts_ret (tr_tup (tr_cons tr_str (tr_cons (tr_fld [1] 1 hz hf (by intro k hk; simp only [List.mem_cons, List.not_mem_nil, or_false] at hk; subst hk; exact fld_at G.er G.fl 1 "word")) tr_nil)))))) .nil)))
    (ts_one (ts_ret tr_non)))
theorem ok__law_errors (G : Env P w mg T base) : FnG P w T.K mg base 10 G.a__law_errors G.fd__law_errors ["box", "order", "rows"] (spF T 3 m__law_errors) :=
  fn_okC (k := 9) (b := b__law_errors) G.F__law_errors sc__law_errors rfl rfl fun cdv hc A outer s H E hr => (ts_cons (ts_set 3 sc__law_errors.nd rfl (by first | exact Or.inl rfl | exact Or.inr rfl) (tr_call via_ref (ok__law_pick G.toEnvC) (hr.mono (by decide)) rfl G.g__law_pick G.F__law_pick.kp G.b__law_pick (takes_of rfl rfl rfl rfl) (tr_cons (tr_var 0) (tr_cons (tr_lst false (tr_cons tr_non (tr_cons tr_int (tr_cons tr_str (tr_cons (tr_tup (tr_cons tr_int (tr_cons tr_int tr_nil))) (tr_cons (tr_lst false (tr_cons (tr_op op_sub snd_sub tr_int tr_int) tr_nil)) (tr_cons (tr_tup (tr_cons tr_bl tr_nil)) (tr_cons (tr_lst false (tr_cons (tr_lst false (tr_cons tr_int tr_nil)) tr_nil)) tr_nil)))))))) tr_nil))))
    (ts_cons (ts_set 4 sc__law_errors.nd rfl (by first | exact Or.inl rfl | exact Or.inr rfl) (tr_call via_ref (ok__law_pick G.toEnvC) (hr.mono (by decide)) rfl G.g__law_pick G.F__law_pick.kp G.b__law_pick (takes_of rfl rfl rfl rfl) (tr_cons (tr_var 0) (tr_cons (tr_lst false (tr_cons tr_non (tr_cons tr_bl (tr_cons (tr_op op_sub snd_sub tr_int tr_int) (tr_cons tr_str tr_nil))))) tr_nil))))
    (ts_cons (ts_set 5 sc__law_errors.nd rfl (by first | exact Or.inl rfl | exact Or.inr rfl) (tr_call via_ref (ok__law_pick G.toEnvC) (hr.mono (by decide)) rfl G.g__law_pick G.F__law_pick.kp G.b__law_pick (takes_of rfl rfl rfl rfl) (tr_cons (tr_var 0) (tr_cons (tr_lst false (tr_cons tr_non (tr_cons (tr_tup (tr_cons tr_int tr_nil)) (tr_cons (tr_tup (tr_cons (tr_tup (tr_cons tr_int tr_nil)) (tr_cons (tr_tup (tr_cons tr_int tr_nil)) tr_nil))) (tr_cons (tr_tup (tr_cons (tr_tup (tr_cons tr_int (tr_cons tr_int tr_nil))) (tr_cons (tr_tup tr_nil) tr_nil))) (tr_cons (tr_ix rfl (tr_var 2) tr_int) (tr_cons (tr_tup (tr_cons (tr_tup (tr_cons tr_int tr_nil)) (tr_cons tr_non tr_nil))) (tr_cons (tr_tup (tr_cons (tr_tup (tr_cons tr_int tr_nil)) (tr_cons (tr_tup (tr_cons tr_int tr_nil)) (tr_cons tr_int tr_nil)))) tr_nil)))))))) tr_nil))))
    (ts_lamsB G.ln (ts_cons (ts_set 6 sc__law_errors.nd rfl (by first | exact Or.inl rfl | exact Or.inr rfl) (tr_lst true (tr_cons (tr_tupL (tr_cons (tr_lam0 0 rfl G.lx G.lB__law_errors (hc.symm.trans G.lc__law_errors) G.lm__law_errors G.lo__law_errors (LamX.lamS_by (by kernel_rfl))) (tr_cons (tr_tup (tr_cons tr_str (tr_cons tr_int tr_nil))) tr_nil))) tr_nil)))
    (ts_cons (ts_expr (tr_bml rfl PySem.F.slot_list_append PySem.F.type_list_append mt_append snd_append (tr_var 6) (tr_cons (tr_tupL (tr_cons (tr_lam0 1 rfl G.lx G.lB__law_errors (hc.symm.trans G.lc__law_errors) G.lm__law_errors G.lo__law_errors (LamX.lamS_by (by kernel_rfl))) (tr_cons (tr_tup (tr_cons tr_str (tr_cons tr_int tr_nil))) tr_nil))) tr_nil)))
    (ts_cons (ts_expr (tr_bml rfl PySem.F.slot_list_append PySem.F.type_list_append mt_append snd_append (tr_var 6) (tr_cons (tr_tupL (tr_cons (tr_lam0 2 rfl G.lx G.lB__law_errors (hc.symm.trans G.lc__law_errors) G.lm__law_errors G.lo__law_errors (LamX.lamS_by (by kernel_rfl))) (tr_cons (tr_tup (tr_cons tr_str (tr_cons tr_int tr_nil))) tr_nil))) tr_nil)))
    (ts_cons (ts_expr (tr_bml rfl PySem.F.slot_list_append PySem.F.type_list_append mt_append snd_append (tr_var 6) (tr_cons (tr_tupL (tr_cons (tr_lam0 3 rfl G.lx G.lB__law_errors (hc.symm.trans G.lc__law_errors) G.lm__law_errors G.lo__law_errors (LamX.lamS_by (by kernel_rfl))) (tr_cons (tr_tup (tr_cons tr_str (tr_cons tr_str tr_nil))) tr_nil))) tr_nil)))
    (ts_cons (ts_expr (tr_bml rfl PySem.F.slot_list_append PySem.F.type_list_append mt_append snd_append (tr_var 6) (tr_cons (tr_tupL (tr_cons (tr_lam0 4 rfl G.lx G.lB__law_errors (hc.symm.trans G.lc__law_errors) G.lm__law_errors G.lo__law_errors (LamX.lamS_by (by kernel_rfl))) (tr_cons (tr_tup (tr_cons tr_str (tr_cons (tr_op op_sub snd_sub tr_int tr_int) tr_nil))) tr_nil))) tr_nil)))
    (ts_cons (ts_expr (tr_bml rfl PySem.F.slot_list_append PySem.F.type_list_append mt_append snd_append (tr_var 6) (tr_cons (tr_tupL (tr_cons (tr_lam0 5 rfl G.lx G.lB__law_errors (hc.symm.trans G.lc__law_errors) G.lm__law_errors G.lo__law_errors (LamX.lamS_by (by kernel_rfl))) (tr_cons (tr_tup (tr_cons tr_str (tr_cons (tr_callB call_len snd_len rfl G.z_len boot_len (tr_cons (tr_var 2) tr_nil)) tr_nil))) tr_nil))) tr_nil)))
    (ts_cons (ts_expr (tr_bml rfl PySem.F.slot_list_append PySem.F.type_list_append mt_append snd_append (tr_var 6) (tr_cons (tr_tupL (tr_cons (tr_lam0 6 rfl G.lx G.lB__law_errors (hc.symm.trans G.lc__law_errors) G.lm__law_errors G.lo__law_errors (LamX.lamS_by (by kernel_rfl))) (tr_cons (tr_tup (tr_cons tr_str (tr_cons tr_str tr_nil))) tr_nil))) tr_nil)))
    (ts_one (ts_ret (tr_cmpR (op_eqD (hu1 hr)) snd_eq (tr_lcW [("work", 7), ("due", 8)] rfl sc__law_errors.nd G.lx (fun σ ρ => (ti_of rfl (tr_var 6))) (blk_mk (by kernel_rfl)) (fun σ ρ _ _ _ _ _ => (tg_w2 7 8 rfl rfl sc__law_errors.nd rfl rfl (by first | exact Or.inl rfl | exact Or.inr rfl) (by first | exact Or.inl rfl | exact Or.inr rfl))) (fun σ ρ s H C cl fp mk => (tts_one (tt_cmpR (op_neD (hu1 hr)) snd_ne (tr_lcallBL (T := T) (mg := mg) (base := base) (k := 6) (i := 0) (a := "work") b__law_refused (fun ls σ ρ hl cdv A outer s H E hr hole => ok__law_refused (G.toEnvC.toL ls σ ρ) hl cdv A outer s H E hr hole) rfl rfl rfl rfl rfl mk G.F__law_refused sc__law_refused rfl rfl G.lx (.cons ⟨_, _, _, rfl, LamX.lamS_by (by kernel_rfl), (by intros; rfl), fun A outer s H E f c hr => (tr_call via_ref (fnG_lam G.ln (ok_first_marks G.toEnvC)) (hr.mono (by decide)) rfl G.g_first_marks G.F_first_marks.kp G.b_first_marks (takes_of rfl rfl rfl rfl) (tr_cons (tr_var 3) (tr_cons tr_non (tr_cons tr_non tr_nil))))⟩ (.cons ⟨_, _, _, rfl, LamX.lamS_by (by kernel_rfl), (by intros; rfl), fun A outer s H E f c hr => (tr_call via_ref (fnG_lam G.ln (ok_first_marks G.toEnvC)) (hr.mono (by decide)) rfl G.g_first_marks G.F_first_marks.kp G.b_first_marks (takes_of rfl rfl rfl rfl) (tr_cons (tr_var 1) (tr_cons (tr_var 3) (tr_cons tr_non tr_nil))))⟩ (.cons ⟨_, _, _, rfl, LamX.lamS_by (by kernel_rfl), (by intros; rfl), fun A outer s H E f c hr => (tr_call via_ref (fnG_lam G.ln (ok_first_marks G.toEnvC)) (hr.mono (by decide)) rfl G.g_first_marks G.F_first_marks.kp G.b_first_marks (takes_of rfl rfl rfl rfl) (tr_cons (tr_var 1) (tr_cons (tr_lst false (tr_cons (tr_op op_addU (snd_add false) (tr_callB (cr_bestMax rfl (hu65 hr)) (snd_best _) rfl G.z_max boot_max (tr_cons (tr_var 1) tr_nil)) tr_int) tr_nil)) (tr_cons tr_int tr_nil))))⟩ (.cons ⟨_, _, _, rfl, LamX.lamS_by (by kernel_rfl), (by intros; rfl), fun A outer s H E f c hr => (tr_call via_ref (fnG_lam G.ln (ok_first_marks G.toEnvC)) (hr.mono (by decide)) rfl G.g_first_marks G.F_first_marks.kp G.b_first_marks (takes_of rfl rfl rfl rfl) (tr_cons (tr_var 1) (tr_cons (tr_var 1) (tr_cons (tr_var 4) tr_nil))))⟩ (.cons ⟨_, _, _, rfl, LamX.lamS_by (by kernel_rfl), (by intros; rfl), fun A outer s H E f c hr => (tr_call via_ref (fnG_lam G.ln (ok_keeping_paper G.toEnvC)) (hr.mono (by decide)) rfl G.g_keeping_paper G.F_keeping_paper.kp G.b_keeping_paper (takes_of rfl rfl rfl rfl) (tr_cons (tr_call via_ref (ok__law_pick (G.toEnvC.toL0 _)) (hr.mono (by decide)) rfl G.g__law_pick G.F__law_pick.kp G.b__law_pick (takes_of rfl rfl rfl rfl) (tr_cons (tr_var 0) (tr_cons (tr_lst false (tr_cons tr_non (tr_cons tr_int (tr_cons tr_str tr_nil)))) tr_nil))) (tr_cons tr_int tr_nil)))⟩ (.cons ⟨_, _, _, rfl, LamX.lamS_by (by kernel_rfl), (by intros; rfl), fun A outer s H E f c hr => (tr_call via_ref (fnG_lam G.ln (ok_keeping_paper G.toEnvC)) (hr.mono (by decide)) rfl G.g_keeping_paper G.F_keeping_paper.kp G.b_keeping_paper (takes_of rfl rfl rfl rfl) (tr_cons (tr_op op_addU (snd_add false) (tr_var 2) (tr_lst false (tr_cons (tr_var 5) (tr_cons tr_non tr_nil)))) (tr_cons tr_non tr_nil)))⟩ (.cons ⟨_, _, _, rfl, LamX.lamS_by (by kernel_rfl), (by intros; rfl), fun A outer s H E f c hr => (tr_call via_ref (fnG_lam G.ln (ok_keeping_paper G.toEnvC)) (hr.mono (by decide)) rfl G.g_keeping_paper G.F_keeping_paper.kp G.b_keeping_paper (takes_of rfl rfl rfl rfl) (tr_cons (tr_var 2) (tr_cons (tr_var 4) tr_nil)))⟩ .nil))))))) (hr.mono (by decide)) rfl G.g__law_refused G.F__law_refused.kp G.b__law_refused takes0 rfl (by first | exact Or.inl rfl | exact Or.inr (Or.inl rfl) | exact Or.inr (Or.inr rfl)) (tr_cons (tr_var 7) tr_nil)) (tr_var 8) (by rfl))))) (tr_lst false tr_nil) (by rfl)))))))))))))))
theorem ok_law (G : Env P w mg T base) : FnG P w T.K mg base 11 G.a_law G.fd_law ["script"] (spF T 1 m_law) :=
  fn_ok (k := 10) (b := b_law) G.F_law sc_law rfl rfl fun cdv A outer s H E hr => (ts_cons (ts_if (PW.pt (tt_or (tt_cmpR (op_neD (hu1 hr)) snd_ne (tr_call via_pure (ok_first_marks G.toEnvC) (hr.mono (by decide)) rfl G.g_first_marks G.F_first_marks.kp G.b_first_marks (takes_of rfl rfl rfl rfl) (tr_cons (tr_lst false (tr_cons tr_int (tr_cons tr_int (tr_cons tr_int tr_nil)))) (tr_cons (tr_tup (tr_cons tr_int (tr_cons tr_int tr_nil))) (tr_cons tr_int tr_nil)))) (tr_tup (tr_cons tr_int tr_nil)) (by rfl)) (tt_or1 (tt_cmpR (op_neD (hu1 hr)) snd_ne (tr_call via_pure (ok_first_marks G.toEnvC) (hr.mono (by decide)) rfl G.g_first_marks G.F_first_marks.kp G.b_first_marks (takes_of rfl rfl rfl rfl) (tr_cons (tr_tup (tr_cons tr_int (tr_cons tr_int (tr_cons tr_int tr_nil)))) (tr_cons (tr_lst false (tr_cons tr_int tr_nil)) (tr_cons tr_int tr_nil)))) (tr_tup (tr_cons tr_int (tr_cons tr_non tr_nil))) (by rfl))))) (ts_one (ts_ret tr_bl)) ts_nil)
    (ts_cons (ts_if (tt_cmpR (op_neD (hu1 hr)) snd_ne (tr_call via_pure (ok_keeping_paper G.toEnvC) (hr.mono (by decide)) rfl G.g_keeping_paper G.F_keeping_paper.kp G.b_keeping_paper (takes_of rfl rfl rfl rfl) (tr_cons (tr_lst false (tr_cons (tr_tup (tr_cons (tr_tup (tr_cons tr_int (tr_cons tr_int tr_nil))) (tr_cons (tr_tup (tr_cons tr_int tr_nil)) tr_nil))) (tr_cons (tr_tup (tr_cons (tr_tup (tr_cons tr_int (tr_cons tr_int tr_nil))) (tr_cons (tr_tup (tr_cons tr_int tr_nil)) tr_nil))) (tr_cons (tr_tup (tr_cons (tr_tup (tr_cons tr_int tr_nil)) (tr_cons (tr_tup (tr_cons tr_int tr_nil)) tr_nil))) tr_nil)))) (tr_cons tr_int tr_nil))) (tr_tup (tr_cons tr_str (tr_cons tr_int (tr_cons tr_int tr_nil)))) (by rfl)) (ts_one (ts_ret tr_bl)) ts_nil)
    (ts_cons (ts_for (vs := [1]) (passes_of rfl) rfl (ti_range1 rfl G.z_range (tr_cons tr_int tr_nil)) (tg_name 1 sc_law.nd rfl (by first | exact Or.inl rfl | exact Or.inr rfl)) (ts_cons (ts_set 2 sc_law.nd rfl (by first | exact Or.inl rfl | exact Or.inr rfl) (tr_call via_ref (ok__law_box G.toEnvC) (hr.mono (by decide)) rfl G.g__law_box G.F__law_box.kp G.b__law_box (takes_of rfl rfl rfl rfl) (tr_cons (tr_var 0) (tr_cons (tr_var 1) tr_nil))))
    (ts_cons (ts_set 3 sc_law.nd rfl (by first | exact Or.inl rfl | exact Or.inr rfl) (tr_call via_ref (ok__law_mixed G.toEnvC) (hr.mono (by decide)) rfl G.g__law_mixed G.F__law_mixed.kp G.b__law_mixed (takes_of rfl rfl rfl rfl) (tr_cons (tr_var 2) (tr_cons (tr_lr1 false rfl rfl G.z_list rfl G.z_range (tr_op op_addU (snd_add false) tr_int (tr_call via_ref (ok__law_take G.toEnvC) (hr.mono (by decide)) rfl G.g__law_take G.F__law_take.kp G.b__law_take (takes_of rfl rfl rfl rfl) (tr_cons (tr_var 2) (tr_cons tr_int tr_nil))))) tr_nil))))
    (ts_cons (ts_set 3 sc_law.nd rfl (by first | exact Or.inl rfl | exact Or.inr rfl) (tr_lc false [("mark", 17)] rfl sc_law.nd (ti_of rfl (tr_var 3)) (blk_mk (by kernel_rfl)) (fun _ _ _ _ _ => (tg_name 17 sc_law.nd rfl (by first | exact Or.inl rfl | exact Or.inr rfl))) (fun _ _ _ _ _ => tts_nil) (fun _ _ _ _ _ => (tr_op op_addU (snd_add false) (tr_var 17) (tr_op op_mulU (snd_mul false) (tr_op op_mulU (snd_mul false) tr_int (tr_call via_ref (ok__law_take G.toEnvC) (hr.mono (by decide)) rfl G.g__law_take G.F__law_take.kp G.b__law_take takes0 (tr_cons (tr_var 2) (tr_cons tr_int tr_nil)))) (tr_callB call_len snd_len rfl G.z_len boot_len (tr_cons (tr_var 3) tr_nil)))))))
    (ts_cons (ts_par2n 4 5 rfl sc_law.nd rfl rfl (by first | exact Or.inl rfl | exact Or.inr rfl) (by first | exact Or.inl rfl | exact Or.inr rfl) (tr_cons (tr_call via_ref (ok__law_take G.toEnvC) (hr.mono (by decide)) rfl G.g__law_take G.F__law_take.kp G.b__law_take (takes_of rfl rfl rfl rfl) (tr_cons (tr_var 2) (tr_cons tr_int tr_nil))) (tr_cons (tr_lst true tr_nil) tr_nil)))
    (ts_cons (ts_for (vs := [6]) (passes_of rfl) rfl (ti_range1 rfl G.z_range (tr_cons tr_int tr_nil)) (tg_name 6 sc_law.nd rfl (by first | exact Or.inl rfl | exact Or.inr rfl)) (ts_cons (ts_set 7 sc_law.nd rfl (by first | exact Or.inl rfl | exact Or.inr rfl) (tr_call via_ref (ok__law_mixed G.toEnvC) (hr.mono (by decide)) rfl G.g__law_mixed G.F__law_mixed.kp G.b__law_mixed (takes_of rfl rfl rfl rfl) (tr_cons (tr_var 2) (tr_cons (tr_lc false [("mark", 17)] rfl sc_law.nd (ti_of rfl (tr_var 3)) (blk_mk (by kernel_rfl)) (fun _ _ _ _ _ => (tg_name 17 sc_law.nd rfl (by first | exact Or.inl rfl | exact Or.inr rfl))) (fun _ _ _ _ _ => (tts_one (tt_cmpR (op_eqD (hu1 hr)) snd_eq (tr_call via_ref (ok__law_take G.toEnvC) (hr.mono (by decide)) rfl G.g__law_take G.F__law_take.kp G.b__law_take takes0 (tr_cons (tr_var 2) (tr_cons tr_int tr_nil))) tr_int (by rfl)))) (fun _ _ _ _ _ => (tr_var 17))) tr_nil))))
    (ts_cons (ts_par2 8 9 rfl sc_law.nd rfl rfl (by decide) rfl rfl (tr_cons (tr_callTy call_list_of (snd_list false) rfl G.z_list PyProof.Rows.boot_list (tr_cons (tr_var 7) tr_nil)) (tr_cons (tr_callTy call_list_of (snd_list false) rfl G.z_list PyProof.Rows.boot_list (tr_cons (tr_var 3) tr_nil)) tr_nil)) (by rfl))
    (ts_cons (ts_set 10 sc_law.nd rfl (by first | exact Or.inl rfl | exact Or.inr rfl) (tr_callK ["order", "lot", "near"] [0, 1, 2] via_pure (ok_first_marks G.toEnvC) (hr.mono (by decide)) rfl G.g_first_marks G.F_first_marks.kp G.bk_first_marks_012 (takes_of rfl rfl rfl rfl) rfl (tk_cons (tr_var 9) (tk_cons (tr_var 8) (tk_cons (tr_var 4) tk_nil)))))
    (ts_cons (ts_if (PW.pt (tt_or (tt_cmpR (op_neD (hu1 hr)) snd_ne (tr_var 10) (tr_call via_pure (ok__law_kept G.toEnvC) (hr.mono (by decide)) rfl G.g__law_kept G.F__law_kept.kp G.b__law_kept (takes_of rfl rfl rfl rfl) (tr_cons (tr_var 3) (tr_cons (tr_var 7) (tr_cons (tr_var 4) tr_nil)))) (by rfl)) (tt_or (tt_cmpR (op_neD (hu1 hr)) snd_ne (tr_var 8) (tr_var 7) (by rfl)) (tt_or1 (tt_cmpR (op_neD (hu1 hr)) snd_ne (tr_var 9) (tr_var 3) (by rfl)))))) (ts_one (ts_ret tr_bl)) ts_nil)
    (ts_one (ts_expr (tr_bml rfl PySem.F.slot_list_append PySem.F.type_list_append mt_append snd_append (tr_var 5) (tr_cons (tr_tupG (tr_cons (tr_var 7) (tr_cons (tr_var 10) tr_nil))) tr_nil)))))))))
    (ts_cons (ts_for (vs := [7, 10]) (passes_of rfl) rfl (ti_of rfl (tr_var 5)) (tg_tup 2 rfl rfl (tgs_cons (tg_name 7 sc_law.nd rfl (by first | exact Or.inl rfl | exact Or.inr rfl)) (tgs_cons (tg_name 10 sc_law.nd rfl (by first | exact Or.inl rfl | exact Or.inr rfl)) tgs_nil))) (ts_one (ts_for (vs := [11, 12]) (passes_of rfl) rfl (ti_of rfl (tr_var 5)) (tg_tup 2 rfl rfl (tgs_cons (tg_name 11 sc_law.nd rfl (by first | exact Or.inl rfl | exact Or.inr rfl)) (tgs_cons (tg_name 12 sc_law.nd rfl (by first | exact Or.inl rfl | exact Or.inr rfl)) tgs_nil))) (ts_one (ts_if (PW.pt (tt_and (tt_cmpR op_leU snd_le (tr_call via_pure (ok__law_apart G.toEnvC) (hr.mono (by decide)) rfl G.g__law_apart G.F__law_apart.kp G.b__law_apart (takes_of rfl rfl rfl rfl) (tr_cons (tr_var 7) (tr_cons (tr_var 11) tr_nil))) (tr_var 4) (by rfl)) (tt_and1 (tt_not (tt_tru rfl (tr_call via_pure (ok__law_common G.toEnvC) (hr.mono (by decide)) rfl G.g__law_common G.F__law_common.kp G.b__law_common (takes_of rfl rfl rfl rfl) (tr_cons (tr_var 10) (tr_cons (tr_var 12) tr_nil)))))))) (ts_one (ts_ret tr_bl)) ts_nil)))))
    (ts_cons (ts_par2 13 14 rfl sc_law.nd rfl rfl (by decide) rfl rfl (tr_cons (tr_lst true tr_nil) (tr_cons tr_bl tr_nil)) (by rfl))
    (ts_cons (ts_for (vs := [15]) (passes_of rfl) rfl (ti_of rfl (tr_call via_ref (ok__law_mixed G.toEnvC) (hr.mono (by decide)) rfl G.g__law_mixed G.F__law_mixed.kp G.b__law_mixed (takes_of rfl rfl rfl rfl) (tr_cons (tr_var 2) (tr_cons (tr_call via_pure (ok__law_parts G.toEnvC) (hr.mono (by decide)) rfl G.g__law_parts G.F__law_parts.kp G.b__law_parts (takes_of rfl rfl rfl rfl) (tr_cons (tr_sl01 false rfl (tr_var 3) (tr_op op_addU (snd_add false) tr_int (tr_call via_ref (ok__law_take G.toEnvC) (hr.mono (by decide)) rfl G.g__law_take G.F__law_take.kp G.b__law_take (takes_of rfl rfl rfl rfl) (tr_cons (tr_var 2) (tr_cons tr_int tr_nil))))) tr_nil)) tr_nil)))) (tg_name 15 sc_law.nd rfl (by first | exact Or.inl rfl | exact Or.inr rfl)) (ts_cons (ts_setLc false 10 [("mark", 17)] rfl sc_law.nd rfl rfl (sw_true rfl rfl rfl (by kernel_rfl)) (ti_of rfl (tr_call via_pure (ok__law_kept G.toEnvC) (hr.mono (by decide)) rfl G.g__law_kept G.F__law_kept.kp G.b__law_kept (takes_of rfl rfl rfl rfl) (tr_cons (tr_var 3) (tr_cons (tr_var 15) (tr_cons (tr_var 4) tr_nil))))) (blk_mk (by kernel_rfl)) (fun _ _ _ _ _ => (tg_name 17 sc_law.nd rfl (by first | exact Or.inl rfl | exact Or.inr rfl))) (fun _ _ _ _ _ => (tts_one (tt_cmpR op_notN snd_notN (tr_var 17) tr_non (by rfl)))) (fun _ _ _ _ _ => (tr_var 17)))
    (ts_cons (ts_if (tt_cmpR (op_eqD (hu1 hr)) snd_eq (tr_call via_ref (ok__law_take G.toEnvC) (hr.mono (by decide)) rfl G.g__law_take G.F__law_take.kp G.b__law_take (takes_of rfl rfl rfl rfl) (tr_cons (tr_var 2) (tr_cons tr_int tr_nil))) tr_int (by rfl)) (ts_one (ts_setLc false 10 [("mark", 17)] rfl sc_law.nd rfl rfl (sw_true rfl rfl rfl (by kernel_rfl)) (ti_of rfl (tr_var 15)) (blk_mk (by kernel_rfl)) (fun _ _ _ _ _ => (tg_name 17 sc_law.nd rfl (by first | exact Or.inl rfl | exact Or.inr rfl))) (fun _ _ _ _ _ => (tts_one (tt_cmpR (op_eqD (hu1 hr)) snd_eq (tr_call via_ref (ok__law_take G.toEnvC) (hr.mono (by decide)) rfl G.g__law_take G.F__law_take.kp G.b__law_take takes0 (tr_cons (tr_var 2) (tr_cons tr_int tr_nil))) tr_int (by rfl)))) (fun _ _ _ _ _ => (tr_var 17)))) ts_nil)
    (ts_one (ts_if (tt_cmpR op_gtU snd_gt (tr_call via_ref (ok__law_take G.toEnvC) (hr.mono (by decide)) rfl G.g__law_take G.F__law_take.kp G.b__law_take (takes_of rfl rfl rfl rfl) (tr_cons (tr_var 2) (tr_cons tr_int tr_nil))) tr_int (by rfl)) (ts_one (ts_expr (tr_bml rfl PySem.F.slot_list_append PySem.F.type_list_append mt_append snd_append (tr_var 13) (tr_cons (tr_tupG (tr_cons (tr_call via_ref (ok__law_mixed G.toEnvC) (hr.mono (by decide)) rfl G.g__law_mixed G.F__law_mixed.kp G.b__law_mixed (takes_of rfl rfl rfl rfl) (tr_cons (tr_var 2) (tr_cons (tr_var 15) tr_nil))) (tr_cons (tr_callTy call_tuple_of snd_tuple rfl G.z_tuple PyProof.Rows.boot_tuple (tr_cons (tr_call via_ref (ok__law_mixed G.toEnvC) (hr.mono (by decide)) rfl G.g__law_mixed G.F__law_mixed.kp G.b__law_mixed (takes_of rfl rfl rfl rfl) (tr_cons (tr_var 2) (tr_cons (tr_var 10) tr_nil))) tr_nil)) tr_nil))) tr_nil)))) (ts_one (ts_set 14 sc_law.nd rfl (by first | exact Or.inl rfl | exact Or.inr rfl) tr_bl)))))))
    (ts_cons (ts_set 13 sc_law.nd rfl (by first | exact Or.inl rfl | exact Or.inr rfl) (tr_op op_addU (snd_add true) (tr_var 13) (tr_lst false (tr_cons (tr_tup (tr_cons (tr_tup (tr_cons tr_int tr_nil)) (tr_cons (tr_tup (tr_cons tr_int tr_nil)) tr_nil))) tr_nil))))
    (ts_cons (ts_set 16 sc_law.nd rfl (by first | exact Or.inl rfl | exact Or.inr rfl) (tr_callK ["rows", "near"] [0, 1] via_pure (ok_keeping_paper G.toEnvC) (hr.mono (by decide)) rfl G.g_keeping_paper G.F_keeping_paper.kp G.bk_keeping_paper_01 (takes_of rfl rfl rfl rfl) rfl (tk_cons (tr_lc false [("row", 9)] rfl sc_law.nd (ti_of rfl (tr_var 13)) (blk_mk (by kernel_rfl)) (fun _ _ _ _ _ => (tg_name 9 sc_law.nd rfl (by first | exact Or.inl rfl | exact Or.inr rfl))) (fun _ _ _ _ _ => tts_nil) (fun _ _ _ _ _ => (tr_callTy call_list_of (snd_list false) rfl G.z_list PyProof.Rows.boot_list (tr_cons (tr_var 9) tr_nil)))) (tk_cons (tr_var 4) tk_nil))))
    (ts_cons (ts_if (tt_cmpR (op_neD (hu1 hr)) snd_ne (tr_var 16) (tr_call via_pure (ok__law_missed G.toEnvC) (hr.mono (by decide)) rfl G.g__law_missed G.F__law_missed.kp G.b__law_missed (takes_of rfl rfl rfl rfl) (tr_cons (tr_var 13) (tr_cons (tr_var 4) tr_nil))) (by rfl)) (ts_one (ts_ret tr_bl)) ts_nil)
    (ts_cons (ts_if (PW.pt (tt_and (tt_cmpR (op_eqD (hu1 hr)) snd_eq (tr_var 16) (tr_tup (tr_cons tr_str tr_nil)) (by rfl)) (tt_and (tt_tru rfl (tr_var 14)) (tt_and1 (tt_cmpR (op_neD (hu1 hr)) snd_ne (tr_lc false [("lot", 7), ("kept", 10)] rfl sc_law.nd (ti_of rfl (tr_var 13)) (blk_mk (by kernel_rfl)) (fun _ _ _ _ _ => (tg_tup 2 rfl rfl (tgs_cons (tg_name 7 sc_law.nd rfl (by first | exact Or.inl rfl | exact Or.inr rfl)) (tgs_cons (tg_name 10 sc_law.nd rfl (by first | exact Or.inl rfl | exact Or.inr rfl)) tgs_nil)))) (fun _ _ _ _ _ => (tts_one (tt_cmpR op_ltU snd_lt (tr_callB call_len snd_len rfl G.z_len boot_len (tr_cons (tr_var 10) tr_nil)) (tr_callB (call_min2 rfl) snd_min2 rfl G.z_min boot_min (tr_cons (tr_callB call_len snd_len rfl G.z_len boot_len (tr_cons (tr_var 7) tr_nil)) (tr_cons (tr_op op_addU (snd_add false) (tr_var 4) tr_int) tr_nil))) (by rfl)))) (fun _ _ _ _ _ => (tr_var 7))) (tr_lst false tr_nil) (by rfl)))))) (ts_one (ts_ret tr_bl)) ts_nil)
    (ts_one (ts_if (tt_not (tt_tru rfl (tr_call via_ref (ok__law_errors G) (hr.mono (by decide)) rfl G.g__law_errors G.F__law_errors.kp G.b__law_errors (takes_of rfl rfl rfl rfl) (tr_cons (tr_var 2) (tr_cons (tr_var 3) (tr_cons (tr_var 13) tr_nil)))))) (ts_one (ts_ret tr_bl)) ts_nil)))))))))))))))
    (ts_one (ts_ret tr_bl)))))
end
end Lw
namespace Lw
open PySem PySem.Spec PyProof.Rows L2 Pev
theorem es_0 : ErrSt si_0 "InvalidLot.__init__" "at" where
  body := ⟨"no such lot", [⟨7, 8, 7, 13⟩, ⟨7, 8, 7, 15⟩, ⟨7, 8, 7, 24⟩, ⟨7, 25, 7, 38⟩, ⟨7, 8, 7, 39⟩, ⟨7, 8, 7, 39⟩, ⟨8, 8, 8, 12⟩, ⟨8, 8, 8, 15⟩, ⟨8, 18, 8, 20⟩, ⟨8, 8, 8, 20⟩], rfl, fun _ => ⟨_, rfl⟩⟩
  kind := rfl
  co := rfl
  gen := rfl
  nocell := by decide +kernel
  slf := by decide +kernel
  sup := by decide +kernel
  cls := by decide +kernel
  hd := ⟨_, rfl, rfl⟩
  bind := fun _ _ _ _ _ _ _ _ _ => rfl
  bindK := fun _ _ _ _ _ _ _ _ _ => rfl
  fld := by decide +kernel
  ne := by decide +kernel
  nd := by decide +kernel
theorem es_1 : ErrSt si_1 "InvalidSize.__init__" "word" where
  body := ⟨"no such size", [⟨12, 8, 12, 13⟩, ⟨12, 8, 12, 15⟩, ⟨12, 8, 12, 24⟩, ⟨12, 25, 12, 39⟩, ⟨12, 8, 12, 40⟩, ⟨12, 8, 12, 40⟩, ⟨13, 8, 13, 12⟩, ⟨13, 8, 13, 17⟩, ⟨13, 20, 13, 24⟩, ⟨13, 8, 13, 24⟩], rfl, fun _ => ⟨_, rfl⟩⟩
  kind := rfl
  co := rfl
  gen := rfl
  nocell := by decide +kernel
  slf := by decide +kernel
  sup := by decide +kernel
  cls := by decide +kernel
  hd := ⟨_, rfl, rfl⟩
  bind := fun _ _ _ _ _ _ _ _ _ => rfl
  bindK := fun _ _ _ _ _ _ _ _ _ => rfl
  fld := by decide +kernel
  ne := by decide +kernel
  nd := by decide +kernel
theorem facts {w : World} {K : PySem.W.Frag} {h : Heap} {mg : Str → Option Value} {a : Addr} (X : K.In h) (G : h.Ns mainGlobals mg) (hfa : mg ("law" : Str) = some (.ref a)) (c : SaysP PySem.Challenge.pw_whoiswho_k18_whole_marks_kept_of_lots faL tpL fnL esL tsL w K) (lc : LamsAt h K lmL) :
    ∃ (fd : FuncData) (cs : List (Addr × Addr)) (tabs : List (Addr × Str)), (∀ p ∈ cs, PySem.W.CodeHd h p.1 p.2) ∧ (∀ p ∈ cs, h.get? p.2 = some { cls := .none, data := .fields #[] }) ∧ (∀ p ∈ cs, K.lookup p.2 = none) ∧ (∀ t ∈ tabs, t.1 ∈ cs.map (·.2)) ∧ (∀ (s : Shared) (v : Value), BindsTo s fd ⟨[v], []⟩ [("script", v)]) ∧ ∀ base : Heap, K.In base → base.Ns mainGlobals mg → (∀ p ∈ cs, LamX.TabB base mg p.1 p.2) → FnG PySem.Challenge.pw_whoiswho_k18_whole_marks_kept_of_lots w K mg base 11 a fd ["script"] (spLaw K tabs) := by
  have e := hfa.symm.trans (He.glo_ok X G (c.fact 23 (f := .glo "law") rfl))
  cases e
  obtain ⟨fd_is_integer, F_is_integer⟩ := c.fun_ 0 (x := "is_integer") (st := s_is_integer) rfl
  obtain ⟨fd_need_many, F0_need_many⟩ := c.def_ 1 (d := df_need_many) rfl
  have F_need_many : FunD K "need_many" "need_many" (defArgs s_need_many) (defBody s_need_many) (defScope s_need_many) [.int 0] [] (He.ga K "need_many") fd_need_many := F0_need_many
  obtain ⟨fd_is_number, F_is_number⟩ := c.fun_ 2 (x := "is_number") (st := s_is_number) rfl
  obtain ⟨fd_is_sequence, F_is_sequence⟩ := c.fun_ 3 (x := "is_sequence") (st := s_is_sequence) rfl
  obtain ⟨fd_are_unlike, F_are_unlike⟩ := c.fun_ 4 (x := "are_unlike") (st := s_are_unlike) rfl
  obtain ⟨fd_need_marks, F_need_marks⟩ := c.fun_ 5 (x := "need_marks") (st := s_need_marks) rfl
  obtain ⟨fd_kept_of, F_kept_of⟩ := c.fun_ 6 (x := "kept_of") (st := s_kept_of) rfl
  obtain ⟨fd_first_marks, F_first_marks⟩ := c.fun_ 7 (x := "first_marks") (st := s_first_marks) rfl
  obtain ⟨fd_lots_apart, F_lots_apart⟩ := c.fun_ 8 (x := "lots_apart") (st := s_lots_apart) rfl
  obtain ⟨fd_is_pair, F_is_pair⟩ := c.fun_ 9 (x := "is_pair") (st := s_is_pair) rfl
  obtain ⟨fd_need_kept_rows, F_need_kept_rows⟩ := c.fun_ 10 (x := "need_kept_rows") (st := s_need_kept_rows) rfl
  obtain ⟨fd_keeping_paper, F_keeping_paper⟩ := c.fun_ 11 (x := "keeping_paper") (st := s_keeping_paper) rfl
  obtain ⟨fd__law_box, F__law_box⟩ := c.fun_ 12 (x := "_law_box") (st := s__law_box) rfl
  obtain ⟨fd__law_take, F__law_take⟩ := c.fun_ 13 (x := "_law_take") (st := s__law_take) rfl
  obtain ⟨fd__law_mixed, F__law_mixed⟩ := c.fun_ 14 (x := "_law_mixed") (st := s__law_mixed) rfl
  obtain ⟨fd__law_apart, F__law_apart⟩ := c.fun_ 15 (x := "_law_apart") (st := s__law_apart) rfl
  obtain ⟨fd__law_common, F__law_common⟩ := c.fun_ 16 (x := "_law_common") (st := s__law_common) rfl
  obtain ⟨fd__law_kept, F__law_kept⟩ := c.fun_ 17 (x := "_law_kept") (st := s__law_kept) rfl
  obtain ⟨fd__law_parts, F__law_parts⟩ := c.fun_ 18 (x := "_law_parts") (st := s__law_parts) rfl
  obtain ⟨fd__law_missed, F__law_missed⟩ := c.fun_ 19 (x := "_law_missed") (st := s__law_missed) rfl
  obtain ⟨fd__law_pick, F__law_pick⟩ := c.fun_ 20 (x := "_law_pick") (st := s__law_pick) rfl
  obtain ⟨fd__law_refused, F__law_refused⟩ := c.fun_ 21 (x := "_law_refused") (st := s__law_refused) rfl
  obtain ⟨fd__law_errors, F__law_errors⟩ := c.fun_ 22 (x := "_law_errors") (st := s__law_errors) rfl
  obtain ⟨fd_law, F_law⟩ := c.fun_ 23 (x := "law") (st := s_law) rfl
  obtain ⟨ds_need_many_0, dv_need_many_0, bd_need_many_0⟩ := F_need_many.binds1 (ps := ["value", "word", "least"]) 3 1 (by simp) rfl fun _ _ _ _ _ _ _ us its hu hi => match us, its, hu, hi with | [_, _, _], [_], _, _ => ⟨_, rfl, rfl⟩
  cases dv_need_many_0
  obtain ⟨ds_need_many_1, dv_need_many_1, bd_need_many_1⟩ := F_need_many.binds1 (ps := ["value", "word", "least"]) 2 0 (by simp) rfl fun _ _ _ _ _ _ _ us its hu hi => match us, its, hu, hi with | [_, _], [_], _, _ => ⟨_, rfl, rfl⟩
  obtain ⟨x0, x1, x2, x3, x4, x5, x6, x7⟩ := c.ext rfl
  have su := He.free_ok X G (c.fact 38 (f := .free "super") rfl)
  have tp : (PySem.Challenge.pw_whoiswho_k18_whole_marks_kept_of_lots.main.scope.names.lookup ("super" : Str)).isSome = false := by decide +kernel
  have y0 := x7 ed_0 (List.mem_of_getElem? (i := 0) rfl)
  have y1 := x7 ed_1 (List.mem_of_getElem? (i := 1) rfl)
  obtain ⟨cs, q1, q2, q3, nd, q5⟩ := lc.all
  refine ⟨fd_law, cs, tabsOf cs lmL, q1, q2, q3, tabsOf_in, fun s v => by
    obtain ⟨_, _, _, _, _, _, _, _, _, z, _⟩ := F_law.ex
    subst z
    exact .of_eq rfl, fun base _ _ tB => ?_⟩
  obtain ⟨p__law_errors, i__law_errors, k__law_errors⟩ := q5 0 "_law_errors" rfl
  let E : Env PySem.Challenge.pw_whoiswho_k18_whole_marks_kept_of_lots w mg ({ tbOf K (esL.map (clA K)) ["at", "word"] with tabs := tabsOf cs lmL }) base := {
    cu := rfl
    le__law_errors := _
    lP__law_errors := _
    lc__law_errors := codeOf_fun F__law_errors k__law_errors
    lB__law_errors := tB _ (List.mem_of_getElem? i__law_errors)
    lm__law_errors := tabsOf_at2 (i := 0) rfl i__law_errors (by rfl)
    lo__law_errors := tabsOf_one2 nd (i := 0) rfl i__law_errors (by rfl)
    z_abs := He.free_ok X G (c.fact 24 (f := .free "abs") rfl)
    z_all := He.free_ok X G (c.fact 25 (f := .free "all") rfl)
    z_any := He.free_ok X G (c.fact 26 (f := .free "any") rfl)
    z_bool := He.free_ok X G (c.fact 27 (f := .free "bool") rfl)
    z_enumerate := He.free_ok X G (c.fact 28 (f := .free "enumerate") rfl)
    z_int := He.free_ok X G (c.fact 29 (f := .free "int") rfl)
    z_isinstance := He.free_ok X G (c.fact 30 (f := .free "isinstance") rfl)
    z_len := He.free_ok X G (c.fact 31 (f := .free "len") rfl)
    z_list := He.free_ok X G (c.fact 32 (f := .free "list") rfl)
    z_max := He.free_ok X G (c.fact 33 (f := .free "max") rfl)
    z_min := He.free_ok X G (c.fact 34 (f := .free "min") rfl)
    z_range := He.free_ok X G (c.fact 35 (f := .free "range") rfl)
    z_sorted := He.free_ok X G (c.fact 36 (f := .free "sorted") rfl)
    z_tuple := He.free_ok X G (c.fact 37 (f := .free "tuple") rfl)
    a_is_integer := _
    fd_is_integer := _
    F_is_integer := F_is_integer
    g_is_integer := He.glo_ok X G (c.fact 0 (f := .glo "is_integer") rfl)
    b_is_integer := F_is_integer.binds (ps := ["value"]) fun _ _ _ _ _ _ us hl => match us, hl with | [_], _ => rfl
    a_need_many := _
    fd_need_many := _
    F_need_many := F_need_many
    g_need_many := He.glo_ok X G (c.fact 1 (f := .glo "need_many") rfl)
    b_need_many := bd_need_many_0
    a_is_number := _
    fd_is_number := _
    F_is_number := F_is_number
    g_is_number := He.glo_ok X G (c.fact 2 (f := .glo "is_number") rfl)
    b_is_number := F_is_number.binds (ps := ["value"]) fun _ _ _ _ _ _ us hl => match us, hl with | [_], _ => rfl
    a_is_sequence := _
    fd_is_sequence := _
    F_is_sequence := F_is_sequence
    g_is_sequence := He.glo_ok X G (c.fact 3 (f := .glo "is_sequence") rfl)
    b_is_sequence := F_is_sequence.binds (ps := ["value"]) fun _ _ _ _ _ _ us hl => match us, hl with | [_], _ => rfl
    a_are_unlike := _
    fd_are_unlike := _
    F_are_unlike := F_are_unlike
    g_are_unlike := He.glo_ok X G (c.fact 4 (f := .glo "are_unlike") rfl)
    b_are_unlike := F_are_unlike.binds (ps := ["values"]) fun _ _ _ _ _ _ us hl => match us, hl with | [_], _ => rfl
    a_need_marks := _
    fd_need_marks := _
    F_need_marks := F_need_marks
    g_need_marks := He.glo_ok X G (c.fact 5 (f := .glo "need_marks") rfl)
    b_need_marks := F_need_marks.binds (ps := ["value", "at"]) fun _ _ _ _ _ _ us hl => match us, hl with | [_, _], _ => rfl
    a_kept_of := _
    fd_kept_of := _
    F_kept_of := F_kept_of
    g_kept_of := He.glo_ok X G (c.fact 6 (f := .glo "kept_of") rfl)
    b_kept_of := F_kept_of.binds (ps := ["row", "near"]) fun _ _ _ _ _ _ us hl => match us, hl with | [_, _], _ => rfl
    a_first_marks := _
    fd_first_marks := _
    F_first_marks := F_first_marks
    g_first_marks := He.glo_ok X G (c.fact 7 (f := .glo "first_marks") rfl)
    b_first_marks := F_first_marks.binds (ps := ["order", "lot", "near"]) fun _ _ _ _ _ _ us hl => match us, hl with | [_, _, _], _ => rfl
    a_lots_apart := _
    fd_lots_apart := _
    F_lots_apart := F_lots_apart
    g_lots_apart := He.glo_ok X G (c.fact 8 (f := .glo "lots_apart") rfl)
    b_lots_apart := F_lots_apart.binds (ps := ["one", "other"]) fun _ _ _ _ _ _ us hl => match us, hl with | [_, _], _ => rfl
    a_is_pair := _
    fd_is_pair := _
    F_is_pair := F_is_pair
    g_is_pair := He.glo_ok X G (c.fact 9 (f := .glo "is_pair") rfl)
    b_is_pair := F_is_pair.binds (ps := ["value"]) fun _ _ _ _ _ _ us hl => match us, hl with | [_], _ => rfl
    a_need_kept_rows := _
    fd_need_kept_rows := _
    F_need_kept_rows := F_need_kept_rows
    g_need_kept_rows := He.glo_ok X G (c.fact 10 (f := .glo "need_kept_rows") rfl)
    b_need_kept_rows := F_need_kept_rows.binds (ps := ["value"]) fun _ _ _ _ _ _ us hl => match us, hl with | [_], _ => rfl
    a_keeping_paper := _
    fd_keeping_paper := _
    F_keeping_paper := F_keeping_paper
    g_keeping_paper := He.glo_ok X G (c.fact 11 (f := .glo "keeping_paper") rfl)
    b_keeping_paper := F_keeping_paper.binds (ps := ["rows", "near"]) fun _ _ _ _ _ _ us hl => match us, hl with | [_, _], _ => rfl
    a__law_box := _
    fd__law_box := _
    F__law_box := F__law_box
    g__law_box := He.glo_ok X G (c.fact 12 (f := .glo "_law_box") rfl)
    b__law_box := F__law_box.binds (ps := ["script", "k"]) fun _ _ _ _ _ _ us hl => match us, hl with | [_, _], _ => rfl
    a__law_take := _
    fd__law_take := _
    F__law_take := F__law_take
    g__law_take := He.glo_ok X G (c.fact 13 (f := .glo "_law_take") rfl)
    b__law_take := F__law_take.binds (ps := ["box", "many"]) fun _ _ _ _ _ _ us hl => match us, hl with | [_, _], _ => rfl
    a__law_mixed := _
    fd__law_mixed := _
    F__law_mixed := F__law_mixed
    g__law_mixed := He.glo_ok X G (c.fact 14 (f := .glo "_law_mixed") rfl)
    b__law_mixed := F__law_mixed.binds (ps := ["box", "some"]) fun _ _ _ _ _ _ us hl => match us, hl with | [_, _], _ => rfl
    a__law_apart := _
    fd__law_apart := _
    F__law_apart := F__law_apart
    g__law_apart := He.glo_ok X G (c.fact 15 (f := .glo "_law_apart") rfl)
    b__law_apart := F__law_apart.binds (ps := ["one", "other"]) fun _ _ _ _ _ _ us hl => match us, hl with | [_, _], _ => rfl
    a__law_common := _
    fd__law_common := _
    F__law_common := F__law_common
    g__law_common := He.glo_ok X G (c.fact 16 (f := .glo "_law_common") rfl)
    b__law_common := F__law_common.binds (ps := ["one", "other"]) fun _ _ _ _ _ _ us hl => match us, hl with | [_, _], _ => rfl
    a__law_kept := _
    fd__law_kept := _
    F__law_kept := F__law_kept
    g__law_kept := He.glo_ok X G (c.fact 17 (f := .glo "_law_kept") rfl)
    b__law_kept := F__law_kept.binds (ps := ["order", "lot", "near"]) fun _ _ _ _ _ _ us hl => match us, hl with | [_, _, _], _ => rfl
    a__law_parts := _
    fd__law_parts := _
    F__law_parts := F__law_parts
    g__law_parts := He.glo_ok X G (c.fact 18 (f := .glo "_law_parts") rfl)
    b__law_parts := F__law_parts.binds (ps := ["marks"]) fun _ _ _ _ _ _ us hl => match us, hl with | [_], _ => rfl
    a__law_missed := _
    fd__law_missed := _
    F__law_missed := F__law_missed
    g__law_missed := He.glo_ok X G (c.fact 19 (f := .glo "_law_missed") rfl)
    b__law_missed := F__law_missed.binds (ps := ["rows", "near"]) fun _ _ _ _ _ _ us hl => match us, hl with | [_, _], _ => rfl
    a__law_pick := _
    fd__law_pick := _
    F__law_pick := F__law_pick
    g__law_pick := He.glo_ok X G (c.fact 20 (f := .glo "_law_pick") rfl)
    b__law_pick := F__law_pick.binds (ps := ["box", "some"]) fun _ _ _ _ _ _ us hl => match us, hl with | [_, _], _ => rfl
    a__law_refused := _
    fd__law_refused := _
    F__law_refused := F__law_refused
    g__law_refused := He.glo_ok X G (c.fact 21 (f := .glo "_law_refused") rfl)
    b__law_refused := F__law_refused.binds (ps := ["work"]) fun _ _ _ _ _ _ us hl => match us, hl with | [_], _ => rfl
    a__law_errors := _
    fd__law_errors := _
    F__law_errors := F__law_errors
    g__law_errors := He.glo_ok X G (c.fact 22 (f := .glo "_law_errors") rfl)
    b__law_errors := F__law_errors.binds (ps := ["box", "order", "rows"]) fun _ _ _ _ _ _ us hl => match us, hl with | [_, _, _], _ => rfl
    a_law := _
    fd_law := _
    F_law := F_law
    g_law := He.glo_ok X G (c.fact 23 (f := .glo "law") rfl)
    b_law := F_law.binds (ps := ["script"]) fun _ _ _ _ _ _ us hl => match us, hl with | [_], _ => rfl
    us_need_many_1 := ds_need_many_1
    bd_need_many_1 := bd_need_many_1
    dv_need_many_1 := dv_need_many_1
    bk_first_marks_012 := Pev.Fun.bindsK F_first_marks fun _ _ _ _ _ _ us hl => match us, hl with | [_, _, _], _ => rfl
    bk_keeping_paper_01 := Pev.Fun.bindsK F_keeping_paper fun _ _ _ _ _ _ us hl => match us, hl with | [_, _], _ => rfl
    eB := He.ga K "WhoError"
    ie := fun k => (esL.map (inA K)).getD k 0
    er := ⟨err_of (e := ed_0) es_0 rfl (c.val 0) y0 x0 tp mg su, err_of (e := ed_1) es_1 rfl (c.val 1) y1 x0 tp mg su, trivial⟩
    fl := rfl
    ge := ⟨PySem.W.mg_of X G (ErrD.glo y0), PySem.W.mg_of X G (ErrD.glo y1), trivial⟩
    nd := getD_nd x5
    nB := getD_ne x6
    ln := rfl
    lx := fun _ _ _ => trivial
  }
  exact law_fn (T := { tbOf K (esL.map (clA K)) ["at", "word"] with tabs := tabsOf cs lmL }) (ok_law E) law_true
end Lw
open PySem PySem.W PySem.Calls PyProof.Rows
set_option maxHeartbeats 0 in
theorem PySem.Challenge.cw_whoiswho_k18_whole_marks_kept_of_lots_holds : PySem.Challenge.rw_whoiswho_k18_whole_marks_kept_of_lots.Holds := by
  w_on; o_law
  refine HandSHeadRun.head_any (r := OpenLaw.row PySem.Challenge.rw_whoiswho_k18_whole_marks_kept_of_lots) (q := view (OpenLaw.row PySem.Challenge.rw_whoiswho_k18_whole_marks_kept_of_lots).prog [30]) (H := Lw.hkL) (ob := Lw.obL) (M := 40000) (loose := Lw.lsL) (d := HandSHeadRun.topDef (OpenLaw.row PySem.Challenge.rw_whoiswho_k18_whole_marks_kept_of_lots).prog 30) (kwd := []) Lw.obL_eq
    (by kernel_rfl) (fun s => by kernel_rfl) Lw.runL (by kernel_rfl) (by kernel_rfl) (by kernel_rfl) (by rfl) (by first | assumption | decide +kernel) (by decide +kernel) ⟨rfl, rfl, rfl, rfl, rfl, by decide +kernel⟩ ?hw ?hc
  case hw => w_witness2
  case hc =>
    refine Pev.walk_ofL (l := PySem.Challenge.rw_whoiswho_k18_whole_marks_kept_of_lots) (k := 11) (x := "script") rfl (by kernel_rfl) ⟨rfl, by decide, by decide⟩ ?F
    intro w mg fa h Y G hmg0
    obtain ⟨K, KX, c, lc⟩ := Y
    have hmg : mg ("law" : PySem.Str) = some (.ref fa) := by
      have e : (HandSHeadRun.topDef (OpenLaw.row PySem.Challenge.rw_whoiswho_k18_whole_marks_kept_of_lots).prog 30).name = ("law" : PySem.Str) := by kernel_rfl
      rw [← e]
      exact hmg0
    obtain ⟨fd, cs, tabs, u⟩ := Lw.facts (w := w) KX G hmg c lc
    exact ⟨K, fd, cs, tabs, KX, u⟩
