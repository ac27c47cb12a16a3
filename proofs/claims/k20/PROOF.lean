import PyProof.Rows.All
import Wide.All
import OpenK.AllK
import Wide.FinOn
import HandS.Head2
import HandS.HeadHook2
import HandS.HeadHook3
import HandS.Words
import KE.KSuper
import KE.KNest
import HandS.ForMost
import HandS.ForExc
import HandS.Deep
import HandS.IsInst
import HandS.Lambda
import HandS.TupAny
import HandS.Wide
import HandS.Style
import HandS.Flow
import HandS.SortInts
import HandS.Walk
import HandS.WordsExc
import HandS.CallSlots
import HandS.ExcSuper
import HandS.ExcField
import KE.GoesEnum
import HandS.Ends
import HandS.Conv
import HandS.Text
import HandS.RaiseMore
import HandS.FltList
import PyProof.ReprRoads
import PyProof.CallStr
import PyProof.CallFns
import HandS.HeadEnd
import HandS.Defaults
import KE.KTupSum
import PyProof.StrBlock2
import HandS.TupMul
import KE.DataCmp
import KE.SortData
import KE.SortKeyHeap
import KE.DataFind
import KE.DataMinMax
import HandS.Zip
import HandS.More
import KE.KLam
import KE.KDictZip
import HandS.TryOnly
import HandS.ExcOwn
import PyProof.ListRange
import PyProof.ListNew
import PyProof.StrWalks
import PyProof.StrLawsIn
import PySem.Challenge.RW_whoiswho_k20_whole_looks_none_of_which_c
set_option Elab.async false
set_option linter.all false
set_option maxRecDepth 100000
set_option maxHeartbeats 8000000
/-! Pev: what a head is asked. -/
namespace Pev
open PySem PySem.Spec
open PyProof.Rows L2 He
/-- the first statement of a class -/
def initS : Stmt → Stmt
  | .ClassDef _ _ _ b _ _ _ _ _ _ _ => b.getD 0 (.Pass ⟨0, 0, 0, 0⟩)
  | s => s
/-- an own error: the module's name, its __init__, that one's qualified name, its field -/
structure ErrD where
  x : Str
  st : Stmt
  q : Str
  fld : Option Str
abbrev FnE : Type := Option (Str × Str × Arguments × FuncBody × Scope × Addr × Addr)
def clA (K : PySem.W.Frag) (e : ErrD) : Addr := ga K e.x
def inA (K : PySem.W.Frag) (e : ErrD) : Addr := ma K (ga K e.x) "__init__"
def fnE (K : PySem.W.Frag) (e : ErrD) : FnE := match K.lookup (inA K e) with
  | some ⟨_, _, .func fd, _⟩ => some (fd.name, fd.qualname, fd.params, fd.body, fd.scope, fd.globals, fd.builtins)
  | _ => none
def ErrD.val (e : ErrD) : FnE := some ("__init__", e.q, defArgs e.st, .stmts (defBody e.st), defScope e.st, mainGlobals, builtinsNs)
def clsB (K : PySem.W.Frag) (C B : Addr) : Bool := match K.lookup C with
  | some ⟨.type "type", _, .cls cd, sl⟩ => (match cd.mro, sl.toList with
    | [.ref C2, .ref B2, .type "Exception", .type "BaseException", .type "object"], [_, _, _, _, some (.builtin n), _] => decide (C2 = C) && (decide (B2 = B) && (decide (n = "Exception.__new__") && (cd.hasDict && !cd.hasDel)))
    | _, _ => false)
  | _ => false
def cellB (K : PySem.W.Frag) (P : Program) (C : Addr) (fd : FuncData) : Bool := match fd.defaults, fd.closure, fd.code with
  | .none, [(n, cc)], .ref cda => decide (n = ("__class__" : Str)) && ((match K.lookup cc with
    | some ⟨_, _, .cell (some (.ref C2)), _⟩ => decide (C2 = C)
    | _ => false) && (match K.lookup cda with
      | some ⟨_, _, .fields vs, _⟩ => (match (vs[2]? : Option Value) with
        | some (.str file _) => ((P.main.file : Str) == file)
        | _ => false)
      | _ => false))
  | _, _, _ => false
def fldB (K : PySem.W.Frag) (C : Addr) : Option Str → Bool
  | none => true
  | some f => eqO (PySem.W.findIn K (.ref C) "__setattr__") (some (some (.builtin "object.__setattr__"))) && (eqO (PySem.W.findIn K (.ref C) "__getattribute__") (some (some (.builtin "BaseException.__getattribute__"))) &&
    (eqO (PySem.W.findIn K (.ref C) "__getattr__") (some none) && (eqO (PySem.W.findIn K (.ref C) f) (some none) && PySem.W.hasDictIn K C)))
def excB (K : PySem.W.Frag) (C : Addr) : Bool := decide (PySem.W.subIn K (.ref C) (.type "BaseException") = some true) && decide (PySem.W.typeIn K (.ref C) = some (.type "type"))
def ErrD.ok (P : Program) (B : Addr) (K : PySem.W.Frag) (e : ErrD) : Bool :=
  eqO (PySem.W.nsIn K mainGlobals e.x) (some (some (.ref (clA K e)))) && (clsB K (clA K e) B && (eqO (PySem.W.findIn K (.ref (clA K e)) "__init__") (some (some (.ref (inA K e)))) && (decide (PySem.W.typeIn K (.ref (inA K e)) = some (.type "function")) &&
    (PySem.W.keepIn K (.ref (clA K e)) && (excB K (clA K e) && (eqO (PySem.W.ks_superIn K (clA K e) (clA K e) "__init__") (some (some (.builtin "Exception.__init__"))) && (fldB K (clA K e) e.fld &&
      (match K.lookup (inA K e) with
        | some ⟨_, _, .func fd, _⟩ => PySem.W.codeIn K fd.code e.q && cellB K P (clA K e) fd
        | _ => false))))))))
/-! ### the Hook -/
def asP (g : Addr → Option Obj) : Nat → List Addr
  | 0 => [mainGlobals, cStatics]
  | n + 1 => growD g (asP g n)
/-- a written dict: its name, its keys and values -/
abbrev TabP : Type := Str × List (Str × He.Dv)
abbrev AlP : Type := Bool × List FnW × List FnE × List (Option (List (Option (Str × Int))))
def extB (P : Program) (es : List ErrD) (K : PySem.W.Frag) : Bool := es.isEmpty || (eqO (PySem.W.nsIn K cStatics "thirdparty.any") (some none) && (eqO (PySem.W.nsIn K mainGlobals "WhoError") (some (some (.ref (ga K "WhoError")))) && (excB K (ga K "WhoError") && (PySem.W.isClsIn K (ga K "WhoError") &&
  (decide ((es.map (clA K)).Nodup) && (decide (ga K "WhoError" ∉ es.map (clA K)) && es.all fun e => e.ok P (ga K "WhoError") K))))))
def obsP (P : Program) (fa : List Fa) (tp : List (Str × List Dv)) (fn : List DefD) (es : List ErrD) (ts : List TabP) (K : PySem.W.Frag) : AlP := (((fa.all fun f => f.ok K) && (tp.all fun q => tupB K q.1 q.2) && ts.all fun t => valsB K (ga K t.1) t.2) && ((fn.all fun d => d.ok K) && extB P es K), fn.map fun d => fnW K d.at_, es.map (fnE K), ts.map fun t => dicW K (ga K t.1))
def valP (fn : List DefD) (es : List ErrD) (ts : List TabP) (w : World) : AlP := (true, fn.map DefD.val, es.map ErrD.val, ts.map fun t => some (keysIn w.params (t.2.map (·.1))))
def SaysP (P : Program) (fa : List Fa) (tp : List (Str × List Dv)) (fn : List DefD) (es : List ErrD) (ts : List TabP) (w : World) (K : PySem.W.Frag) : Prop := obsP P fa tp fn es ts K = valP fn es ts w
end Pev
/-! Pev: what a head is asked where defs make lambdas. -/
namespace Pev
open PySem PySem.Spec
open PyProof.Rows L2 He
/-- an empty table of code objects -/
def isTab0 : Obj → Bool
  | ⟨.none, none, .fields a, sl⟩ => a.toList.isEmpty && sl.toList.isEmpty
  | _ => false
def asL (g : Addr → Option Obj) (n : Nat) : List Addr := (asP g n).filter fun a => match g a with
  | some o => !isTab0 o
  | none => true
/-- the table that a code object names, where its fields are as they ought to be -/
def codeTab (c : Addr) : Obj → Option Addr
  | ⟨.type "code", _, .fields vs, _⟩ => (match (vs[11]? : Option Value), vs.getD 11 .none, vs.getD 18 .none, vs.getD 7 .none, vs.getD 9 .none, vs.getD 10 .none with
    | some (.ref P), .ref P2, .str _ _, .int _ _, .bool _, .int _ _ => if P = P2 ∧ c ≠ P then some P else none
    | _, _, _, _, _, _ => none)
  | _ => none
/-- the code object of the def x -/
def codeOf (K : PySem.W.Frag) (x : Str) : Option Addr := match K.lookup (ga K x) with
  | some ⟨_, _, .func fd, _⟩ => (match fd.code with
    | .ref c => some c
    | _ => none)
  | _ => none
/-- its table -/
def lamT (g : Addr → Option Obj) (K : PySem.W.Frag) (x : Str) : Option Addr := match codeOf K x with
  | some c => (match g c with
    | some o => codeTab c o
    | none => none)
  | none => none
def lamB (g : Addr → Option Obj) (K : PySem.W.Frag) (x : Str) : Bool := match lamT g K x with
  | some P => (K.lookup P).isNone && (match g P with
    | some t => isTab0 t
    | none => false)
  | none => false
def lamsB (g : Addr → Option Obj) (K : PySem.W.Frag) (lm : List Str) : Bool := lm.all (lamB g K) && decide ((lm.map (lamT g K)).Nodup)
/-- what is so then -/
structure LamAt (h : Heap) (K : PySem.W.Frag) (x : Str) (c P : Addr) : Prop where
  code : codeOf K x = some c
  hd : PySem.W.CodeHd h c P
  tab : h.get? P = some { cls := .none, data := .fields #[] }
  out : K.lookup P = none
def LamsAt (h : Heap) (K : PySem.W.Frag) (lm : List Str) : Prop := ∃ cs : List (Addr × Addr), cs.length = lm.length ∧ (∀ (i : Nat) (x : Str) (p : Addr × Addr), lm[i]? = some x → cs[i]? = some p → LamAt h K x p.1 p.2) ∧ (cs.map (·.2)).Nodup
theorem isTab0_ok {t : Obj} (h : isTab0 t = true) : t = { cls := .none, data := .fields #[] } := by
  unfold isTab0 at h
  split at h
  · rename_i a sl
    rw [Bool.and_eq_true] at h
    obtain ⟨a⟩ := a
    obtain ⟨sl⟩ := sl
    obtain ⟨h1, h2⟩ := h
    cases a with
    | nil =>
      cases sl with
      | nil => rfl
      | cons => cases h2
    | cons => cases h1
  · cases h
theorem codeTab_ok {h : Heap} {c P : Addr} {o : Obj} (e : h.get? c = some o) (q : codeTab c o = some P) : PySem.W.CodeHd h c P := by
  unfold codeTab at q
  split at q
  · rename_i od vs sl
    split at q
    · rename_i P1 P2 file tf flags tg inF text tt e1 e2 e3 e4 e5 e6
      split at q
      · rename_i z
        obtain ⟨rfl, ne⟩ := z
        cases q
        exact ⟨_, vs, file, tf, flags, tg, inF, text, tt, e, rfl, rfl, e1, e2, e3, e4, e5, e6, ne⟩
      · cases q
    · cases q
  · cases q
theorem lamB_ok {h : Heap} {K : PySem.W.Frag} {x : Str} (e : lamB h.get? K x = true) : ∃ c P, lamT h.get? K x = some P ∧ LamAt h K x c P := by
  unfold lamB at e
  split at e
  · rename_i P q
    rw [Bool.and_eq_true] at e
    obtain ⟨e1, e2⟩ := e
    split at e2
    · rename_i t ht
      have q2 := q
      unfold lamT at q
      split at q
      · rename_i c hc
        split at q
        · rename_i o ho
          exact ⟨c, P, q2, hc, codeTab_ok ho q, by rw [ht, isTab0_ok e2], Option.isNone_iff_eq_none.mp e1⟩
        · cases q
      · cases q
    · cases e2
  · cases e
theorem lams_ok {h : Heap} {K : PySem.W.Frag} {lm : List Str} (e : lamsB h.get? K lm = true) : LamsAt h K lm := by
  unfold lamsB at e
  rw [Bool.and_eq_true] at e
  obtain ⟨e1, e2⟩ := e
  have e2 := of_decide_eq_true e2
  have gen : ∀ lm : List Str, (∀ x ∈ lm, lamB h.get? K x = true) → ∃ cs : List (Addr × Addr), cs.length = lm.length ∧ (∀ (i : Nat) (x : Str) (p : Addr × Addr), lm[i]? = some x → cs[i]? = some p → LamAt h K x p.1 p.2) ∧ cs.map (fun p => some p.2) = lm.map (lamT h.get? K) := by
    intro lm
    induction lm with
    | nil => exact fun _ => ⟨[], rfl, fun i x p e => by simp at e, rfl⟩
    | cons x lm ih =>
      intro hh
      obtain ⟨cs, l1, l2, l3⟩ := ih fun y hy => hh y (List.mem_cons_of_mem _ hy)
      obtain ⟨c, P, t1, t2⟩ := lamB_ok (hh x List.mem_cons_self)
      refine ⟨(c, P) :: cs, by rw [List.length_cons, List.length_cons, l1], fun i y p a b => ?_, by rw [List.map_cons, List.map_cons, l3, t1]⟩
      cases i with
      | zero =>
        cases a
        cases b
        exact t2
      | succ i => exact l2 i y p (by simpa using a) (by simpa using b)
  obtain ⟨cs, l1, l2, l3⟩ := gen lm (List.all_eq_true.mp e1)
  refine ⟨cs, l1, l2, ?_⟩
  rw [← l3] at e2
  have : cs.map (fun p => some p.2) = (cs.map (·.2)).map some := by rw [List.map_map]; rfl
  rw [this] at e2
  exact List.Pairwise.of_map (f := some) (S := (· ≠ ·)) (fun a b h z => h (congrArg some z)) e2
theorem LamsAt.keeps {h h' : Heap} {K : PySem.W.Frag} {lm : List Str} (x : LamsAt h K lm) (k : ∀ b o, h.get? b = some o → h'.get? b = some o) : LamsAt h' K lm :=
  let ⟨cs, l1, l2, l3⟩ := x
  ⟨cs, l1, fun i y p a b => let z := l2 i y p a b; ⟨z.code, z.hd.keeps k, k _ _ z.tab, z.out⟩, l3⟩
abbrev AlL : Type := Bool × AlP
def obsLG (n : Nat) (P : Program) (fa : List Fa) (tp : List (Str × List Dv)) (fn : List DefD) (es : List ErrD) (ts : List TabP) (lm : List Str) (g : Addr → Option Obj) : AlL := (lamsB g (frG g (asL g n)) lm, obsP P fa tp fn es ts (frG g (asL g n)))
def hookLm (n : Nat) (P : Program) (fa : List Fa) (tp : List (Str × List Dv)) (fn : List DefD) (es : List ErrD) (ts : List TabP) (lm : List Str) : PySem.W.Hook where
  α := AlL
  obs := fun s => obsLG n P fa tp fn es ts lm s.heap.get?
  val := fun w => (true, valP fn es ts w)
  says := fun w h => ∃ K : PySem.W.Frag, K.In h ∧ SaysP P fa tp fn es ts w K ∧ LamsAt h K lm
  of := fun _ _ e => ⟨_, frG_in, congrArg (fun z : AlL => z.2) e, lams_ok (congrArg (fun z : AlL => z.1) e)⟩
  keeps := fun _ _ _ ⟨K, hK, c, l⟩ k => ⟨K, PySem.W.Frag.In.keeps hK k, c, l.keeps k⟩
theorem obsLG_eq {n : Nat} {P : Program} {fa : List Fa} {tp : List (Str × List Dv)} {fn : List DefD} {es : List ErrD} {ts : List TabP} {lm : List Str} {g : Addr → Option Obj} {s : Shared} (h : ∀ a, g a = s.heap.get? a) : obsLG n P fa tp fn es ts lm g = (hookLm n P fa tp fn es ts lm).obs s := by
  have e : g = s.heap.get? := funext h
  rw [e] <;> rfl
end Pev
namespace Lw
open PySem PySem.Spec PyProof.Rows L2 Pev
/-! ### the text -/
def topS (i : Nat) : Stmt := PySem.Challenge.pw_whoiswho_k20_whole_looks_none_of_which_c.main.body.getD i (.Pass ⟨0, 0, 0, 0⟩)
abbrev s_is_string : Stmt := topS 9
abbrev s_is_text : Stmt := topS 10
abbrev s_is_integer : Stmt := topS 7
abbrev s_need_many : Stmt := topS 13
abbrev s_places_of : Stmt := topS 17
abbrev s_looks_of : Stmt := topS 18
abbrev s_found_looks : Stmt := topS 19
abbrev s_is_number : Stmt := topS 8
abbrev s_is_sequence : Stmt := topS 11
abbrev s_is_pair : Stmt := topS 12
abbrev s_are_unlike : Stmt := topS 14
abbrev s_spoilt_piece : Stmt := topS 20
abbrev s_spoilt_text : Stmt := topS 21
abbrev s__law_box : Stmt := topS 23
abbrev s__law_take : Stmt := topS 24
abbrev s__law_mixed : Stmt := topS 26
abbrev s__law_edits : Stmt := topS 27
abbrev s__law_looks : Stmt := topS 28
abbrev s__law_found : Stmt := topS 29
abbrev s__law_is_text : Stmt := topS 30
abbrev s__law_pick : Stmt := topS 25
abbrev s__law_refused : Stmt := topS 31
abbrev s__law_errors : Stmt := topS 32
abbrev s_law : Stmt := topS 33
abbrev si_0 : Stmt := initS (topS 2)
abbrev ed_0 : ErrD := ⟨"InvalidText", si_0, "InvalidText.__init__", some "at"⟩
abbrev si_1 : Stmt := initS (topS 3)
abbrev ed_1 : ErrD := ⟨"InvalidIndex", si_1, "InvalidIndex.__init__", some "at"⟩
abbrev si_2 : Stmt := initS (topS 4)
abbrev ed_2 : ErrD := ⟨"Refused", si_2, "Refused.__init__", some "at"⟩
abbrev si_3 : Stmt := initS (topS 5)
abbrev ed_3 : ErrD := ⟨"InvalidSize", si_3, "InvalidSize.__init__", some "word"⟩
abbrev df_is_string : He.DefD := ⟨("is_string", none), "is_string", "is_string", defArgs s_is_string, defBody s_is_string, defScope s_is_string, [], []⟩
abbrev df_is_text : He.DefD := ⟨("is_text", none), "is_text", "is_text", defArgs s_is_text, defBody s_is_text, defScope s_is_text, [], []⟩
abbrev df_is_integer : He.DefD := ⟨("is_integer", none), "is_integer", "is_integer", defArgs s_is_integer, defBody s_is_integer, defScope s_is_integer, [], []⟩
abbrev df_need_many : He.DefD := ⟨("need_many", none), "need_many", "need_many", defArgs s_need_many, defBody s_need_many, defScope s_need_many, [.int 0], []⟩
abbrev df_places_of : He.DefD := ⟨("places_of", none), "places_of", "places_of", defArgs s_places_of, defBody s_places_of, defScope s_places_of, [], []⟩
abbrev df_looks_of : He.DefD := ⟨("looks_of", none), "looks_of", "looks_of", defArgs s_looks_of, defBody s_looks_of, defScope s_looks_of, [], []⟩
abbrev df_found_looks : He.DefD := ⟨("found_looks", none), "found_looks", "found_looks", defArgs s_found_looks, defBody s_found_looks, defScope s_found_looks, [], []⟩
abbrev df_is_number : He.DefD := ⟨("is_number", none), "is_number", "is_number", defArgs s_is_number, defBody s_is_number, defScope s_is_number, [], []⟩
abbrev df_is_sequence : He.DefD := ⟨("is_sequence", none), "is_sequence", "is_sequence", defArgs s_is_sequence, defBody s_is_sequence, defScope s_is_sequence, [], []⟩
abbrev df_is_pair : He.DefD := ⟨("is_pair", none), "is_pair", "is_pair", defArgs s_is_pair, defBody s_is_pair, defScope s_is_pair, [], []⟩
abbrev df_are_unlike : He.DefD := ⟨("are_unlike", none), "are_unlike", "are_unlike", defArgs s_are_unlike, defBody s_are_unlike, defScope s_are_unlike, [], []⟩
abbrev df_spoilt_piece : He.DefD := ⟨("spoilt_piece", none), "spoilt_piece", "spoilt_piece", defArgs s_spoilt_piece, defBody s_spoilt_piece, defScope s_spoilt_piece, [], []⟩
abbrev df_spoilt_text : He.DefD := ⟨("spoilt_text", none), "spoilt_text", "spoilt_text", defArgs s_spoilt_text, defBody s_spoilt_text, defScope s_spoilt_text, [], []⟩
abbrev df__law_box : He.DefD := ⟨("_law_box", none), "_law_box", "_law_box", defArgs s__law_box, defBody s__law_box, defScope s__law_box, [], []⟩
abbrev df__law_take : He.DefD := ⟨("_law_take", none), "_law_take", "_law_take", defArgs s__law_take, defBody s__law_take, defScope s__law_take, [], []⟩
abbrev df__law_mixed : He.DefD := ⟨("_law_mixed", none), "_law_mixed", "_law_mixed", defArgs s__law_mixed, defBody s__law_mixed, defScope s__law_mixed, [], []⟩
abbrev df__law_edits : He.DefD := ⟨("_law_edits", none), "_law_edits", "_law_edits", defArgs s__law_edits, defBody s__law_edits, defScope s__law_edits, [], []⟩
abbrev df__law_looks : He.DefD := ⟨("_law_looks", none), "_law_looks", "_law_looks", defArgs s__law_looks, defBody s__law_looks, defScope s__law_looks, [], []⟩
abbrev df__law_found : He.DefD := ⟨("_law_found", none), "_law_found", "_law_found", defArgs s__law_found, defBody s__law_found, defScope s__law_found, [], []⟩
abbrev df__law_is_text : He.DefD := ⟨("_law_is_text", none), "_law_is_text", "_law_is_text", defArgs s__law_is_text, defBody s__law_is_text, defScope s__law_is_text, [], []⟩
abbrev df__law_pick : He.DefD := ⟨("_law_pick", none), "_law_pick", "_law_pick", defArgs s__law_pick, defBody s__law_pick, defScope s__law_pick, [], []⟩
abbrev df__law_refused : He.DefD := ⟨("_law_refused", none), "_law_refused", "_law_refused", defArgs s__law_refused, defBody s__law_refused, defScope s__law_refused, [], []⟩
abbrev df__law_errors : He.DefD := ⟨("_law_errors", none), "_law_errors", "_law_errors", defArgs s__law_errors, defBody s__law_errors, defScope s__law_errors, [], []⟩
abbrev df_law : He.DefD := ⟨("law", none), "law", "law", defArgs s_law, defBody s_law, defScope s_law, [], []⟩
def fnL : List He.DefD := [df_is_string, df_is_text, df_is_integer, df_need_many, df_places_of, df_looks_of, df_found_looks, df_is_number, df_is_sequence, df_is_pair, df_are_unlike, df_spoilt_piece, df_spoilt_text, df__law_box, df__law_take, df__law_mixed, df__law_edits, df__law_looks, df__law_found, df__law_is_text, df__law_pick, df__law_refused, df__law_errors, df_law]
def faL : List He.Fa := ([.glo "is_string", .glo "is_text", .glo "is_integer", .glo "need_many", .glo "places_of", .glo "looks_of", .glo "found_looks", .glo "is_number", .glo "is_sequence", .glo "is_pair", .glo "are_unlike", .glo "spoilt_piece", .glo "spoilt_text", .glo "_law_box", .glo "_law_take", .glo "_law_mixed", .glo "_law_edits", .glo "_law_looks", .glo "_law_found", .glo "_law_is_text", .glo "_law_pick", .glo "_law_refused", .glo "_law_errors", .glo "law", .free "abs", .free "all", .free "bool", .free "enumerate", .free "int", .free "isinstance"] : List He.Fa) ++ ([.free "len", .free "list", .free "max", .free "min", .free "range", .free "str", .free "tuple", .free "super", .str "SIGNS" "0123456789abcdefghijklmnopqrstuvwxyzABCDEFGHIJKLMNOPQRSTUVWXYZ"] : List He.Fa)
def tsL : List TabP := []
def tpL : List (Str × List He.Dv) := []
def esL : List ErrD := [ed_0, ed_1, ed_2, ed_3]
def lmL : List Str := ["_law_errors"]
abbrev hkL : PySem.W.Hook := hookLm 5 PySem.Challenge.pw_whoiswho_k20_whole_looks_none_of_which_c faL tpL fnL esL tsL lmL
def obL (s : PySem.W.SharedT) : AlL := obsLG 5 PySem.Challenge.pw_whoiswho_k20_whole_looks_none_of_which_c faL tpL fnL esL tsL lmL (HandSHeadRun.getT s)
theorem obL_eq (s : PySem.W.SharedT) : obL s = hkL.obs s.abs := obsLG_eq (HandSHeadRun.getT_eq s)
def lsL : List Str := ["__name__", "WhoError", "InvalidText", "InvalidIndex", "Refused", "InvalidSize", "is_integer", "is_number", "is_string", "is_text", "is_sequence", "is_pair", "need_many", "are_unlike", "SIGNS", "places_of", "looks_of", "found_looks", "spoilt_piece", "spoilt_text", "_law_box", "_law_take", "_law_pick", "_law_mixed", "_law_edits", "_law_looks", "_law_found", "_law_is_text", "_law_refused", "_law_errors"]
theorem runL (w : World) : HandSHeadRun.RunEq (PySem.W.OpenLaw.row PySem.Challenge.rw_whoiswho_k20_whole_looks_none_of_which_c) (PySem.W.view (PySem.W.OpenLaw.row PySem.Challenge.rw_whoiswho_k20_whole_looks_none_of_which_c).prog [33]) hkL obL 40000 lsL w := by
  intro os
  kernel_rfl
end Lw
/-! Pev, first part: values, the store, what stands for what. -/
namespace Pev
open PySem PySem.Spec PyProof.Rows L2

/-- a value at run time: data that never changes, a place of the store, a list that is read alone -/
inductive R where
  | dat (d : PyData) | obj (k : Nat) | ro (ds : List PyData) | err (c : Nat) (f : Option PyData)
  /-- a lambda without parameters, or such a one and what is due, in a tuple -/
  | lam (i : Nat) (f : Option PyData)

inductive Cell where
  | dead | lst (rs : List R)

abbrev Sto := List Cell
abbrev Rho := List (Option R)

inductive Out (α : Type) where
  | ok (a : α) (S : Sto) | exc (c : Nat) (f : Option PyData) (S : Sto) | stuck

inductive OutS where
  | nx (ρ : Rho) (S : Sto) | rt (r : R) (S : Sto) | bk (ρ : Rho) (S : Sto) | ct (ρ : Rho) (S : Sto)
  | exc (c : Nat) (f : Option PyData) (ρ : Rho) (S : Sto) | stuck

abbrev EM := Rho → Sto → Out R
abbrev EMs := Rho → Sto → Out (List R)
abbrev TM := Rho → Sto → Out Bool
abbrev SM := Rho → Sto → OutS
abbrev FM := List R → Sto → Out R

def Out.bind {α β : Type} (o : Out α) (f : α → Sto → Out β) : Out β := match o with
  | .ok a S => f a S
  | .exc c d S => .exc c d S
  | .stuck => .stuck

/-! ### addresses -/
def live (α : List (Option Addr)) : List Addr := α.filterMap id
theorem mem_live {α : List (Option Addr)} {a : Addr} : a ∈ live α ↔ ∃ k : Nat, α[k]? = some (some a) := by
  unfold live
  rw [List.mem_filterMap]
  constructor
  · rintro ⟨o, ho, e⟩
    obtain ⟨k, hk⟩ := List.mem_iff_getElem?.mp ho
    refine ⟨k, ?_⟩
    rw [hk]
    cases o with
    | none => cases e
    | some b => cases e; rfl
  · rintro ⟨k, hk⟩
    exact ⟨some a, List.mem_iff_getElem?.mpr ⟨k, hk⟩, rfl⟩

/-- no table of code objects -/
def NT : HO → Prop
  | .tbl _ => False
  | _ => True
/-- the heap without some places, and without tables -/
def hid (B : List Addr) (H : Hp) : Hp := fun a => if a ∈ B then none else match H a with
  | some (.tbl _) => none
  | x => x
theorem hid_some {B : List Addr} {H : Hp} {a : Addr} {o : HO} : hid B H a = some o ↔ a ∉ B ∧ H a = some o ∧ NT o := by
  unfold hid
  by_cases h : a ∈ B
  · rw [if_pos h]
    exact ⟨fun z => (by cases z), fun z => absurd h z.1⟩
  · rw [if_neg h]
    cases q : H a with
    | none => exact ⟨fun z => (by cases z), fun z => (by cases z.2.1)⟩
    | some x =>
      cases x with
      | tbl ps => exact ⟨fun z => (by cases z), fun z => (by cases z.2.1; exact z.2.2.elim)⟩
      | _ => exact ⟨fun z => (by cases z; exact ⟨h, rfl, trivial⟩), fun z => z.2.1⟩
theorem hid_le {B : List Addr} {H : Hp} : Same (hid B H) H := fun _ _ h => (hid_some.mp h).2.1

/-! ### data -/
mutual
inductive Dq (K : PySem.W.Frag) (H : Hp) : V → PyData → Prop
  | non : Dq K H .non .none
  | bl (b : Bool) : Dq K H (.bl b) (.bool b)
  | int (i : Int) : Dq K H (.int i) (.int i)
  | str (x : Str) : Dq K H (.str x) (.str x)
  | lst {a : Addr} {vs : List V} {ds : List PyData} : H a = some (.lst vs) → DqAll K H vs ds → Dq K H (.ref a) (.list ds)
  | tup {a : Addr} {vs : List V} {ds : List PyData} : SqT K H a vs → DqAll K H vs ds → Dq K H (.ref a) (.tuple ds)
inductive DqAll (K : PySem.W.Frag) (H : Hp) : List V → List PyData → Prop
  | nil : DqAll K H [] []
  | cons {v : V} {vs : List V} {d : PyData} {ds : List PyData} : Dq K H v d → DqAll K H vs ds → DqAll K H (v :: vs) (d :: ds)
end

theorem sqT_same {K : PySem.W.Frag} {H H' : Hp} {a : Addr} {xs : List V} (e : Same H H') (h : SqT K H a xs) : SqT K H' a xs := by
  rcases h with (h | ⟨o, h⟩) | h
  · exact .inl (.inl (e _ _ h))
  · exact .inl (.inr ⟨o, e _ _ h⟩)
  · exact .inr h

section
variable {K : PySem.W.Frag} {H H' : Hp}
mutual
theorem Dq.same (e : Same H H') : ∀ {v : V} {d : PyData}, Dq K H v d → Dq K H' v d
  | _, _, .non => .non
  | _, _, .bl b => .bl b
  | _, _, .int i => .int i
  | _, _, .str x => .str x
  | _, _, .lst h hs => .lst (e _ _ h) (DqAll.same e hs)
  | _, _, .tup h hs => .tup (sqT_same e h) (DqAll.same e hs)
theorem DqAll.same (e : Same H H') : ∀ {vs : List V} {ds : List PyData}, DqAll K H vs ds → DqAll K H' vs ds
  | _, _, .nil => .nil
  | _, _, .cons h t => .cons (Dq.same e h) (DqAll.same e t)
end
mutual
theorem Dq.dp : ∀ {v : V} {d : PyData}, Dq K H v d → Dp K H v d
  | _, _, .non => .non
  | _, _, .bl b => .bl b
  | _, _, .int i => .int i
  | _, _, .str x => .str x
  | _, _, .lst h hs => .lst (SqL.of h) (DqAll.dp hs)
  | _, _, .tup h hs => .tup h (DqAll.dp hs)
theorem DqAll.dp : ∀ {vs : List V} {ds : List PyData}, DqAll K H vs ds → DpAll K H vs ds
  | _, _, .nil => .nil
  | _, _, .cons h t => .cons (Dq.dp h) (DqAll.dp t)
end
theorem DqAll.length : ∀ {vs : List V} {ds : List PyData}, DqAll K H vs ds → vs.length = ds.length
  | _, _, .nil => rfl
  | _, _, .cons _ t => by rw [List.length_cons, List.length_cons, DqAll.length t]
theorem DqAll.get : ∀ {vs : List V} {ds : List PyData} {i : Nat} {d : PyData}, DqAll K H vs ds → ds[i]? = some d → ∃ v, vs[i]? = some v ∧ Dq K H v d
  | _, _, _, _, .nil, e => by simp at e
  | _, _, 0, _, .cons h _, e => by simp at e; subst e; exact ⟨_, rfl, h⟩
  | _, _, i + 1, _, .cons _ t, e => by
    obtain ⟨v, h1, h2⟩ := DqAll.get (i := i) t (by simpa using e)
    exact ⟨v, by simpa using h1, h2⟩
theorem DqAll.append : ∀ {vs ws : List V} {ds es : List PyData}, DqAll K H vs ds → DqAll K H ws es → DqAll K H (vs ++ ws) (ds ++ es)
  | _, _, _, _, .nil, h => h
  | _, _, _, _, .cons h t, s => .cons h (DqAll.append t s)
end

/-! ### what stands for what -/
/-- a lambda without parameters, as its maker makes it -/
structure LamI where
  q : Str
  params : Arguments
  body : Expr
  scope : Scope
  clo : List (Str × Addr)
structure Tb where
  K : PySem.W.Frag
  cls : Nat → Addr
  fld : Nat → Str
  /-- the exception that an except suite holds -/
  cur : Option (Addr × Value × Option Addr × Nat) := none
  /-- the tables of code objects of the defs that hold lambdas, and the names of these -/
  tabs : List (Addr × Str) := []
  /-- the lambdas without parameters that are about -/
  lams : List LamI := []
  /-- what a lambda needs when it is called -/
  ctx : List Addr → List (Option Addr) → Hp → Prop := fun _ _ _ => True
  ctxS : ∀ (β : List Addr) (α : List (Option Addr)) (H : Hp) (β' : List Addr) (α' : List (Option Addr)) (H' : Hp), α.length ≤ α'.length → (∀ (k : Nat) (a : Addr), k < α.length → α'[k]? = some (some a) → α[k]? = some (some a)) →
    Same (hid (β ++ live α) H) (hid (β' ++ live α') H') → ctx β α H → ctx β' α' H' := by intros; trivial
instance : Coe Tb PySem.W.Frag := ⟨Tb.K⟩

/-- the places that data may not use -/
def blk (β : List Addr) (α : List (Option Addr)) : List Addr := β ++ live α

def ExcR (T : Tb) (β : List Addr) (α : List (Option Addr)) (H : Hp) (c : Nat) (f : Option PyData) (cls : Value) (d : Option Addr) : Prop :=
  cls = .ref (T.cls c) ∧ ∀ z, f = some z → ∃ dd v, d = some dd ∧ hid (blk β α) H dd = some (.xd [(T.fld c, v)]) ∧ Dq T.K (hid (blk β α) H) v z

/-- the function object at a -/
def LamOb (a : Addr) (L : LamI) (pm : Value) (c' : Addr) (ctv : Value) : HO := .ext fun h => h.get? a = some (PySem.W.kla_obj "<lambda>" L.q L.params L.body L.scope L.clo pm c' ctv)
def LamV (K : Tb) (H : Hp) (i : Nat) (a : Addr) : Prop := ∃ L pm c' ctv, K.lams[i]? = some L ∧ H a = some (LamOb a L pm c' ctv) ∧ H c' = some (LamX.CodeO c' L.q)
def LamR (K : Tb) (H : Hp) (i : Nat) : Option PyData → V → Prop
  | none, v => ∃ a, v = .ref a ∧ LamV K H i a
  | some d, v => ∃ a f w, v = .ref a ∧ SqT K.K H a [.ref f, w] ∧ LamV K H i f ∧ Dq K.K H w d
theorem LamV.same {K : Tb} {H H' : Hp} (e : Same H H') {i : Nat} {a : Addr} (h : LamV K H i a) : LamV K H' i a := by
  obtain ⟨L, pm, c', ctv, h1, h2, h3⟩ := h
  exact ⟨L, pm, c', ctv, h1, e _ _ h2, e _ _ h3⟩
theorem LamR.same {K : Tb} {H H' : Hp} (e : Same H H') {i : Nat} {f : Option PyData} {v : V} (h : LamR K H i f v) : LamR K H' i f v := by
  cases f with
  | none =>
    obtain ⟨a, rfl, h1⟩ := h
    exact ⟨a, rfl, h1.same e⟩
  | some d =>
    obtain ⟨a, f, w, rfl, h1, h2, h3⟩ := h
    exact ⟨a, f, w, rfl, sqT_same e h1, h2.same e, Dq.same e h3⟩
def Vr (K : Tb) (β : List Addr) (α : List (Option Addr)) (H : Hp) : R → V → Prop
  | .dat d, v => Dq K (hid (blk β α) H) v d
  | .obj k, v => k < α.length ∧ ∀ a, α[k]? = some (some a) → v = .ref a
  | .ro ds, v => ∃ a vs, v = .ref a ∧ SqL K (hid (blk β α) H) a vs ∧ DqAll K (hid (blk β α) H) vs ds
  | .err _ _, _ => False
  | .lam i f, v => LamR K (hid (blk β α) H) i f v ∧ K.ctx β α H

abbrev Vrs (K : Tb) (β : List Addr) (α : List (Option Addr)) (H : Hp) : List R → List V → Prop := Paired (Vr K β α H)

/-- a list -/
def ML : Option HO → Prop
  | some (.lst _) => True
  | _ => False
theorem ML.mut : ∀ {o : Option HO}, ML o → Mut o
  | some (.lst _), _ => trivial
  | some (.tup _), h => h.elim
  | some (.dK _), h => h.elim
  | some (.dT _), h => h.elim
  | some (.set _ _), h => h.elim
  | some (.ins _ _ _), h => h.elim
  | some (.own _), h => h.elim
  | some (.xd _), h => h.elim
  | some (.met _ _), h => h.elim
  | some (.rng _ _), h => h.elim
  | some (.frz _ _), h => h.elim
  | some (.tbl _), h => h.elim
  | some (.ext _), h => h.elim
  | none, h => h.elim

/-- what may stand at a place that data may not use -/
def Bd : Option HO → Prop
  | none => False
  | some (.tbl _) => False
  | some (.ext _) => False
  | some _ => True
theorem Bd.has {o : Option HO} (h : Bd o) : o ≠ none := fun e => by rw [e] at h; exact h
theorem Bd.nt {o : HO} (h : Bd (some o)) : NT o := by
  cases o <;> first | trivial | exact h
theorem ML.bd : ∀ {o : Option HO}, ML o → Bd o
  | some (.lst _), _ => trivial
  | some (.tup _), h => h.elim
  | some (.dK _), h => h.elim
  | some (.dT _), h => h.elim
  | some (.set _ _), h => h.elim
  | some (.ins _ _ _), h => h.elim
  | some (.own _), h => h.elim
  | some (.xd _), h => h.elim
  | some (.met _ _), h => h.elim
  | some (.rng _ _), h => h.elim
  | some (.frz _ _), h => h.elim
  | some (.tbl _), h => h.elim
  | some (.ext _), h => h.elim
  | none, h => h.elim
structure Rl (K : Tb) (β : List Addr) (α : List (Option Addr)) (S : Sto) (H : Hp) : Prop where
  len : α.length = S.length
  inj : ∀ (k j : Nat) (a : Addr), α[k]? = some (some a) → α[j]? = some (some a) → k = j
  off : ∀ a ∈ live α, a ∉ β
  bt : ∀ b ∈ β, Bd (H b)
  mt : ∀ a ∈ live α, ML (H a)
  cell : ∀ (k : Nat) (rs : List R), S[k]? = some (.lst rs) → ∃ a vs, α[k]? = some (some a) ∧ H a = some (.lst vs) ∧ Vrs K β α H rs vs
  tab : LamX.Tabs K.tabs H

/-- how a state may go on -/
structure Ext (α : List (Option Addr)) (H : Hp) (α' : List (Option Addr)) (H' : Hp) : Prop where
  len : α.length ≤ α'.length
  old : ∀ (k : Nat) (a : Addr), k < α.length → α'[k]? = some (some a) → α[k]? = some (some a)
  new : ∀ (k : Nat) (a : Addr), α.length ≤ k → α'[k]? = some (some a) → H a = none
  keep : ∀ b o, b ∉ live α → NT o → H b = some o → H' b = some o
  stay : ∀ b, H b ≠ none → H' b ≠ none

theorem mut_some {o : Option HO} (h : Mut o) : o ≠ none := fun e => by rw [e] at h; exact h
theorem Rl.at' {K : Tb} {β : List Addr} {α : List (Option Addr)} {H : Hp} {S : Sto} (Rr : Rl K β α S H) : ∀ a ∈ live α, H a ≠ none := fun a h => mut_some (Rr.mt a h).mut
theorem same_at {H H' : Hp} (h : Same H H') {a : Addr} (m : H a ≠ none) : H' a = H a := by
  cases q : H a with
  | none => exact absurd q m
  | some o => exact h a o q
section
variable {K : Tb} {β : List Addr} {α α' α'' : List (Option Addr)} {H H' H'' : Hp} {S S' : Sto}
theorem ExcR.to {H' : Hp} {β' : List Addr} {c : Nat} {f : Option PyData} {cls : Value} {d : Option Addr} (s : Same (hid (blk β α) H) (hid (blk β' α') H')) (h : ExcR K β α H c f cls d) : ExcR K β' α' H' c f cls d :=
  ⟨h.1, fun z e => by
    obtain ⟨dd, v, e1, e2, e3⟩ := h.2 z e
    exact ⟨dd, v, e1, s _ _ e2, Dq.same s e3⟩⟩
theorem Ext.refl : Ext α H α H where
  len := Nat.le_refl _
  old := fun _ _ _ h => h
  new := fun k a h e => by
    rw [List.getElem?_eq_none h] at e
    cases e
  keep := fun _ _ _ _ h => h
  stay := fun _ h => h
theorem Ext.liv (e : Ext α H α' H') {a : Addr} (h : a ∈ live α') : a ∈ live α ∨ H a = none := by
  obtain ⟨k, hk⟩ := mem_live.mp h
  by_cases z : k < α.length
  · exact .inl (mem_live.mpr ⟨k, e.old k a z hk⟩)
  · exact .inr (e.new k a (by omega) hk)
theorem Ext.trans (e : Ext α H α' H') (f : Ext α' H' α'' H'') : Ext α H α'' H'' where
  len := Nat.le_trans e.len f.len
  old := fun k a h q => e.old k a h (f.old k a (Nat.lt_of_lt_of_le h e.len) q)
  new := fun k a h q => by
    by_cases z : k < α'.length
    · exact e.new k a h (f.old k a z q)
    · have n := f.new k a (by omega) q
      cases r : H a with
      | none => rfl
      | some o => exact absurd n (e.stay a (by rw [r]; simp))
  keep := fun b o h nt q => by
    refine f.keep b o (fun z => ?_) nt (e.keep b o h nt q)
    rcases e.liv z with z | z
    · exact h z
    · rw [q] at z; cases z
  stay := fun b h => f.stay b (e.stay b h)
/-- data stays -/
theorem Ext.hid (e : Ext α H α' H') : Same (hid (blk β α) H) (hid (blk β α') H') := fun a o h => by
  obtain ⟨n, q, nt⟩ := hid_some.mp h
  refine hid_some.mpr ⟨fun z => n ?_, e.keep a o (fun z => n (List.mem_append_right _ z)) nt q, nt⟩
  rcases List.mem_append.mp z with z | z
  · exact List.mem_append_left _ z
  · rcases e.liv z with z | z
    · exact List.mem_append_right _ z
    · rw [q] at z; cases z
theorem Vr.ext (e : Ext α H α' H') {r : R} {v : V} (h : Vr K β α H r v) : Vr K β α' H' r v := by
  cases r with
  | dat d => exact Dq.same e.hid h
  | obj k => exact ⟨Nat.lt_of_lt_of_le h.1 e.len, fun a q => h.2 a (e.old k a h.1 q)⟩
  | ro ds =>
    obtain ⟨a, vs, e1, e2, e3⟩ := h
    exact ⟨a, vs, e1, e.hid.seq e2, DqAll.same e.hid e3⟩
  | err c f => exact h.elim
  | lam i f => exact ⟨LamR.same e.hid h.1, K.ctxS _ _ _ _ _ _ e.len e.old e.hid h.2⟩
theorem Vrs.ext (e : Ext α H α' H') {rs : List R} {vs : List V} (h : Vrs K β α H rs vs) : Vrs K β α' H' rs vs := Paired.mapP h fun _ _ q => q.ext e

/-- nothing of the store is touched, the heap grows -/
theorem Ext.same (h : Same H H') : Ext α H α H' where
  len := Nat.le_refl _
  old := fun _ _ _ h => h
  new := fun k a h e => by
    rw [List.getElem?_eq_none h] at e
    cases e
  keep := fun b o _ _ q => h b o q
  stay := fun b q => by
    cases r : H b with
    | none => exact absurd r q
    | some o => rw [h b o r]; simp
theorem Rl.same (R : Rl K β α S H) (h : Same H H') : Rl K β α S H' where
  len := R.len
  inj := R.inj
  off := R.off
  bt := fun b q => by rw [same_at h (R.bt b q).has]; exact R.bt b q
  mt := fun b q => by rw [same_at h (R.at' b q)]; exact R.mt b q
  cell := fun k rs q => by
    obtain ⟨a, vs, e1, e2, e3⟩ := R.cell k rs q
    exact ⟨a, vs, e1, h _ _ e2, Vrs.ext (Ext.same h) e3⟩
  tab := R.tab.ext h
/-- all but tables stays -/
structure SmN (H H' : Hp) : Prop where
  keep : ∀ b o, NT o → H b = some o → H' b = some o
  stay : ∀ b, H b ≠ none → H' b ≠ none
theorem mut_nt {o : HO} (h : Mut (some o)) : NT o := by
  cases o <;> first | trivial | exact h
theorem Ext.sm (h : SmN H H') : Ext α H α H' where
  len := Nat.le_refl _
  old := fun _ _ _ h => h
  new := fun k a h e => by
    rw [List.getElem?_eq_none h] at e
    cases e
  keep := fun b o _ nt q => h.keep b o nt q
  stay := h.stay
theorem Rl.sm (R : Rl K β α S H) (h : SmN H H') (t : LamX.Tabs K.tabs H') : Rl K β α S H' where
  len := R.len
  inj := R.inj
  off := R.off
  bt := fun b q => by
    have m := R.bt b q
    cases e : H b with
    | none => rw [e] at m; exact m.elim
    | some o =>
      rw [e] at m
      rw [h.keep b o m.nt e]
      exact m
  mt := fun b q => by
    have m := R.mt b q
    cases e : H b with
    | none => rw [e] at m; exact m.elim
    | some o =>
      rw [e] at m
      rw [h.keep b o (mut_nt m.mut) e]
      exact m
  cell := fun k rs q => by
    obtain ⟨a, vs, e1, e2, e3⟩ := R.cell k rs q
    exact ⟨a, vs, e1, h.keep _ _ trivial e2, Vrs.ext (Ext.sm h) e3⟩
  tab := t
/-- a list is written: the tables stand -/
theorem tabs_upd {T : List (Addr × Str)} {a : Addr} {vs : List V} {o : HO} (h : LamX.Tabs T H) (ha : H a = some (.lst vs)) : LamX.Tabs T (upd H a o) := fun p hp => by
  obtain ⟨ps, h1, h2, h3⟩ := h p hp
  refine ⟨ps, by rw [upd_ne (fun z => by rw [z, ha] at h1; cases h1)]; exact h1, h2, fun pos cv hc => ?_⟩
  obtain ⟨c, e1, e2⟩ := h3 pos cv hc
  exact ⟨c, e1, by rw [upd_ne (fun z => by rw [z, ha] at e2; cases e2)]; exact e2⟩
theorem same_new {p : Addr} {o : HO} (h : H p = none) : Same H (upd H p o) := fun b x e => by
  rw [upd_ne (ne_of_none e h)]; exact e
/-- a new thing is no place of the store, and not forbidden -/
theorem Rl.newOff (R : Rl K β α S H) {p : Addr} (h : H p = none) : p ∉ blk β α := fun z => by
  rcases List.mem_append.mp z with z | z
  · exact (R.bt p z).has h
  · exact R.at' p z h
theorem Rl.hidNew (R : Rl K β α S H) {p : Addr} {o : HO} (h : H p = none) (nt : NT o := by trivial) : hid (blk β α) (upd H p o) p = some o := hid_some.mpr ⟨R.newOff h, upd_same, nt⟩
end

/-! ### slots -/
/-- what stands in the i-th slot -/
def Sl (K : Tb) (β : List Addr) (α : List (Option Addr)) (H : Hp) (σ : L2.St) (i : Nat) (r : R) : Prop := match r with
  | .err c f => ∀ a cls d, K.cur = some (a, cls, d, i) → σ[i]? = some (some (.ref a)) ∧ ExcR K β α H c f cls d
  | r => ∃ v, σ[i]? = some (some v) ∧ Vr K β α H r v
def Er (K : Tb) (β : List Addr) (α : List (Option Addr)) (H : Hp) (σ : L2.St) (ρ : Rho) : Prop :=
  σ.length = ρ.length ∧ ∀ (i : Nat) (r : R), ρ[i]? = some (some r) → Sl K β α H σ i r
section
variable {K : Tb} {β : List Addr} {α α' : List (Option Addr)} {H H' : Hp} {σ σ' : L2.St} {ρ : Rho} {i : Nat} {r : R}
theorem Sl.of (h : ∃ v, σ[i]? = some (some v) ∧ Vr K β α H r v) : Sl K β α H σ i r := by
  cases r with
  | err c f => exact h.elim fun _ z => z.2.elim
  | _ => exact h
theorem Sl.to {β' : List Addr} (h : Sl K β α H σ i r) (e : σ'[i]? = σ[i]?) (x : ∀ c f cls d, ExcR K β α H c f cls d → ExcR K β' α' H' c f cls d) (v : ∀ r v, Vr K β α H r v → Vr K β' α' H' r v) : Sl K β' α' H' σ' i r := by
  cases r with
  | err c f => exact fun a cls d q => ⟨e.trans (h a cls d q).1, x _ _ _ _ (h a cls d q).2⟩
  | dat _ => obtain ⟨u, h1, h2⟩ := h; exact ⟨u, e.trans h1, v _ _ h2⟩
  | obj _ => obtain ⟨u, h1, h2⟩ := h; exact ⟨u, e.trans h1, v _ _ h2⟩
  | ro _ => obtain ⟨u, h1, h2⟩ := h; exact ⟨u, e.trans h1, v _ _ h2⟩
  | lam _ _ => obtain ⟨u, h1, h2⟩ := h; exact ⟨u, e.trans h1, v _ _ h2⟩
theorem Sl.val (h : Sl K β α H σ i r) (n : ∀ c f, r ≠ .err c f) : ∃ v, σ[i]? = some (some v) ∧ Vr K β α H r v := by
  cases r with
  | err c f => exact absurd rfl (n c f)
  | _ => exact h
theorem Er.ext (e : Ext α H α' H') (h : Er K β α H σ ρ) : Er K β α' H' σ ρ := ⟨h.1, fun i r q => (h.2 i r q).to rfl (fun _ _ _ _ z => z.to e.hid) fun _ _ z => z.ext e⟩
theorem Er.set (h : Er K β α H σ ρ) {i : Nat} {r : R} {v : V} (hr : Vr K β α H r v) : Er K β α H (σ.set i (some v)) (ρ.set i (some r)) := by
  refine ⟨by rw [List.length_set, List.length_set]; exact h.1, fun j q e => ?_⟩
  by_cases z : i = j
  · subst z
    by_cases hl : i < ρ.length
    · rw [List.getElem?_set_self hl] at e
      cases e
      exact .of ⟨v, List.getElem?_set_self (by rw [h.1]; exact hl), hr⟩
    · rw [List.getElem?_eq_none (by rw [List.length_set]; omega)] at e; cases e
  · rw [List.getElem?_set_ne z] at e
    exact (h.2 j q e).to (List.getElem?_set_ne z) (fun _ _ _ _ y => y) fun _ _ y => y
theorem Er.unset (h : Er K β α H σ ρ) (i : Nat) : Er K β α H (σ.set i none) (ρ.set i none) := by
  refine ⟨by rw [List.length_set, List.length_set]; exact h.1, fun j q e => ?_⟩
  by_cases z : i = j
  · subst z
    by_cases hl : i < ρ.length
    · rw [List.getElem?_set_self hl] at e; cases e
    · rw [List.getElem?_eq_none (by rw [List.length_set]; omega)] at e; cases e
  · rw [List.getElem?_set_ne z] at e
    exact (h.2 j q e).to (List.getElem?_set_ne z) (fun _ _ _ _ y => y) fun _ _ y => y
end

/-! ### what is wanted behind a term -/
/-- rel: how the mirror's answer stands for the walk's -/
def PostG {a b : Type} (T : Tb) (β : List Addr) (W : WX) (rel : List (Option Addr) → Hp → a → b → Prop) (σ : L2.St) (o : Out a) (α : List (Option Addr)) (H : Hp) (Q : b → Hp → Prop) : Prop :=
  match o with
  | .ok x S => ∀ α' H' v, Ext α H α' H' → Rl T β α' S H' → rel α' H' x v → Q v H'
  | .exc c f S => ∀ α' H' cls d, Ext α H α' H' → Rl T β α' S H' → ExcR T β α' H' c f cls d → W cls d σ H'
  | .stuck => False

def PostS (T : Tb) (β : List Addr) (W : WX) (o : OutS) (α : List (Option Addr)) (H : Hp) (D : Ends) : Prop :=
  match o with
  | .nx ρ S => ∀ α' H' σ', Ext α H α' H' → Rl T β α' S H' → Er T β α' H' σ' ρ → D.nx σ' H'
  | .rt r S => ∀ α' H' v, Ext α H α' H' → Rl T β α' S H' → Vr T β α' H' r v → D.rt v H'
  | .bk ρ S => ∀ α' H' σ', Ext α H α' H' → Rl T β α' S H' → Er T β α' H' σ' ρ → D.bk σ' H'
  | .ct ρ S => ∀ α' H' σ', Ext α H α' H' → Rl T β α' S H' → Er T β α' H' σ' ρ → D.ct σ' H'
  | .exc c f ρ S => ∀ α' H' σ' cls d, Ext α H α' H' → Rl T β α' S H' → Er T β α' H' σ' ρ → ExcR T β α' H' c f cls d → W cls d σ' H'
  | .stuck => False

section
variable {a b c e : Type} {T : Tb} {β : List Addr} {W : WX} {rel : List (Option Addr) → Hp → a → b → Prop} {rel2 : List (Option Addr) → Hp → c → e → Prop} {σ : L2.St} {α α' : List (Option Addr)} {H H' : Hp} {S : Sto} {ρ : Rho}
theorem PostG.on {o : Out a} {Q : b → Hp → Prop} (x : Ext α H α' H') (h : PostG T β W rel σ o α H Q) : PostG T β W rel σ o α' H' Q := by
  cases o with
  | ok y S => exact fun α2 H2 v e r q => h α2 H2 v (x.trans e) r q
  | exc c f S => exact fun α2 H2 cls d e r q => h α2 H2 cls d (x.trans e) r q
  | stuck => exact h
theorem PostS.on {o : OutS} {D : Ends} (x : Ext α H α' H') (h : PostS T β W o α H D) : PostS T β W o α' H' D := by
  cases o with
  | nx ρ S => exact fun α2 H2 s e r q => h α2 H2 s (x.trans e) r q
  | rt y S => exact fun α2 H2 v e r q => h α2 H2 v (x.trans e) r q
  | bk ρ S => exact fun α2 H2 s e r q => h α2 H2 s (x.trans e) r q
  | ct ρ S => exact fun α2 H2 s e r q => h α2 H2 s (x.trans e) r q
  | exc c f ρ S => exact fun α2 H2 s cls d e r q z => h α2 H2 s cls d (x.trans e) r q z
  | stuck => exact h
theorem PostG.bind {o : Out a} {f : a → Sto → Out c} {Q : e → Hp → Prop} (h : PostG T β W rel2 σ (o.bind f) α H Q) :
    PostG T β W rel σ o α H (fun v H1 => ∃ α1 S1 x, o = .ok x S1 ∧ Ext α H α1 H1 ∧ Rl T β α1 S1 H1 ∧ rel α1 H1 x v ∧ PostG T β W rel2 σ (f x S1) α1 H1 Q) := by
  cases o with
  | ok y S => exact fun α2 H2 v e r q => ⟨α2, S, y, rfl, e, r, q, PostG.on e h⟩
  | exc c f S => exact h
  | stuck => exact h
def Out.toS (o : Out a) (ρ : Rho) (k : a → Sto → OutS) : OutS := match o with
  | .ok x S => k x S
  | .exc c f S => .exc c f ρ S
  | .stuck => .stuck
theorem PostS.bind {o : Out a} {k : a → Sto → OutS} {D : Ends} (he : Er T β α H σ ρ) (h : PostS T β W (o.toS ρ k) α H D) :
    PostG T β W rel σ o α H (fun v H1 => ∃ α1 S1 x, o = .ok x S1 ∧ Ext α H α1 H1 ∧ Rl T β α1 S1 H1 ∧ rel α1 H1 x v ∧ PostS T β W (k x S1) α1 H1 D) := by
  cases o with
  | ok y S => exact fun α2 H2 v e r q => ⟨α2, S, y, rfl, e, r, q, PostS.on e h⟩
  | exc c f S => exact fun α2 H2 cls d e r q => h α2 H2 σ cls d e r (he.ext e) q
  | stuck => exact h
end

/-! ### the transformers of mirrors -/
def tE (T : Tb) (W : WX) (m : EM) : TE := fun σ H Q => ∃ β α S ρ, Rl T β α S H ∧ Er T β α H σ ρ ∧ PostG T β W (Vr T β) σ (m ρ S) α H Q
def tA (T : Tb) (W : WX) (m : EMs) : TA := fun σ H Q => ∃ β α S ρ, Rl T β α S H ∧ Er T β α H σ ρ ∧ PostG T β W (Vrs T β) σ (m ρ S) α H Q
def tT (T : Tb) (W : WX) (m : TM) : TT := fun σ H Q => ∃ β α S ρ, Rl T β α S H ∧ Er T β α H σ ρ ∧ PostG T β W (fun _ _ x v => x = v) σ (m ρ S) α H Q
def tS (T : Tb) (W : WX) (m : SM) : TS := fun D σ H => ∃ β α S ρ, Rl T β α S H ∧ Er T β α H σ ρ ∧ PostS T β W (m ρ S) α H D

section
variable {X : Cx} {e : Expr} {es : List Expr} {st : Stmt} {sts : List Stmt}
theorem pe_le {t t' : TE} (h : PE X e t) (i : ∀ σ H Q, t' σ H Q → t σ H Q) : PE X e t' := ⟨fun pins s σ H Q I q => h.run pins s σ H Q I (i σ H Q q)⟩
theorem pt_le {t t' : TT} (h : PT X e t) (i : ∀ σ H Q, t' σ H Q → t σ H Q) : PT X e t' := ⟨fun pins s σ H Q I q => h.run pins s σ H Q I (i σ H Q q)⟩
theorem pw_le {t t' : TT} (h : PW X e t) (i : ∀ σ H Q, t' σ H Q → t σ H Q) : PW X e t' := ⟨fun w pins s σ H Q I q => h.run w pins s σ H Q I (i σ H Q q)⟩
theorem pa_le {t t' : TA} (h : PA X es t) (i : ∀ σ H Q, t' σ H Q → t σ H Q) : PA X es t' := ⟨fun pos pins s σ H Q I q => h.run pos pins s σ H Q I (i σ H Q q)⟩
theorem ps_le {t t' : TS} (h : PS X st t) (i : ∀ D σ H, t' D σ H → t D σ H) : PS X st t' := ⟨fun pins s σ H D I q => h.run pins s σ H D I (i D σ H q)⟩
theorem pss_le {t t' : TS} (h : PSs X sts t) (i : ∀ D σ H, t' D σ H → t D σ H) : PSs X sts t' := ⟨fun pins s σ H D I q => h.run pins s σ H D I (i D σ H q)⟩
end
end Pev
/-! Pev, second part: views of values, new lists, operators. -/
namespace Pev
open PySem PySem.Spec PyProof.Rows L2

section
variable {K : Tb} {β : List Addr} {α α' : List (Option Addr)} {H H' : Hp} {S S' : Sto}
theorem Vrs.get : ∀ {rs : List R} {vs : List V} {i : Nat} {r : R}, Vrs K β α H rs vs → rs[i]? = some r → ∃ v, vs[i]? = some v ∧ Vr K β α H r v
  | _, _, _, _, .nil, e => by simp at e
  | _, _, 0, _, .cons h _, e => by simp at e; subst e; exact ⟨_, rfl, h⟩
  | _, _, i + 1, _, .cons _ t, e => by
    obtain ⟨v, h1, h2⟩ := Vrs.get (i := i) t (by simpa using e)
    exact ⟨v, by simpa using h1, h2⟩
theorem Vrs.length {rs : List R} {vs : List V} (h : Vrs K β α H rs vs) : rs.length = vs.length := Paired.length h
theorem Vrs.append : ∀ {rs qs : List R} {vs ws : List V}, Vrs K β α H rs vs → Vrs K β α H qs ws → Vrs K β α H (rs ++ qs) (vs ++ ws)
  | _, _, _, _, .nil, h => h
  | _, _, _, _, .cons h t, s => .cons h (Vrs.append t s)
theorem Vrs.set {r : R} {v : V} (h : Vr K β α H r v) : ∀ {rs : List R} {vs : List V} (i : Nat), Vrs K β α H rs vs → Vrs K β α H (rs.set i r) (vs.set i v)
  | _, _, _, .nil => .nil
  | _, _, 0, .cons _ t => .cons h t
  | _, _, i + 1, .cons q t => .cons q (Vrs.set h i t)
theorem Vrs.take : ∀ {rs : List R} {vs : List V} (n : Nat), Vrs K β α H rs vs → Vrs K β α H (rs.take n) (vs.take n)
  | _, _, 0, _ => .nil
  | _, _, _ + 1, .nil => .nil
  | _, _, n + 1, .cons r t => .cons r (Vrs.take n t)
theorem Vrs.drop : ∀ {rs : List R} {vs : List V} (n : Nat), Vrs K β α H rs vs → Vrs K β α H (rs.drop n) (vs.drop n)
  | _, _, 0, r => r
  | _, _, _ + 1, .nil => .nil
  | _, _, n + 1, .cons _ t => Vrs.drop n t
theorem Vrs.dropLast {rs : List R} {vs : List V} (h : Vrs K β α H rs vs) : Vrs K β α H rs.dropLast vs.dropLast := by
  rw [List.dropLast_eq_take, List.dropLast_eq_take, ← Vrs.length h]
  exact Vrs.take _ h
theorem Vrs.eraseIdx : ∀ {rs : List R} {vs : List V} (i : Nat), Vrs K β α H rs vs → Vrs K β α H (rs.eraseIdx i) (vs.eraseIdx i)
  | _, _, _, .nil => .nil
  | _, _, 0, .cons _ t => t
  | _, _, i + 1, .cons q t => .cons q (Vrs.eraseIdx i t)
theorem Vrs.reverse : ∀ {rs : List R} {vs : List V}, Vrs K β α H rs vs → Vrs K β α H rs.reverse vs.reverse
  | _, _, .nil => .nil
  | _, _, .cons q t => by
    rw [List.reverse_cons, List.reverse_cons]
    exact Vrs.append (Vrs.reverse t) (.cons q .nil)
/-- data, as values at run time -/
theorem DqAll.vrs : ∀ {ds : List PyData} {vs : List V}, DqAll K (hid (blk β α) H) vs ds → Vrs K β α H (ds.map .dat) vs
  | _, _, .nil => .nil
  | _, _, .cons h t => .cons h (DqAll.vrs t)
end

/-! ### all of these are data -/
def R.d? : R → Option PyData
  | .dat d => some d
  | _ => none
def datAll : List R → Option (List PyData)
  | [] => some []
  | r :: rs => match r.d?, datAll rs with
    | some d, some ds => some (d :: ds)
    | _, _ => none
theorem datAll_map (ds : List PyData) : datAll (ds.map .dat) = some ds := by
  induction ds with
  | nil => rfl
  | cons d ds ih => simp [datAll, R.d?, ih]
theorem datAll_eq : ∀ {rs : List R} {ds : List PyData}, datAll rs = some ds → rs = ds.map .dat
  | [], ds, h => by cases h; rfl
  | r :: rs, ds, h => by
    unfold datAll at h
    split at h
    · rename_i d ds' e1 e2
      cases h
      cases r with
      | dat d' => cases e1; rw [datAll_eq e2]; rfl
      | obj k => cases e1
      | ro l => cases e1
      | err _ _ => cases e1
      | lam _ _ => cases e1
    · cases h
theorem Vrs.dq {K : Tb} {β : List Addr} {α : List (Option Addr)} {H : Hp} : ∀ {ds : List PyData} {vs : List V}, Vrs K β α H (ds.map .dat) vs → DqAll K (hid (blk β α) H) vs ds
  | [], _, h => by cases h; exact .nil
  | d :: ds, _, h => by
    cases h with
    | cons h t => exact .cons h (Vrs.dq t)

/-! ### views -/
/-- the items of a list -/
def lv (S : Sto) : R → Option (List R)
  | .dat (.list ds) => some (ds.map .dat)
  | .obj k => match S[k]? with
    | some (.lst rs) => some rs
    | _ => none
  | .ro ds => some (ds.map .dat)
  | _ => none
/-- the items of a list that is tracked -/
def lvt (S : Sto) : R → Option (List R)
  | .dat (.list ds) => some (ds.map .dat)
  | .obj k => match S[k]? with
    | some (.lst rs) => some rs
    | _ => none
  | _ => none
def tv : R → Option (List PyData)
  | .dat (.tuple ds) => some ds
  | _ => none
section
variable {K : Tb} {β : List Addr} {α α' : List (Option Addr)} {H H' : Hp} {S S' : Sto}
theorem lvt_ok (Rr : Rl K β α S H) {r : R} {v : V} {rs : List R} (h : Vr K β α H r v) (e : lvt S r = some rs) : ∃ a vs, v = .ref a ∧ H a = some (.lst vs) ∧ Vrs K β α H rs vs := by
  cases r with
  | dat d =>
    cases d with
    | list ds =>
      cases e
      cases h with
      | lst h1 h2 => exact ⟨_, _, rfl, (hid_some.mp h1).2.1, DqAll.vrs h2⟩
    | _ => cases e
  | obj k =>
    unfold lvt at e
    dsimp only at e
    split at e
    · rename_i rs' q
      cases e
      obtain ⟨a, vs, e1, e2, e3⟩ := Rr.cell k _ q
      exact ⟨a, vs, h.2 a e1, e2, e3⟩
    · cases e
  | ro ds => cases e
  | err _ _ => cases e
  | lam _ _ => cases e
theorem lv_ok (Rr : Rl K β α S H) {r : R} {v : V} {rs : List R} (h : Vr K β α H r v) (e : lv S r = some rs) : ∃ a vs, v = .ref a ∧ SqL K H a vs ∧ Vrs K β α H rs vs := by
  cases r with
  | ro ds =>
    cases e
    obtain ⟨a, vs, e1, e2, e3⟩ := h
    exact ⟨a, vs, e1, (hid_le.seq e2), DqAll.vrs e3⟩
  | dat d =>
    have e' : lvt S (.dat d) = some rs := by cases d <;> exact e
    obtain ⟨a, vs, e1, e2, e3⟩ := lvt_ok Rr h e'
    exact ⟨a, vs, e1, SqL.of e2, e3⟩
  | obj k =>
    obtain ⟨a, vs, e1, e2, e3⟩ := lvt_ok Rr h (show lvt S (.obj k) = some rs from e)
    exact ⟨a, vs, e1, SqL.of e2, e3⟩
  | err _ _ => cases e
  | lam _ _ => cases e
theorem tv_ok {r : R} {v : V} {ds : List PyData} (h : Vr K β α H r v) (e : tv r = some ds) : ∃ a vs, v = .ref a ∧ SqT K H a vs ∧ DqAll K (hid (blk β α) H) vs ds := by
  cases r with
  | dat d =>
    cases d with
    | tuple ds' =>
      cases e
      cases h with
      | tup h1 h2 => exact ⟨_, _, rfl, sqT_same hid_le h1, h2⟩
    | _ => cases e
  | _ => cases e
end

/-! ### data in the store seen whole -/
def snap (S : Sto) : Nat → R → Option PyData
  | _, .dat d => some d
  | _, .err _ _ => none
  | _, .lam _ _ => none
  | 0, _ => none
  | n + 1, .obj k => match S[k]? with
    | some (.lst rs) => (rs.mapM (snap S n)).map .list
    | _ => none
  | _ + 1, .ro _ => none
section
variable {K : Tb} {β : List Addr} {α α' : List (Option Addr)} {H H' : Hp} {S S' : Sto}
theorem mapM_all {n : Nat} (ih : ∀ (r : R) (v : V) (d : PyData), Vr K β α H r v → snap S n r = some d → Dq K (hid β H) v d) :
    ∀ {rs : List R} {vs : List V} {ds : List PyData}, Vrs K β α H rs vs → rs.mapM (snap S n) = some ds → DqAll K (hid β H) vs ds
  | [], _, ds, h, e => by
    cases h
    rw [List.mapM_nil] at e
    cases e
    exact .nil
  | r :: rs, _, ds, h, e => by
    cases h with
    | cons h t =>
      rw [List.mapM_cons] at e
      cases e1 : snap S n r with
      | none => rw [e1] at e; cases e
      | some d =>
        rw [e1] at e
        cases e2 : rs.mapM (snap S n) with
        | none =>
          rw [e2] at e
          cases e
        | some ds' =>
          rw [e2] at e
          cases e
          exact .cons (ih r _ d h e1) (mapM_all ih t e2)
theorem snap_dq (Rr : Rl K β α S H) : ∀ (n : Nat) (r : R) (v : V) (d : PyData), Vr K β α H r v → snap S n r = some d → Dq K (hid β H) v d := by
  have sub : Same (hid (blk β α) H) (hid β H) := fun a o h => by
    obtain ⟨n, q, nt⟩ := hid_some.mp h
    exact hid_some.mpr ⟨fun z => n (List.mem_append_left _ z), q, nt⟩
  intro n
  induction n with
  | zero =>
    intro r v d h e
    cases r with
    | dat d' => cases e; exact Dq.same sub h
    | obj k => cases e
    | ro l => cases e
    | err _ _ => cases e
    | lam _ _ => cases e
  | succ n ih =>
    intro r v d h e
    cases r with
    | dat d' => cases e; exact Dq.same sub h
    | ro l => cases e
    | err _ _ => cases e
    | lam _ _ => cases e
    | obj k =>
      unfold snap at e
      split at e
      · rename_i rs q
        cases e2 : rs.mapM (snap S n) with
        | none => rw [e2] at e; cases e
        | some ds =>
          rw [e2] at e
          cases e
          obtain ⟨a, vs, e1, e3, e4⟩ := Rr.cell k _ q
          have ev := h.2 a e1
          subst ev
          refine .lst (hid_some.mpr ⟨Rr.off a (mem_live.mpr ⟨k, e1⟩), e3, trivial⟩) (mapM_all (fun r v d => ih r v d) e4 e2)
      · cases e
theorem snap_dp (Rr : Rl K β α S H) {n : Nat} {r : R} {v : V} {d : PyData} (h : Vr K β α H r v) (e : snap S n r = some d) : Dp K H v d := Dq.dp (Dq.same hid_le (snap_dq Rr n r v d h e))
end

/-! ### a new list, a new tuple -/
def newL (own : Bool) (rs : List R) (S : Sto) : Out R := match own with
  | true => .ok (.obj S.length) (S ++ [.lst rs])
  | false => match datAll rs with
    | some ds => .ok (.dat (.list ds)) S
    | none => .stuck
def newT (rs : List R) (S : Sto) : Out R := match datAll rs with
  | some ds => .ok (.dat (.tuple ds)) S
  | none => .stuck
section
variable {T : Tb} {β : List Addr} {W : WX} {σ : L2.St} {α : List (Option Addr)} {H : Hp} {S : Sto}
theorem Rl.alloc {K : Tb} (Rr : Rl K β α S H) {p : Addr} {rs : List R} {vs : List V} (hp : H p = none) (hv : Vrs K β α H rs vs) :
    Rl K β (α ++ [some p]) (S ++ [.lst rs]) (upd H p (.lst vs)) ∧ Ext α H (α ++ [some p]) (upd H p (.lst vs)) := by
  have hl : ∀ {k : Nat} {a : Addr}, (α ++ [some p])[k]? = some (some a) → (k < α.length ∧ α[k]? = some (some a)) ∨ (k = α.length ∧ a = p) := by
    intro k a e
    by_cases z : k < α.length
    · rw [List.getElem?_append_left z] at e
      exact .inl ⟨z, e⟩
    · rw [List.getElem?_append_right (by omega)] at e
      by_cases y : k - α.length = 0
      · rw [y] at e
        cases e
        exact .inr ⟨by omega, rfl⟩
      · rw [List.getElem?_eq_none (by rw [List.length_singleton]; omega)] at e
        cases e
  have mem : ∀ {a : Addr}, a ∈ live (α ++ [some p]) → a ∈ live α ∨ a = p := fun h => by
    obtain ⟨k, hk⟩ := mem_live.mp h
    rcases hl hk with ⟨_, q⟩ | ⟨_, q⟩
    · exact .inl (mem_live.mpr ⟨k, q⟩)
    · exact .inr q
  have nl : ∀ {a : Addr}, a ∈ live α → a ≠ p := fun h e => by
    subst e
    exact Rr.at' _ h hp
  have ext : Ext α H (α ++ [some p]) (upd H p (.lst vs)) := {
    len := by rw [List.length_append]; omega
    old := fun k a h e => by
      rcases hl e with ⟨_, q⟩ | ⟨q, _⟩
      · exact q
      · omega
    new := fun k a h e => by
      rcases hl e with ⟨q, _⟩ | ⟨_, q⟩
      · omega
      · rw [q]; exact hp
    keep := fun b o _ _ q => by rw [upd_ne (ne_of_none q hp)]; exact q
    stay := fun b q => by
      by_cases z : b = p
      · subst z; exact absurd hp q
      · rw [upd_ne z]; exact q }
  refine ⟨{ len := by rw [List.length_append, List.length_append, Rr.len]; rfl, inj := ?_, off := ?_, bt := ?_, mt := ?_, cell := ?_, tab := Rr.tab.ext (same_new hp) }, ext⟩
  · intro k j a h1 h2
    rcases hl h1 with ⟨_, q1⟩ | ⟨q1, z1⟩
    · rcases hl h2 with ⟨_, q2⟩ | ⟨q2, z2⟩
      · exact Rr.inj k j a q1 q2
      · exact absurd z2 (nl (mem_live.mpr ⟨k, q1⟩))
    · rcases hl h2 with ⟨_, q2⟩ | ⟨q2, z2⟩
      · exact absurd z1 (nl (mem_live.mpr ⟨j, q2⟩))
      · omega
  · intro a h
    rcases mem h with q | q
    · exact Rr.off a q
    · rw [q]
      exact fun z => (Rr.bt p z).has hp
  · exact fun b h => by rw [upd_ne (fun z => (Rr.bt b h).has (by rw [z]; exact hp))]; exact Rr.bt b h
  · intro a h
    rcases mem h with q | q
    · rw [upd_ne (nl q)]; exact Rr.mt a q
    · rw [q, upd_same]; exact trivial
  · intro k rs' h
    by_cases z : k < S.length
    · rw [List.getElem?_append_left z] at h
      obtain ⟨a, ws, e1, e2, e3⟩ := Rr.cell k rs' h
      exact ⟨a, ws, by rw [List.getElem?_append_left (by rw [Rr.len]; exact z)]; exact e1, by rw [upd_ne (nl (mem_live.mpr ⟨k, e1⟩))]; exact e2, Vrs.ext ext e3⟩
    · rw [List.getElem?_append_right (by omega)] at h
      by_cases y : k - S.length = 0
      · rw [y] at h
        cases h
        have ek : k = α.length := by rw [Rr.len]; omega
        refine ⟨p, vs, ?_, upd_same, Vrs.ext ext hv⟩
        rw [ek, List.getElem?_append_right (Nat.le_refl _), Nat.sub_self]
        rfl
      · rw [List.getElem?_eq_none (by rw [List.length_singleton]; omega)] at h
        cases h
theorem newL_ok (Rr : Rl T β α S H) {own : Bool} {rs : List R} {vs : List V} {p : Addr} {Q : V → Hp → Prop} (hp : H p = none) (hv : Vrs T β α H rs vs)
    (h : PostG T β W (Vr T β) σ (newL own rs S) α H Q) : Q (.ref p) (upd H p (.lst vs)) := by
  cases own with
  | true =>
    obtain ⟨R1, X1⟩ := Rr.alloc hp hv
    refine h (α ++ [some p]) _ _ X1 R1 ⟨by rw [List.length_append, List.length_singleton, ← Rr.len]; omega, fun a e => ?_⟩
    rw [← Rr.len, List.getElem?_append_right (Nat.le_refl _), Nat.sub_self] at e
    cases e
    rfl
  | false =>
    unfold newL at h
    dsimp only at h
    split at h
    · rename_i ds e
      have e' := datAll_eq e
      subst e'
      have sm : Same H (upd H p (.lst vs)) := same_new hp
      exact h α _ _ (Ext.same sm) (Rr.same sm) (.lst (Rr.hidNew hp) (DqAll.same (Ext.same (α := α) sm).hid (Vrs.dq hv)))
    · exact h.elim
theorem newT_ok (Rr : Rl T β α S H) {rs : List R} {vs : List V} {p : Addr} {Q : V → Hp → Prop} (hp : H p = none) (hv : Vrs T β α H rs vs)
    (h : PostG T β W (Vr T β) σ (newT rs S) α H Q) : Q (.ref p) (upd H p (.tup vs)) := by
  unfold newT at h
  split at h
  · rename_i ds e
    have e' := datAll_eq e
    subst e'
    have sm : Same H (upd H p (.tup vs)) := same_new hp
    exact h α _ _ (Ext.same sm) (Rr.same sm) (.tup (.inl (.inl (Rr.hidNew hp))) (DqAll.same (Ext.same (α := α) sm).hid (Vrs.dq hv)))
  · exact h.elim
/-- an answer without a new thing -/
theorem old_ok (Rr : Rl T β α S H) {r : R} {v : V} {Q : V → Hp → Prop} (h : PostG T β W (Vr T β) σ (.ok r S) α H Q) (hv : Vr T β α H r v) : Q v H := h α H v Ext.refl Rr hv
/-- a cell is written -/
theorem Rl.write {K : Tb} (Rr : Rl K β α S H) {k : Nat} {rs rs' : List R} {a : Addr} {vs' : List V} (hk : S[k]? = some (.lst rs)) (ha : α[k]? = some (some a)) (hv : Vrs K β α H rs' vs') :
    Rl K β α (S.set k (.lst rs')) (upd H a (.lst vs')) ∧ Ext α H α (upd H a (.lst vs')) := by
  have hal : a ∈ live α := mem_live.mpr ⟨k, ha⟩
  have ext : Ext α H α (upd H a (.lst vs')) := {
    len := Nat.le_refl _
    old := fun _ _ _ h => h
    new := fun k a h e => by
      rw [List.getElem?_eq_none h] at e
      cases e
    keep := fun b o n _ q => by rw [upd_ne (fun z => n (by rw [z]; exact hal))]; exact q
    stay := fun b q => by
      by_cases z : b = a
      · rw [z, upd_same]; simp
      · rw [upd_ne z]; exact q }
  have tb : LamX.Tabs K.tabs (upd H a (.lst vs')) := by
    obtain ⟨a', vs, e1, e2, _⟩ := Rr.cell k rs hk
    rw [ha] at e1
    cases e1
    exact tabs_upd Rr.tab e2
  refine ⟨{ len := by rw [List.length_set]; exact Rr.len, inj := Rr.inj, off := Rr.off, bt := fun b h => (by
    by_cases z : b = a
    · rw [z, upd_same]; trivial
    · rw [upd_ne z]; exact Rr.bt b h), mt := fun b h => ?_, cell := ?_, tab := tb }, ext⟩
  · by_cases z : b = a
    · rw [z, upd_same]; exact trivial
    · rw [upd_ne z]; exact Rr.mt b h
  intro j qs h
  by_cases z : k = j
  · subst z
    rw [List.getElem?_set_self (List.getElem?_eq_some_iff.mp hk).1] at h
    cases h
    exact ⟨a, vs', ha, upd_same, Vrs.ext ext hv⟩
  · rw [List.getElem?_set_ne z] at h
    obtain ⟨b, ws, e1, e2, e3⟩ := Rr.cell j qs h
    refine ⟨b, ws, e1, ?_, Vrs.ext ext e3⟩
    rw [upd_ne (fun y => z (Rr.inj k j a ha (by rw [y] at e1; exact e1)))]
    exact e2
end
end Pev
/-! Pev, third part: expressions. -/
namespace Pev
open PySem PySem.Spec PyProof.Rows L2

/-! ### leaves -/
def eVar (i : Nat) : EM := fun ρ S => match ρ[i]? with
  | some (some (.err _ _)) => .stuck
  | some (some r) => .ok r S
  | _ => .stuck
def eC (d : PyData) : EM := fun _ S => .ok (.dat d) S
def eBin (g : R → R → Sto → Out R) (ma mb : EM) : EM := fun ρ S => (ma ρ S).bind fun x S1 => (mb ρ S1).bind fun y S2 => g x y S2
def eUn (g : R → Sto → Out R) (ma : EM) : EM := fun ρ S => (ma ρ S).bind fun x S1 => g x S1

section
variable {X : Cx} {T : Tb} {W : WX} {a b c e : Expr} {ma mb mc m : EM} {pos : Pos}
theorem tr_var (i : Nat) {x : Str} (hN : X.N[i]? = some x := by rfl) (hv : Vis X.env.scope x := by first | exact Or.inl rfl | exact Or.inr (Or.inl rfl) | exact Or.inr (Or.inr rfl)) (hd : (x == ("__debug__" : Str)) = false := by decide)
    (hcd : (x == ("__classdict__" : Str)) = false := by decide) : PE X (.Name x pos) (tE T W (eVar i)) := by
  refine pe_le (pv i hN hv hd hcd) fun σ H Q ⟨β, α, S, ρ, hR, hE, h⟩ => ?_
  unfold eVar at h
  split at h
  · exact h.elim
  · rename_i r n q
    obtain ⟨v, h1, h2⟩ := (hE.2 i r q).val fun c f e => n c f e
    exact ⟨v, h1, old_ok hR h h2⟩
  · exact h.elim
theorem tr_const {v : V} {d : PyData} (h : PE X e (tC v)) (hd : ∀ H, Dq T.K H v d) : PE X e (tE T W (eC d)) :=
  pe_le h fun _ _ _ ⟨_, _, _, _, hR, _, h⟩ => old_ok hR h (hd _)
theorem tr_int {i : Int} {j : Nat} : PE X (.Constant (.int i) j pos) (tE T W (eC (.int i))) := tr_const pe_int fun _ => .int i
theorem tr_bl {i : Bool} {j : Nat} : PE X (.Constant (.bool i) j pos) (tE T W (eC (.bool i))) := tr_const pe_bl fun _ => .bl i
theorem tr_non {j : Nat} : PE X (.Constant .none j pos) (tE T W (eC .none)) := tr_const pe_non fun _ => .non
theorem tr_str {x : Str} {j : Nat} : PE X (.Constant (.str x) j pos) (tE T W (eC (.str x))) := tr_const pe_str fun _ => .str x
/-- a constant of the module -/
theorem tr_glob {x : Str} {v : V} {u : Value} {d : PyData} (hg : Gl X x) (hm : X.mg x = some u) (r : RelV v u) (hd : ∀ H, Dq T.K H v d) (hdb : (x == ("__debug__" : Str)) = false := by decide) : PE X (.Name x pos) (tE T W (eC d)) :=
  tr_const (pe_glob hg hm r hdb) hd

/-! ### operators -/
/-- g answers for the rule r -/
def Snd2 (T : Tb) (r : R2) (g : R → R → Sto → Out R) : Prop :=
  ∀ (β : List Addr) (W : WX) (σ : L2.St) (α : List (Option Addr)) (S : Sto) (H : Hp) (x y : R) (v w : V) (Q : VK), Rl T β α S H → Vr T β α H x v → Vr T β α H y w →
    PostG T β W (Vr T β) σ (g x y S) α H Q → r v w H Q
def Snd1 (T : Tb) (r : V → Hp → VK → Prop) (g : R → Sto → Out R) : Prop :=
  ∀ (β : List Addr) (W : WX) (σ : L2.St) (α : List (Option Addr)) (S : Sto) (H : Hp) (x : R) (v : V) (Q : VK), Rl T β α S H → Vr T β α H x v →
    PostG T β W (Vr T β) σ (g x S) α H Q → r v H Q
theorem bin_le {r : R2} {g : R → R → Sto → Out R} (hs : Snd2 T r g) {σ : L2.St} {H : Hp} {Q : VK} (h : tE T W (eBin g ma mb) σ H Q) : tOp r (tE T W ma) (tE T W mb) σ H Q := by
  obtain ⟨β, α, S, ρ, hR, hE, h⟩ := h
  refine ⟨β, α, S, ρ, hR, hE, ?_⟩
  have h1 := PostG.bind (rel := Vr T β) (show PostG T β W (Vr T β) σ ((ma ρ S).bind fun x S1 => (mb ρ S1).bind fun y S2 => g x y S2) α H Q from h)
  cases q : ma ρ S with
  | stuck => rw [q] at h1; exact h1.elim
  | exc k f S1 => rw [q] at h1; exact h1
  | ok x S1 =>
    rw [q] at h1
    intro α1 H1 v e1 R1 V1
    obtain ⟨α1', S1', x', ex, e1', R1', V1', h2⟩ := h1 α1 H1 v e1 R1 V1
    cases ex
    refine ⟨β, α1', S1, ρ, R1', hE.ext e1', ?_⟩
    have h3 := PostG.bind (rel := Vr T β) h2
    cases q2 : mb ρ S1 with
    | stuck => rw [q2] at h3; exact h3.elim
    | exc k f S2 => rw [q2] at h3; exact h3
    | ok y S2 =>
      rw [q2] at h3
      intro α2 H2 w e2 R2 V2
      obtain ⟨α2', S2', y', ey, e2', R2', V2', h4⟩ := h3 α2 H2 w e2 R2 V2
      cases ey
      exact hs β W σ α2' S2 H2 x y v w Q R2' (V1'.ext e2') V2' h4
theorem un_le {r : V → Hp → VK → Prop} {g : R → Sto → Out R} (hs : Snd1 T r g) {σ : L2.St} {H : Hp} {Q : VK} (h : tE T W (eUn g ma) σ H Q) : tUn r (tE T W ma) σ H Q := by
  obtain ⟨β, α, S, ρ, hR, hE, h⟩ := h
  refine ⟨β, α, S, ρ, hR, hE, ?_⟩
  have h1 := PostG.bind (rel := Vr T β) (show PostG T β W (Vr T β) σ ((ma ρ S).bind fun x S1 => g x S1) α H Q from h)
  cases q : ma ρ S with
  | stuck => rw [q] at h1; exact h1.elim
  | exc k f S1 => rw [q] at h1; exact h1
  | ok x S1 =>
    rw [q] at h1
    intro α1 H1 v e1 R1 V1
    obtain ⟨α1', S1', x', ex, e1', R1', V1', h2⟩ := h1 α1 H1 v e1 R1 V1
    cases ex
    exact hs β W σ α1' S1 H1 x v Q R1' V1' h2
theorem tr_op {op : Operator} {r : R2} {g : R → R → Sto → Out R} (ho : OpR X (binaryOp op) r) (hs : Snd2 T r g) (ha : PE X a (tE T W ma)) (hb : PE X b (tE T W mb)) : PE X (.BinOp a op b pos) (tE T W (eBin g ma mb)) :=
  pe_le (pe_op ho ha hb) fun _ _ _ h => bin_le hs h
theorem tr_un {op : UnaryOp} {r : V → Hp → VK → Prop} {g : R → Sto → Out R} (ho : UnR X (unaryOp op) r) (hs : Snd1 T r g) (ha : PE X a (tE T W ma)) : PE X (.UnaryOp op a pos) (tE T W (eUn g ma)) :=
  pe_le (pe_un ho ha) fun _ _ _ h => un_le hs h
theorem tr_cmpR {op : CmpOp} {r : R2} {g : R → R → Sto → Out R} (ho : OpR X (compareOp op) r) (hs : Snd2 T r g) (ha : PE X a (tE T W ma)) (hb : PE X b (tE T W mb)) (hm : behindInMarks op b = false) :
    PE X (.Compare a [op] [b] pos) (tE T W (eBin g ma mb)) := pe_le (pe_cmpR ho ha hb hm) fun _ _ _ h => bin_le hs h
end
end Pev
/-! Pev, fourth part: the operators by values. -/
namespace Pev
open PySem PySem.Spec PyProof.Rows L2

section
variable {X : Cx} {T : Tb}
theorem vr_int {K : Tb} {β : List Addr} {α : List (Option Addr)} {H : Hp} {i : Int} {v : V} (h : Vr K β α H (.dat (.int i)) v) : v = .int i := by cases h; rfl
theorem vr_bl {K : Tb} {β : List Addr} {α : List (Option Addr)} {H : Hp} {i : Bool} {v : V} (h : Vr K β α H (.dat (.bool i)) v) : v = .bl i := by cases h; rfl
theorem vr_str {K : Tb} {β : List Addr} {α : List (Option Addr)} {H : Hp} {i : Str} {v : V} (h : Vr K β α H (.dat (.str i)) v) : v = .str i := by cases h; rfl
def ans (d : PyData) (S : Sto) : Out R := .ok (.dat d) S
theorem ans_int {T : Tb} {β : List Addr} {W : WX} {σ : L2.St} {α : List (Option Addr)} {H : Hp} {S : Sto} (Rr : Rl T β α S H) {i : Int} {Q : V → Hp → Prop} (h : PostG T β W (Vr T β) σ (ans (.int i) S) α H Q) : Q (.int i) H := old_ok Rr h (.int i)
theorem ans_bl {T : Tb} {β : List Addr} {W : WX} {σ : L2.St} {α : List (Option Addr)} {H : Hp} {S : Sto} (Rr : Rl T β α S H) {i : Bool} {Q : V → Hp → Prop} (h : PostG T β W (Vr T β) σ (ans (.bool i) S) α H Q) : Q (.bl i) H := old_ok Rr h (.bl i)
theorem ans_str {T : Tb} {β : List Addr} {W : WX} {σ : L2.St} {α : List (Option Addr)} {H : Hp} {S : Sto} (Rr : Rl T β α S H) {i : Str} {Q : V → Hp → Prop} (h : PostG T β W (Vr T β) σ (ans (.str i) S) α H Q) : Q (.str i) H := old_ok Rr h (.str i)

/-! ### + -/
def bAdd (own : Bool) (x y : R) (S : Sto) : Out R :=
  match x, y with
  | .dat (.int i), .dat (.int j) => ans (.int (i + j)) S
  | .dat (.int i), .dat (.bool k) => ans (.int (i + b2i k)) S
  | .dat (.str s), .dat (.str t) => if s.length + t.length ≤ sizeLine then ans (.str (s ++ t)) S else .stuck
  | .dat (.tuple ds), .dat (.tuple es) => if ds.length + es.length ≤ sizeLine then ans (.tuple (ds ++ es)) S else .stuck
  | _, _ => match lvt S x, lvt S y with
    | some rs, some qs => if rs.length + qs.length ≤ sizeLine then newL own (rs ++ qs) S else .stuck
    | _, _ => .stuck
def rAddU (K : PySem.W.Frag) : R2 := fun x y H Q => ((rI0 fun i j => .int (i + j)) x y H Q) ∨ (∃ i k, x = .int i ∧ y = .bl k ∧ Q (.int (i + b2i k)) H) ∨ (∃ i j, x = .str i ∧ y = .str j ∧ i.length + j.length ≤ sizeLine ∧ Q (.str (i ++ j)) H) ∨ rCatA K x y H Q ∨ rCat x y H Q
theorem op_addU : OpR X (binaryOp .Add) (rAddU X.K) := op_add.or (op_add_ib.or (op_add_str.or (op_catA.or op_cat)))
theorem snd_add (own : Bool) : Snd2 T (rAddU T.K) (bAdd own) := by
  intro β W σ α S H x y v w Q Rr hx hy h
  unfold bAdd at h
  split at h
  · cases vr_int hx; cases vr_int hy; exact .inl ⟨_, _, rfl, rfl, ans_int Rr h⟩
  · cases vr_int hx; cases vr_bl hy; exact .inr (.inl ⟨_, _, rfl, rfl, ans_int Rr h⟩)
  · cases vr_str hx; cases vr_str hy
    split at h
    · rename_i hz
      exact .inr (.inr (.inl ⟨_, _, rfl, rfl, hz, ans_str Rr h⟩))
    · exact h.elim
  · rename_i ds es
    split at h
    · rename_i hz
      obtain ⟨a, vs, rfl, h1, h2⟩ := tv_ok (ds := ds) hx rfl
      obtain ⟨b, ws, rfl, h3, h4⟩ := tv_ok (ds := es) hy rfl
      have l1 := DqAll.length h2
      have l2 := DqAll.length h4
      refine .inr (.inr (.inr (.inl ⟨a, b, vs, ws, rfl, rfl, h1, h3, by rw [l1, l2]; exact hz, fun e => ?_, fun e1 e2 => ?_, fun _ _ p hp => ?_⟩)))
      · subst e
        cases h2
        exact old_ok Rr h hy
      · subst e2
        cases h4
        rw [List.append_nil] at h
        exact old_ok Rr h hx
      · refine newT_ok (rs := (ds ++ es).map .dat) Rr hp ?_ (by unfold newT; rw [datAll_map]; exact h)
        exact DqAll.vrs (DqAll.append h2 h4)
    · exact h.elim
  · split at h
    · rename_i rs qs e1 e2
      split at h
      · rename_i hz
        obtain ⟨a, vs, rfl, h1, h2⟩ := lvt_ok Rr hx e1
        obtain ⟨b, ws, rfl, h3, h4⟩ := lvt_ok Rr hy e2
        refine .inr (.inr (.inr (.inr ⟨a, b, vs, ws, rfl, rfl, h1, h3, by rw [← h2.length, ← h4.length]; exact hz, fun p hp => ?_⟩)))
        exact newL_ok Rr hp (Vrs.append h2 h4) h
      · exact h.elim
    · exact h.elim

/-! ### ints -/
def bSub (x y : R) (S : Sto) : Out R := match x, y with
  | .dat (.int i), .dat (.int j) => ans (.int (i - j)) S
  | _, _ => .stuck
theorem snd_sub : Snd2 T (rI0 fun i j => .int (i - j)) bSub := by
  intro β W σ α S H x y v w Q Rr hx hy h
  unfold bSub at h
  split at h
  · cases vr_int hx; cases vr_int hy; exact ⟨_, _, rfl, rfl, ans_int Rr h⟩
  · exact h.elim
def mulOk (i j : Int) : Bool := decide (i.natAbs < 18446744073709551616) || decide (j.natAbs < 18446744073709551616)
theorem mulOk_c {i j : Int} (h : mulOk i j = true) : CMul i j := by
  unfold mulOk at h
  rw [Bool.or_eq_true] at h
  rcases h with h | h
  · have h := of_decide_eq_true h
    exact .inl ⟨by omega, by omega⟩
  · have h := of_decide_eq_true h
    exact .inr ⟨by omega, by omega⟩
/-- ints, and a list so many times -/
def bMul (own : Bool) (x y : R) (S : Sto) : Out R := match x, y with
  | .dat (.int i), .dat (.int j) => if mulOk i j then ans (.int (i * j)) S else .stuck
  | _, .dat (.int k) => match lvt S x with
    | some rs => if -(2 ^ 63) ≤ k ∧ k < 2 ^ 63 ∧ rs.length * k.toNat ≤ sizeLine then newL own (List.replicate k.toNat rs).flatten S else .stuck
    | none => .stuck
  | _, _ => .stuck
def rMulU : R2 := fun x y H Q => (rI CMul fun i j => .int (i * j)) x y H Q ∨ rRep x y H Q
theorem op_mulU : OpR X (binaryOp .Mult) rMulU := op_mul.or op_rep
theorem Vrs.rep {K : Tb} {β : List Addr} {α : List (Option Addr)} {H : Hp} {rs : List R} {vs : List V} (h : Vrs K β α H rs vs) : ∀ k : Nat, Vrs K β α H (List.replicate k rs).flatten (List.replicate k vs).flatten
  | 0 => .nil
  | k + 1 => by
    rw [List.replicate_succ, List.replicate_succ, List.flatten_cons, List.flatten_cons]
    exact Vrs.append h (Vrs.rep h k)
theorem snd_mul (own : Bool) : Snd2 T rMulU (bMul own) := by
  intro β W σ α S H x y v w Q Rr hx hy h
  unfold bMul at h
  split at h
  · cases vr_int hx; cases vr_int hy
    split at h
    · rename_i hc
      exact .inl ⟨_, _, rfl, rfl, mulOk_c hc, ans_int Rr h⟩
    · exact h.elim
  · cases vr_int hy
    split at h
    · rename_i rs e
      split at h
      · rename_i hz
        obtain ⟨a, vs, rfl, h1, h2⟩ := lvt_ok Rr hx e
        exact .inr ⟨a, _, vs, rfl, rfl, h1, hz.1, hz.2.1, by rw [← h2.length]; exact hz.2.2, fun p hp => newL_ok Rr hp (h2.rep _) h⟩
      · exact h.elim
    · exact h.elim
  · exact h.elim
def bDiv (x y : R) (S : Sto) : Out R := match x, y with
  | .dat (.int i), .dat (.int j) => if j ≠ 0 ∧ j.natAbs < 1073741824 then ans (.int (i.fdiv j)) S else .stuck
  | _, _ => .stuck
theorem snd_div : Snd2 T (rI CDivN fun i j => .int (i.fdiv j)) bDiv := by
  intro β W σ α S H x y v w Q Rr hx hy h
  unfold bDiv at h
  split at h
  · cases vr_int hx; cases vr_int hy
    split at h
    · rename_i hc
      exact ⟨_, _, rfl, rfl, hc, ans_int Rr h⟩
    · exact h.elim
  · exact h.elim
def bMod (x y : R) (S : Sto) : Out R := match x, y with
  | .dat (.int i), .dat (.int j) => if j ≠ 0 then ans (.int (i.fmod j)) S else .stuck
  | _, _ => .stuck
theorem snd_mod : Snd2 T (rI (fun _ j => j ≠ 0) fun i j => .int (i.fmod j)) bMod := by
  intro β W σ α S H x y v w Q Rr hx hy h
  unfold bMod at h
  split at h
  · cases vr_int hx; cases vr_int hy
    split at h
    · rename_i hc
      exact ⟨_, _, rfl, rfl, hc, ans_int Rr h⟩
    · exact h.elim
  · exact h.elim
def bPow (x y : R) (S : Sto) : Out R := match x, y with
  | .dat (.int i), .dat (.int j) => if 0 ≤ j ∧ j ≤ 1000000 ∧ i.natAbs < 18446744073709551616 then ans (.int (i ^ j.toNat)) S else .stuck
  | _, _ => .stuck
theorem snd_pow : Snd2 T (rI CPow fun i j => .int (i ^ j.toNat)) bPow := by
  intro β W σ α S H x y v w Q Rr hx hy h
  unfold bPow at h
  split at h
  · cases vr_int hx; cases vr_int hy
    split at h
    · rename_i hc
      exact ⟨_, _, rfl, rfl, hc, ans_int Rr h⟩
    · exact h.elim
  · exact h.elim
def uNeg (x : R) (S : Sto) : Out R := match x with
  | .dat (.int i) => ans (.int (-i)) S
  | _ => .stuck
theorem snd_neg : Snd1 T (rU fun i => .int (-i)) uNeg := by
  intro β W σ α S H x v Q Rr hx h
  unfold uNeg at h
  split at h
  · cases vr_int hx; exact ⟨_, rfl, ans_int Rr h⟩
  · exact h.elim

/-! ### comparisons -/
def bEq (neg : Bool) (x y : R) (S : Sto) : Out R := match snap S 4 x, snap S 4 y with
  | some d, some e => if SeqAt.shaped d && SeqAt.shaped e then ans (.bool (if neg then !PyData.eqv d e else PyData.eqv d e)) S else .stuck
  | _, _ => .stuck
theorem snd_eq : Snd2 T (rEqD T.K) (bEq false) := by
  intro β W σ α S H x y v w Q Rr hx hy h
  unfold bEq at h
  split at h
  · rename_i d e e1 e2
    split at h
    · rename_i hc
      rw [Bool.and_eq_true] at hc
      exact ⟨d, e, snap_dp Rr hx e1, snap_dp Rr hy e2, hc.1, hc.2, ans_bl Rr h⟩
    · exact h.elim
  · exact h.elim
theorem snd_ne : Snd2 T (rNeD T.K) (bEq true) := by
  intro β W σ α S H x y v w Q Rr hx hy h
  unfold bEq at h
  split at h
  · rename_i d e e1 e2
    split at h
    · rename_i hc
      rw [Bool.and_eq_true] at hc
      exact ⟨d, e, snap_dp Rr hx e1, snap_dp Rr hy e2, hc.1, hc.2, ans_bl Rr h⟩
    · exact h.elim
  · exact h.elim
def bLt (x y : R) (S : Sto) : Out R := match x, y with
  | .dat (.int i), .dat (.int j) => ans (.bool (decide (i < j))) S
  | .dat (.str i), .dat (.str j) => ans (.bool (decide (i.cps.toList < j.cps.toList))) S
  | _, _ => .stuck
def bLe (x y : R) (S : Sto) : Out R := match x, y with
  | .dat (.int i), .dat (.int j) => ans (.bool (decide (i ≤ j))) S
  | .dat (.str i), .dat (.str j) => ans (.bool (!decide (j.cps.toList < i.cps.toList))) S
  | _, _ => .stuck
def bGt (x y : R) (S : Sto) : Out R := match x, y with
  | .dat (.int i), .dat (.int j) => ans (.bool (decide (j < i))) S
  | .dat (.str i), .dat (.str j) => ans (.bool (decide (j.cps.toList < i.cps.toList))) S
  | _, _ => .stuck
def bGe (x y : R) (S : Sto) : Out R := match x, y with
  | .dat (.int i), .dat (.int j) => ans (.bool (decide (j ≤ i))) S
  | .dat (.str i), .dat (.str j) => ans (.bool (!decide (i.cps.toList < j.cps.toList))) S
  | _, _ => .stuck
def rOrd (p : Int → Int → Bool) (q : Str → Str → Bool) : R2 := fun x y H Q => (rI0 fun i j => .bl (p i j)) x y H Q ∨ ∃ i j, x = .str i ∧ y = .str j ∧ Q (.bl (q i j)) H
theorem op_ltU : OpR X (compareOp .Lt) (rOrd (fun i j => decide (i < j)) fun i j => decide (i.cps.toList < j.cps.toList)) := op_lt.or op_lt_str
theorem op_leU : OpR X (compareOp .LtE) (rOrd (fun i j => decide (i ≤ j)) fun i j => !decide (j.cps.toList < i.cps.toList)) := op_le.or op_le_str
theorem op_gtU : OpR X (compareOp .Gt) (rOrd (fun i j => decide (j < i)) fun i j => decide (j.cps.toList < i.cps.toList)) := op_gt.or op_gt_str
theorem op_geU : OpR X (compareOp .GtE) (rOrd (fun i j => decide (j ≤ i)) fun i j => !decide (i.cps.toList < j.cps.toList)) := op_ge.or op_ge_str
theorem snd_lt : Snd2 T (rOrd (fun i j => decide (i < j)) fun i j => decide (i.cps.toList < j.cps.toList)) bLt := by
  intro β W σ α S H x y v w Q Rr hx hy h
  unfold bLt at h
  split at h
  · cases vr_int hx; cases vr_int hy; exact .inl ⟨_, _, rfl, rfl, ans_bl Rr h⟩
  · cases vr_str hx; cases vr_str hy; exact .inr ⟨_, _, rfl, rfl, ans_bl Rr h⟩
  · exact h.elim
theorem snd_le : Snd2 T (rOrd (fun i j => decide (i ≤ j)) fun i j => !decide (j.cps.toList < i.cps.toList)) bLe := by
  intro β W σ α S H x y v w Q Rr hx hy h
  unfold bLe at h
  split at h
  · cases vr_int hx; cases vr_int hy; exact .inl ⟨_, _, rfl, rfl, ans_bl Rr h⟩
  · cases vr_str hx; cases vr_str hy; exact .inr ⟨_, _, rfl, rfl, ans_bl Rr h⟩
  · exact h.elim
theorem snd_gt : Snd2 T (rOrd (fun i j => decide (j < i)) fun i j => decide (j.cps.toList < i.cps.toList)) bGt := by
  intro β W σ α S H x y v w Q Rr hx hy h
  unfold bGt at h
  split at h
  · cases vr_int hx; cases vr_int hy; exact .inl ⟨_, _, rfl, rfl, ans_bl Rr h⟩
  · cases vr_str hx; cases vr_str hy; exact .inr ⟨_, _, rfl, rfl, ans_bl Rr h⟩
  · exact h.elim
theorem snd_ge : Snd2 T (rOrd (fun i j => decide (j ≤ i)) fun i j => !decide (i.cps.toList < j.cps.toList)) bGe := by
  intro β W σ α S H x y v w Q Rr hx hy h
  unfold bGe at h
  split at h
  · cases vr_int hx; cases vr_int hy; exact .inl ⟨_, _, rfl, rfl, ans_bl Rr h⟩
  · cases vr_str hx; cases vr_str hy; exact .inr ⟨_, _, rfl, rfl, ans_bl Rr h⟩
  · exact h.elim
/-- is None -/
def isNone? (S : Sto) : R → Option Bool
  | .dat .none => some true
  | .dat _ => some false
  | .obj k => match S[k]? with
    | some (.lst _) => some false
    | _ => none
  | .ro _ => some false
  | .err _ _ => some false
  | .lam _ _ => none
def bIsN (neg : Bool) (x y : R) (S : Sto) : Out R := match y, isNone? S x with
  | .dat .none, some b => ans (.bool (if neg then !b else b)) S
  | _, _ => .stuck
end
end Pev
/-! Pev, fifth part: in, places, slices, displays, tests. -/
namespace Pev
open PySem PySem.Spec PyProof.Rows L2

/-! ### in -/
def rInTp (K : PySem.W.Frag) (neg : Bool) : R2 := fun x y H Q => ∃ d ds, Dp K H x d ∧ Dp K H y (.tuple ds) ∧ SeqAt.shaped d = true ∧ SeqAt.shaped (.tuple ds) = true ∧ Q (.bl (if neg then !ds.any (fun z => PyData.eqv z d) else ds.any fun z => PyData.eqv z d)) H
section
variable {X : Cx} {T : Tb}
theorem op_notInTp (hu : X.A.units + 65 < cLine) : OpR X (compareOp .NotIn) (rInTp X.K true) := by
  intro pins s σ H x y v u Q I rx ry h
  obtain ⟨d, ds, hd, he, sd, se, q⟩ := h
  obtain ⟨as, r1⟩ := Dp.reads I d x v hd rx
  obtain ⟨bs, r2⟩ := Dp.reads I (.tuple ds) y u he ry
  exact SeqAt.notIn_tuple_reads r2 r1 (SeqAt.canLay_of_shaped se) (SeqAt.canLay_of_shaped sd) (room_in_shaped sd hu) ⟨.bl _, H, I, rfl, q⟩
def inAns (neg : Bool) (b : Bool) (S : Sto) : Out R := ans (.bool (if neg then !b else b)) S
def bIn (neg : Bool) (x y : R) (S : Sto) : Out R := match snap S 4 x, snap S 4 y with
  | some d, some (.list ds) => if SeqAt.shaped d && SeqAt.shaped (.list ds) then inAns neg (ds.any fun z => PyData.eqv z d) S else .stuck
  | some d, some (.tuple ds) => if SeqAt.shaped d && SeqAt.shaped (.tuple ds) then inAns neg (ds.any fun z => PyData.eqv z d) S else .stuck
  | some (.str i), some (.str j) => inAns neg (!(Builtin.Str.occurrences j i 0 j.length 1).isEmpty) S
  | _, _ => .stuck
def rNotInU (K : PySem.W.Frag) : R2 := fun x y H Q => rNotInD K x y H Q ∨ rInTp K true x y H Q ∨ ∃ i j, x = .str i ∧ y = .str j ∧ Q (.bl (!(!(Builtin.Str.occurrences j i 0 j.length 1).isEmpty))) H
theorem op_notInU (hu : X.A.units + 65 < cLine) : OpR X (compareOp .NotIn) (rNotInU X.K) := (op_notInD hu).or ((op_notInTp hu).or op_notIn_str)
theorem snap_str {K : Tb} {β : List Addr} {α : List (Option Addr)} {H : Hp} {S : Sto} (Rr : Rl K β α S H) {n : Nat} {x : R} {v : V} {z : Str} (h : Vr K β α H x v) (e : snap S n x = some (.str z)) : v = .str z := by
  cases snap_dp Rr h e
  rfl
theorem snd_notIn : Snd2 T (rNotInU T.K) (bIn true) := by
  intro β W σ α S H x y v w Q Rr hx hy h
  unfold bIn at h
  split at h
  · rename_i d ds e1 e2
    split at h
    · rename_i hc
      rw [Bool.and_eq_true] at hc
      exact .inl ⟨d, ds, snap_dp Rr hx e1, snap_dp Rr hy e2, hc.1, hc.2, ans_bl Rr h⟩
    · exact h.elim
  · rename_i d ds e1 e2
    split at h
    · rename_i hc
      rw [Bool.and_eq_true] at hc
      exact .inr (.inl ⟨d, ds, snap_dp Rr hx e1, snap_dp Rr hy e2, hc.1, hc.2, ans_bl Rr h⟩)
    · exact h.elim
  · rename_i i j e1 e2
    exact .inr (.inr ⟨i, j, snap_str Rr hx e1, snap_str Rr hy e2, ans_bl Rr h⟩)
  · exact h.elim

/-! ### x[i] -/
def bIx (x y : R) (S : Sto) : Out R := match y with
  | .dat (.int i) => match x with
    | .dat (.str z) => if z.length ≤ sizeLine then (match atI z.cps.toList i with
      | some c => ans (.str ⟨#[c]⟩) S
      | none => .stuck) else .stuck
    | .dat (.tuple ds) => (match atI ds i with
      | some d => ans d S
      | none => .stuck)
    | _ => match lv S x with
      | some rs => (match atI rs i with
        | some r => .ok r S
        | none => .stuck)
      | none => .stuck
  | _ => .stuck
theorem atI_rel {K : Tb} {β : List Addr} {α : List (Option Addr)} {H : Hp} {rs : List R} {vs : List V} (h : Vrs K β α H rs vs) {i : Int} {r : R} (e : atI rs i = some r) : ∃ v, atI vs i = some v ∧ Vr K β α H r v := by
  unfold atI at e ⊢
  rw [← h.length]
  cases q : ixN rs.length i with
  | none => rw [q] at e; cases e
  | some j =>
    rw [q] at e
    obtain ⟨v, e1, e2⟩ := h.get (i := j) (r := r) e
    exact ⟨v, e1, e2⟩
theorem atI_dat {ds : List PyData} {i : Int} {d : PyData} (e : atI ds i = some d) : atI (ds.map R.dat) i = some (.dat d) := by
  unfold atI at e ⊢
  rw [List.length_map]
  cases q : ixN ds.length i with
  | none => rw [q] at e; cases e
  | some j =>
    rw [q] at e
    show (ds.map R.dat)[j]? = some (.dat d)
    have e' : ds[j]? = some d := e
    rw [List.getElem?_map, e']
    rfl
theorem snd_ix : Snd2 T (rIx T.K) bIx := by
  intro β W σ α S H x y v w Q Rr hx hy h
  unfold bIx at h
  split at h
  · cases vr_int hy
    split at h
    · cases vr_str hx
      split at h
      · rename_i hz
        split at h
        · rename_i c e
          exact .inr (.inr ⟨_, _, c, rfl, rfl, hz, e, ans_str Rr h⟩)
        · exact h.elim
      · exact h.elim
    · rename_i ds
      split at h
      · rename_i d e
        obtain ⟨a, vs, rfl, h1, h2⟩ := tv_ok (ds := ds) hx rfl
        obtain ⟨u, e1, e2⟩ := atI_rel (DqAll.vrs h2) (atI_dat e)
        exact .inr (.inl ⟨a, vs, _, u, rfl, rfl, h1, e1, old_ok Rr h e2⟩)
      · exact h.elim
    · split at h
      · rename_i rs e
        split at h
        · rename_i r e2
          obtain ⟨a, vs, rfl, h1, h2⟩ := lv_ok Rr hx e
          obtain ⟨u, e3, e4⟩ := atI_rel h2 e2
          exact .inl ⟨a, vs, _, u, rfl, rfl, h1, e3, old_ok Rr h e4⟩
        · exact h.elim
      · exact h.elim
  · exact h.elim
theorem tr_ix {W : WX} {a b : Expr} {ma mb : EM} {pos : Pos} (hK : X.K = T.K) (ha : PE X a (tE T W ma)) (hb : PE X b (tE T W mb)) (hs : PlainIx b := by exact fun _ _ => rfl) : PE X (.Subscript a b pos) (tE T W (eBin bIx ma mb)) :=
  pe_le (pe_ix ix_seq ha hb hs) fun _ _ _ h => bin_le (by rw [hK]; exact snd_ix) h

/-! ### x[a:b] -/
def cutR {α : Type} (xs : List α) (lo hi : Option Int) : List α := (xs.drop (HT.sIx xs.length 0 lo)).take (HT.sIx xs.length xs.length hi - HT.sIx xs.length 0 lo)
def toI (y : R) (S : Sto) : Out (Option Int) := match y with
  | .dat (.int i) => .ok (some i) S
  | _ => .stuck
def oPart (l : Option EM) (ρ : Rho) (S : Sto) : Out (Option Int) := match l with
  | none => .ok none S
  | some ml => (ml ρ S).bind toI
def gSl (own : Bool) (x : R) (lo hi : Option Int) (S : Sto) : Out R := match x with
  | .dat (.str z) => if z.length ≤ sizeLine then ans (.str (cutS z lo hi)) S else .stuck
  | .dat (.tuple ds) => ans (.tuple (cutR ds lo hi)) S
  | _ => match lv S x with
    | some rs => newL own (cutR rs lo hi) S
    | none => .stuck
def eSl (own : Bool) (m : EM) (l h : Option EM) : EM := fun ρ S => (m ρ S).bind fun x S1 => (oPart l ρ S1).bind fun lo S2 => (oPart h ρ S2).bind fun hi S3 => gSl own x lo hi S3
def rSlU (K : PySem.W.Frag) : V → Option Int → Option Int → Hp → VK → Prop := fun x lo hi H Q => rSlL K x lo hi H Q ∨ rSlA K x lo hi H Q ∨ rSlS x lo hi H Q
theorem sl_U : SlR X (rSlU X.K) := sl_list.or (sl_tupA.or sl_str)
end
theorem cutR_rel {K : Tb} {β : List Addr} {α : List (Option Addr)} {H : Hp} {rs : List R} {vs : List V} (h : Vrs K β α H rs vs) (lo hi : Option Int) : Vrs K β α H (cutR rs lo hi) (cutV vs lo hi) := by
  unfold cutR cutV
  rw [← h.length]
  exact (h.drop _).take _
theorem cutR_map (ds : List PyData) (lo hi : Option Int) : cutR (ds.map R.dat) lo hi = (cutR ds lo hi).map .dat := by
  unfold cutR
  rw [List.length_map, ← List.map_drop, ← List.map_take]
theorem sIx_whole {n : Nat} {α : Type} {xs : List α} (hn : xs.length = n) {lo hi : Option Int} (h : HT.sIx n 0 lo = 0 ∧ HT.sIx n n hi = n) : cutR xs lo hi = xs := by
  unfold cutR
  rw [hn, h.1, h.2, List.drop_zero, Nat.sub_zero, ← hn, List.take_length]
section
variable {X : Cx} {T : Tb} {W : WX} {e : Expr} {m : EM}
/-- a part of a slice -/
def tO (T : Tb) (W : WX) (l : Option EM) : TO := match l with
  | none => tNoPart
  | some m => tPart (tE T W m)
theorem part_le {β : List Addr} {σ : L2.St} {α : List (Option Addr)} {H : Hp} {S : Sto} {ρ : Rho} {l : Option EM} {f : Option Int → Sto → Out R} {Q : VK} {Q' : Option Int → Hp → Prop} (hR : Rl T β α S H) (hE : Er T β α H σ ρ)
    (h : PostG T β W (Vr T β) σ ((oPart l ρ S).bind f) α H Q) (k : ∀ i α1 S1 H1, Ext α H α1 H1 → Rl T β α1 S1 H1 → PostG T β W (Vr T β) σ (f i S1) α1 H1 Q → Q' i H1) : tO T W l σ H Q' := by
  cases l with
  | none => exact k none α S H Ext.refl hR h
  | some m =>
    refine ⟨β, α, S, ρ, hR, hE, ?_⟩
    have h' : PostG T β W (Vr T β) σ (((m ρ S).bind toI).bind f) α H Q := h
    cases q : m ρ S with
    | stuck => rw [q] at h'; exact h'.elim
    | exc k f S1 => rw [q] at h'; exact h'
    | ok y S1 =>
      rw [q] at h'
      intro α1 H1 w x1 R1 V1
      cases y with
      | dat d =>
        cases d with
        | int i => exact ⟨i, vr_int V1, k (some i) α1 S1 H1 x1 R1 (PostG.on x1 h')⟩
        | _ => exact h'.elim
      | _ => exact h'.elim
theorem gSl_ok {β : List Addr} {σ : L2.St} {α : List (Option Addr)} {H : Hp} {S : Sto} {own : Bool} {x : R} {v : V} {lo hi : Option Int} {Q : VK} (Rr : Rl T β α S H) (hx : Vr T β α H x v)
    (h : PostG T β W (Vr T β) σ (gSl own x lo hi S) α H Q) : rSlU T.K v lo hi H Q := by
  unfold gSl at h
  split at h
  · cases vr_str hx
    split at h
    · rename_i hz
      exact .inr (.inr ⟨_, rfl, hz, ans_str Rr h⟩)
    · exact h.elim
  · rename_i ds
    obtain ⟨a, vs, rfl, q1, q2⟩ := tv_ok (ds := ds) hx rfl
    refine .inr (.inl ⟨a, vs, rfl, q1, fun hw => ?_, fun hw p hp => ?_⟩)
    · rw [sIx_whole (DqAll.length q2).symm hw] at h
      exact old_ok Rr h hx
    · refine newT_ok (rs := (cutR ds lo hi).map .dat) Rr hp ?_ (by unfold newT; rw [datAll_map]; exact h)
      rw [← cutR_map]
      exact cutR_rel (DqAll.vrs q2) lo hi
  · split at h
    · rename_i rs e2
      obtain ⟨a, vs, rfl, q1, q2⟩ := lv_ok Rr hx e2
      exact .inl ⟨a, vs, rfl, q1, fun p hp => newL_ok Rr hp (cutR_rel q2 lo hi) h⟩
    · exact h.elim
theorem slice_le (hK : X.K = T.K) {own : Bool} {l h : Option EM} {σ : L2.St} {H : Hp} {Q : VK} (q : tE T W (eSl own m l h) σ H Q) : tSl (rSlU X.K) (tE T W m) (tO T W l) (tO T W h) σ H Q := by
  rw [hK]
  obtain ⟨β, α, S, ρ, hR, hE, hp⟩ := q
  refine ⟨β, α, S, ρ, hR, hE, ?_⟩
  have h1 := PostG.bind (rel := Vr T β) hp
  cases q : m ρ S with
  | stuck => rw [q] at h1; exact h1.elim
  | exc k f S1 => rw [q] at h1; exact h1
  | ok x S1 =>
    rw [q] at h1
    intro α1 H1 v e1 R1 V1
    obtain ⟨α1', S1', x', ex, e1', R1', V1', h2⟩ := h1 α1 H1 v e1 R1 V1
    cases ex
    refine part_le R1' (hE.ext e1') h2 fun lo α2 S2 H2 x2 R2 h3 => ?_
    exact part_le R2 ((hE.ext e1').ext x2) h3 fun hi α3 S3 H3 x3 R3 h4 => gSl_ok R3 ((V1'.ext x2).ext x3) h4
end
section
variable {X : Cx} {T : Tb} {W : WX} {e lo hi : Expr} {m ml mh : EM} {p2 pos : Pos}
theorem tr_sl10 (own : Bool) (hK : X.K = T.K) (he : PE X e (tE T W m)) (hl : PE X lo (tE T W ml)) : PE X (.Subscript e (.Slice (some lo) none none p2) pos) (tE T W (eSl own m (some ml) none)) :=
  pe_le (pe_slice sl_U he (po_some hl) po_none) fun _ _ _ h => slice_le hK h
theorem tr_sl01 (own : Bool) (hK : X.K = T.K) (he : PE X e (tE T W m)) (hh : PE X hi (tE T W mh)) : PE X (.Subscript e (.Slice none (some hi) none p2) pos) (tE T W (eSl own m none (some mh))) :=
  pe_le (pe_slice sl_U he po_none (po_some hh)) fun _ _ _ h => slice_le hK h
theorem tr_sl11 (own : Bool) (hK : X.K = T.K) (he : PE X e (tE T W m)) (hl : PE X lo (tE T W ml)) (hh : PE X hi (tE T W mh)) : PE X (.Subscript e (.Slice (some lo) (some hi) none p2) pos) (tE T W (eSl own m (some ml) (some mh))) :=
  pe_le (pe_slice sl_U he (po_some hl) (po_some hh)) fun _ _ _ h => slice_le hK h
/-- xs[::-1] of a list -/
def uRev (own : Bool) (x : R) (S : Sto) : Out R := match lv S x with
  | some rs => newL own rs.reverse S
  | none => .stuck
end

/-! ### arguments, displays -/
def aNil : EMs := fun _ S => .ok [] S
def aCons (m : EM) (ms : EMs) : EMs := fun ρ S => (m ρ S).bind fun x S1 => (ms ρ S1).bind fun xs S2 => .ok (x :: xs) S2
def eArgs (g : List R → Sto → Out R) (ms : EMs) : EM := fun ρ S => (ms ρ S).bind fun xs S1 => g xs S1
def SndA (T : Tb) (r : List V → Hp → VK → Prop) (g : List R → Sto → Out R) : Prop :=
  ∀ (β : List Addr) (W : WX) (σ : L2.St) (α : List (Option Addr)) (S : Sto) (H : Hp) (xs : List R) (vs : List V) (Q : VK), Rl T β α S H → Vrs T β α H xs vs →
    PostG T β W (Vr T β) σ (g xs S) α H Q → r vs H Q
section
variable {X : Cx} {T : Tb} {W : WX} {e : Expr} {es : List Expr} {m : EM} {ms : EMs} {pos : Pos}
theorem tr_nil : PA X [] (tA T W aNil) := pa_le pa_nil fun _ H Q ⟨_, _, _, _, hR, _, h⟩ => h _ H [] Ext.refl hR .nil
theorem tr_cons (ha : PE X e (tE T W m)) (hr : PA X es (tA T W ms)) (hs : starEach (e :: es) X.env = (false, eval e X.env) :: starEach es X.env := by rfl) : PA X (e :: es) (tA T W (aCons m ms)) := by
  refine pa_le (pa_cons ha hr hs) fun σ H Q ⟨β, α, S, ρ, hR, hE, h⟩ => ?_
  refine ⟨β, α, S, ρ, hR, hE, ?_⟩
  have h1 := PostG.bind (rel := Vr T β) (show PostG T β W (Vrs T β) σ ((m ρ S).bind fun x S1 => (ms ρ S1).bind fun xs S2 => .ok (x :: xs) S2) α H Q from h)
  cases q : m ρ S with
  | stuck => rw [q] at h1; exact h1.elim
  | exc k f S1 => rw [q] at h1; exact h1
  | ok x S1 =>
    rw [q] at h1
    intro α1 H1 v e1 R1 V1
    obtain ⟨α1', S1', x', ex, e1', R1', V1', h2⟩ := h1 α1 H1 v e1 R1 V1
    cases ex
    refine ⟨β, α1', S1, ρ, R1', hE.ext e1', ?_⟩
    have h3 := PostG.bind (rel := Vrs T β) h2
    cases q2 : ms ρ S1 with
    | stuck => rw [q2] at h3; exact h3.elim
    | exc k f S2 => rw [q2] at h3; exact h3
    | ok y S2 =>
      rw [q2] at h3
      intro α2 H2 w e2 R2 V2
      obtain ⟨α2', S2', y', ey, e2', R2', V2', h4⟩ := h3 α2 H2 w e2 R2 V2
      cases ey
      exact h4 α2' H2 (v :: w) Ext.refl R2' (.cons (V1'.ext e2') V2')
theorem args_le {r : List V → Hp → VK → Prop} {g : List R → Sto → Out R} (hs : SndA T r g) {σ : L2.St} {H : Hp} {Q : VK} (h : tE T W (eArgs g ms) σ H Q) : tA T W ms σ H fun vs H1 => r vs H1 Q := by
  obtain ⟨β, α, S, ρ, hR, hE, h⟩ := h
  refine ⟨β, α, S, ρ, hR, hE, ?_⟩
  have h1 := PostG.bind (rel := Vrs T β) (show PostG T β W (Vr T β) σ ((ms ρ S).bind fun x S1 => g x S1) α H Q from h)
  cases q : ms ρ S with
  | stuck => rw [q] at h1; exact h1.elim
  | exc k f S1 => rw [q] at h1; exact h1
  | ok x S1 =>
    rw [q] at h1
    intro α1 H1 v e1 R1 V1
    obtain ⟨α1', S1', x', ex, e1', R1', V1', h2⟩ := h1 α1 H1 v e1 R1 V1
    cases ex
    exact hs β W σ α1' S1 H1 x v Q R1' V1' h2
def gTup (xs : List R) (S : Sto) : Out R := if xs.length ≤ sizeLine then newT xs S else .stuck
def gLst (own : Bool) (xs : List R) (S : Sto) : Out R := if xs.length ≤ sizeLine then newL own xs S else .stuck
theorem tr_tup {x1 : Nat} (h : PA X es (tA T W ms)) : PE X (.Tuple es x1 pos) (tE T W (eArgs gTup ms)) :=
  pe_le (pe_tup h) fun σ H Q h => args_le (r := fun xs H1 Q => xs.length ≤ sizeLine ∧ ∀ p, H1 p = none → Q (.ref p) (upd H1 p (.tup xs))) (g := gTup) (by
    intro β W σ α S H xs vs Q Rr hx h
    unfold gTup at h
    split at h
    · rename_i hz
      exact ⟨by rw [← hx.length]; exact hz, fun p hp => newT_ok Rr hp hx h⟩
    · exact h.elim) h
theorem tr_lst (own : Bool) (h : PA X es (tA T W ms)) : PE X (.List es pos) (tE T W (eArgs (gLst own) ms)) :=
  pe_le (pe_lst h) fun σ H Q h => args_le (r := fun xs H1 Q => xs.length ≤ sizeLine ∧ ∀ p, H1 p = none → Q (.ref p) (upd H1 p (.lst xs))) (g := gLst own) (by
    intro β W σ α S H xs vs Q Rr hx h
    unfold gLst at h
    split at h
    · rename_i hz
      exact ⟨by rw [← hx.length]; exact hz, fun p hp => newL_ok Rr hp hx h⟩
    · exact h.elim) h
/-- a built-in called by its name -/
theorem tr_callB {x : Str} {p : Pos} {id : String} {r : List V → Hp → VK → Prop} {g : List R → Sto → Out R} (hc : CallR X (.builtin id) r) (hs : SndA T r g) (hg : Gl X x) (hm : X.mg x = none) (hv : bootBuiltins x = some (.builtin id)) (ha : PA X (e :: es) (tA T W ms))
    (hn : x ≠ "__name__" := by decide) (hdb : (x == ("__debug__" : Str)) = false := by decide) (he : starEach (e :: es) X.env = (false, eval e X.env) :: starEach es X.env := by rfl) (hpl : (backTo pos (starEach es X.env)).any (·.1) = false := by rfl) :
    PE X (.Call (.Name x p) (e :: es) [] pos) (tE T W (eArgs g ms)) :=
  pe_le (pe_callB hc hg hm hv ha hn hdb he hpl) fun _ _ _ h => args_le hs h
theorem tr_callTy {x : Str} {p : Pos} {id : String} {r : List V → Hp → VK → Prop} {g : List R → Sto → Out R} (hc : CallR X (.type id) r) (hs : SndA T r g) (hg : Gl X x) (hm : X.mg x = none) (hv : bootBuiltins x = some (.type id)) (ha : PA X (e :: es) (tA T W ms))
    (hn : x ≠ "__name__" := by decide) (hdb : (x == ("__debug__" : Str)) = false := by decide) (he : starEach (e :: es) X.env = (false, eval e X.env) :: starEach es X.env := by rfl) (hpl : (backTo pos (starEach es X.env)).any (·.1) = false := by rfl) :
    PE X (.Call (.Name x p) (e :: es) [] pos) (tE T W (eArgs g ms)) :=
  pe_le (pe_callTy hc hg hm hv ha hn hdb he hpl) fun _ _ _ h => args_le hs h
end
end Pev
/-! Pev, sixth part: truth, tests, and the built-in functions by values. -/
namespace Pev
open PySem PySem.Spec PyProof.Rows L2

/-! ### truth -/
def truth (S : Sto) : R → Option Bool
  | .dat .none => some false
  | .dat (.bool b) => some b
  | .dat (.int i) => some (i != 0)
  | .dat (.str y) => if y.length ≤ sizeLine then some ((y.length : Int) != 0) else none
  | .dat (.list ds) => some !ds.isEmpty
  | .dat (.tuple ds) => some !ds.isEmpty
  | .dat (.dict _) => none
  | .obj k => match S[k]? with
    | some (.lst rs) => some !rs.isEmpty
    | _ => none
  | .ro ds => some !ds.isEmpty
  | .err _ _ => none
  | .lam _ _ => none
theorem vrs_empty {K : Tb} {β : List Addr} {α : List (Option Addr)} {H : Hp} {rs : List R} {vs : List V} (h : Vrs K β α H rs vs) : rs.isEmpty = vs.isEmpty := by cases h <;> rfl
theorem dq_empty {K : PySem.W.Frag} {H : Hp} {rs : List PyData} {vs : List V} (h : DqAll K H vs rs) : rs.isEmpty = vs.isEmpty := by cases h <;> rfl
theorem truth_ok {K : Tb} {β : List Addr} {α : List (Option Addr)} {H : Hp} {S : Sto} (Rr : Rl K β α S H) {x : R} {v : V} {b : Bool} (hx : Vr K β α H x v) (e : truth S x = some b) : TruV K v H b := by
  cases x with
  | dat d =>
    cases d with
    | none => cases e; cases hx; rfl
    | bool k => cases e; cases hx; rfl
    | int i => cases e; cases hx; rfl
    | str y =>
      cases hx
      unfold truth at e
      dsimp only at e
      split at e
      · rename_i hz
        cases e
        exact ⟨hz, rfl⟩
      · cases e
    | list ds =>
      cases e
      obtain ⟨a, vs, rfl, h1, h2⟩ := lv_ok Rr hx (rs := ds.map .dat) rfl
      exact .inl ⟨vs, h1, by rw [← vrs_empty h2]; cases ds <;> rfl⟩
    | tuple ds =>
      cases e
      obtain ⟨a, vs, rfl, h1, h2⟩ := tv_ok (ds := ds) hx rfl
      exact .inr (.inl ⟨vs, h1, by rw [dq_empty h2]⟩)
    | dict kvs => cases e
  | obj k =>
    unfold truth at e
    dsimp only at e
    split at e
    · rename_i rs q
      cases e
      obtain ⟨a, vs, e1, e2, e3⟩ := Rr.cell k _ q
      cases hx.2 a e1
      exact .inl ⟨vs, SqL.of e2, by rw [vrs_empty e3]⟩
    · cases e
  | ro ds =>
    cases e
    obtain ⟨a, vs, rfl, h1, h2⟩ := lv_ok Rr hx (rs := ds.map .dat) rfl
    exact .inl ⟨vs, h1, by rw [← vrs_empty h2]; cases ds <;> rfl⟩
  | err _ _ => cases e
  | lam _ _ => cases e

/-! ### tests -/
def ofB (x : R) (S : Sto) : Out Bool := match x with
  | .dat (.bool b) => .ok b S
  | _ => .stuck
def ofT (x : R) (S : Sto) : Out Bool := match truth S x with
  | some b => .ok b S
  | none => .stuck
def mB (m : EM) : TM := fun ρ S => (m ρ S).bind ofB
def mT (m : EM) : TM := fun ρ S => (m ρ S).bind ofT
def mAnd (a b : TM) : TM := fun ρ S => (a ρ S).bind fun x S1 => if x then b ρ S1 else .ok false S1
def mOr (a b : TM) : TM := fun ρ S => (a ρ S).bind fun x S1 => if x then .ok true S1 else b ρ S1
def mNot (a : TM) : TM := fun ρ S => (a ρ S).bind fun x S1 => .ok (!x) S1
section
variable {X : Cx} {T : Tb} {W : WX} {a b e : Expr} {ma mb m : EM} {ta tb : TM} {pos : Pos} {rest : List Expr}
theorem mB_le {σ : L2.St} {H : Hp} {Q : Bool → Hp → Prop} (h : tT T W (mB m) σ H Q) : tE T W m σ H fun x H1 => ∃ k, x = .bl k ∧ Q k H1 := by
  obtain ⟨β, α, S, ρ, hR, hE, h⟩ := h
  refine ⟨β, α, S, ρ, hR, hE, ?_⟩
  have h1 := PostG.bind (rel := Vr T β) (show PostG T β W (fun _ _ x v => x = v) σ ((m ρ S).bind ofB) α H Q from h)
  cases q : m ρ S with
  | stuck => rw [q] at h1; exact h1.elim
  | exc k f S1 => rw [q] at h1; exact h1
  | ok x S1 =>
    rw [q] at h1
    intro α1 H1 v e1 R1 V1
    obtain ⟨α1', S1', x', ex, e1', R1', V1', h2⟩ := h1 α1 H1 v e1 R1 V1
    cases ex
    unfold ofB at h2
    split at h2
    · exact ⟨_, vr_bl V1', h2 α1' H1 _ Ext.refl R1' rfl⟩
    · exact h2.elim
theorem mT_le {σ : L2.St} {H : Hp} {Q : Bool → Hp → Prop} (h : tT T W (mT m) σ H Q) : tE T W m σ H fun x H1 => ∃ k, TruV T.K x H1 k ∧ Q k H1 := by
  obtain ⟨β, α, S, ρ, hR, hE, h⟩ := h
  refine ⟨β, α, S, ρ, hR, hE, ?_⟩
  have h1 := PostG.bind (rel := Vr T β) (show PostG T β W (fun _ _ x v => x = v) σ ((m ρ S).bind ofT) α H Q from h)
  cases q : m ρ S with
  | stuck => rw [q] at h1; exact h1.elim
  | exc k f S1 => rw [q] at h1; exact h1
  | ok x S1 =>
    rw [q] at h1
    intro α1 H1 v e1 R1 V1
    obtain ⟨α1', S1', x', ex, e1', R1', V1', h2⟩ := h1 α1 H1 v e1 R1 V1
    cases ex
    unfold ofT at h2
    split at h2
    · rename_i k hk
      exact ⟨k, truth_ok R1' V1' hk, h2 α1' H1 _ Ext.refl R1' rfl⟩
    · exact h2.elim
theorem tt_tru (hK : X.K = T.K) (h : PE X e (tE T W m)) (he : ∀ whole, isTrue e X.env whole = (do let v ← whole; standAt e.pos; holding [v] (truthy v)) := by intro _; rfl) : PT X e (tT T W (mT m)) :=
  pt_le (pt_truth h he) fun _ _ _ q => by rw [hK]; exact mT_le q
theorem tt_cmpR {op : CmpOp} {r : R2} {g : R → R → Sto → Out R} (ho : OpR X (compareOp op) r) (hs : Snd2 T r g) (ha : PE X a (tE T W ma)) (hb : PE X b (tE T W mb)) (hm : behindInMarks op b = false) :
    PT X (.Compare a [op] [b] pos) (tT T W (mB (eBin g ma mb))) := pt_le (pt_cmpR ho ha hb hm) fun σ H Q q => bin_le hs (mB_le q)
theorem tt_and1 (ha : PT X a (tT T W ta)) : PW X (.BoolOp .And [a] pos) (tT T W ta) := pw_and1 ha
theorem tt_or1 (ha : PT X a (tT T W ta)) : PW X (.BoolOp .Or [a] pos) (tT T W ta) := pw_or1 ha
theorem mAnd_le {σ : L2.St} {H : Hp} {Q : Bool → Hp → Prop} (h : tT T W (mAnd ta tb) σ H Q) : tT T W ta σ H fun c H1 => if c = true then tT T W tb σ H1 Q else Q false H1 := by
  obtain ⟨β, α, S, ρ, hR, hE, h⟩ := h
  refine ⟨β, α, S, ρ, hR, hE, ?_⟩
  have h1 := PostG.bind (rel := fun _ _ (x v : Bool) => x = v) (show PostG T β W (fun _ _ x v => x = v) σ ((ta ρ S).bind fun x S1 => if x then tb ρ S1 else .ok false S1) α H Q from h)
  cases q : ta ρ S with
  | stuck => rw [q] at h1; exact h1.elim
  | exc k f S1 => rw [q] at h1; exact h1
  | ok x S1 =>
    rw [q] at h1
    intro α1 H1 v e1 R1 V1
    obtain ⟨α1', S1', x', ex, e1', R1', V1', h2⟩ := h1 α1 H1 v e1 R1 V1
    cases ex
    subst V1'
    cases x with
    | true =>
      rw [if_pos rfl]
      exact ⟨β, α1', S1, ρ, R1', hE.ext e1', h2⟩
    | false =>
      rw [if_neg Bool.false_ne_true]
      exact h2 α1' H1 _ Ext.refl R1' rfl
theorem mOr_le {σ : L2.St} {H : Hp} {Q : Bool → Hp → Prop} (h : tT T W (mOr ta tb) σ H Q) : tT T W ta σ H fun c H1 => if c = true then Q true H1 else tT T W tb σ H1 Q := by
  obtain ⟨β, α, S, ρ, hR, hE, h⟩ := h
  refine ⟨β, α, S, ρ, hR, hE, ?_⟩
  have h1 := PostG.bind (rel := fun _ _ (x v : Bool) => x = v) (show PostG T β W (fun _ _ x v => x = v) σ ((ta ρ S).bind fun x S1 => if x then .ok true S1 else tb ρ S1) α H Q from h)
  cases q : ta ρ S with
  | stuck => rw [q] at h1; exact h1.elim
  | exc k f S1 => rw [q] at h1; exact h1
  | ok x S1 =>
    rw [q] at h1
    intro α1 H1 v e1 R1 V1
    obtain ⟨α1', S1', x', ex, e1', R1', V1', h2⟩ := h1 α1 H1 v e1 R1 V1
    cases ex
    subst V1'
    cases x with
    | true =>
      rw [if_pos rfl]
      exact h2 α1' H1 _ Ext.refl R1' rfl
    | false =>
      rw [if_neg Bool.false_ne_true]
      exact ⟨β, α1', S1, ρ, R1', hE.ext e1', h2⟩
theorem mNot_le {σ : L2.St} {H : Hp} {Q : Bool → Hp → Prop} (h : tT T W (mNot ta) σ H Q) : tT T W ta σ H fun c H1 => Q (!c) H1 := by
  obtain ⟨β, α, S, ρ, hR, hE, h⟩ := h
  refine ⟨β, α, S, ρ, hR, hE, ?_⟩
  have h1 := PostG.bind (rel := fun _ _ (x v : Bool) => x = v) (show PostG T β W (fun _ _ x v => x = v) σ ((ta ρ S).bind fun x S1 => .ok (!x) S1) α H Q from h)
  cases q : ta ρ S with
  | stuck => rw [q] at h1; exact h1.elim
  | exc k f S1 => rw [q] at h1; exact h1
  | ok x S1 =>
    rw [q] at h1
    intro α1 H1 v e1 R1 V1
    obtain ⟨α1', S1', x', ex, e1', R1', V1', h2⟩ := h1 α1 H1 v e1 R1 V1
    cases ex
    subst V1'
    exact h2 α1' H1 _ Ext.refl R1' rfl
theorem tt_and (ha : PT X a (tT T W ta)) (hb : PW X (.BoolOp .And (b :: rest) pos) (tT T W tb)) : PW X (.BoolOp .And (a :: b :: rest) pos) (tT T W (mAnd ta tb)) :=
  pw_le (pw_and ha hb) fun _ _ _ q => mAnd_le q
theorem tt_or (ha : PT X a (tT T W ta)) (hb : PW X (.BoolOp .Or (b :: rest) pos) (tT T W tb)) : PW X (.BoolOp .Or (a :: b :: rest) pos) (tT T W (mOr ta tb)) :=
  pw_le (pw_or ha hb) fun _ _ _ q => mOr_le q
theorem tt_not (ha : PT X a (tT T W ta)) : PT X (.UnaryOp .Not a pos) (tT T W (mNot ta)) := pt_le (pt_not ha) fun _ _ _ q => mNot_le q

/-! ### or, and, not, if as values -/
def eOr (ma mb : EM) : EM := fun ρ S => (ma ρ S).bind fun x S1 => match truth S1 x with
  | some true => .ok x S1
  | some false => mb ρ S1
  | none => .stuck
def eAnd (ma mb : EM) : EM := fun ρ S => (ma ρ S).bind fun x S1 => match truth S1 x with
  | some true => mb ρ S1
  | some false => .ok x S1
  | none => .stuck
def eNot (ma : EM) : EM := fun ρ S => (ma ρ S).bind fun x S1 => match truth S1 x with
  | some b => ans (.bool (!b)) S1
  | none => .stuck
def eIf (t : TM) (ma mb : EM) : EM := fun ρ S => (t ρ S).bind fun x S1 => if x then ma ρ S1 else mb ρ S1
theorem tr_one {op : PySem.BoolOp} (h : PE X a (tE T W ma)) : PE X (.BoolOp op [a] pos) (tE T W ma) := pe_one h
theorem tr_and (hK : X.K = T.K) (ha : PE X a (tE T W ma)) (hb : PE X (.BoolOp .And (b :: rest) pos) (tE T W mb)) : PE X (.BoolOp .And (a :: b :: rest) pos) (tE T W (eAnd ma mb)) := by
  refine pe_le (pe_andT ha hb) fun σ H Q ⟨β, α, S, ρ, hR, hE, h⟩ => ?_
  unfold tAndT
  rw [hK]
  refine ⟨β, α, S, ρ, hR, hE, ?_⟩
  have h1 := PostG.bind (rel := Vr T β) h
  cases q : ma ρ S with
  | stuck => rw [q] at h1; exact h1.elim
  | exc k f S1 => rw [q] at h1; exact h1
  | ok x S1 =>
    rw [q] at h1
    intro α1 H1 v e1 R1 V1
    obtain ⟨α1', S1', x', ex, e1', R1', V1', h2⟩ := h1 α1 H1 v e1 R1 V1
    cases ex
    split at h2
    · rename_i t
      exact ⟨true, truth_ok R1' V1' t, by rw [if_pos rfl]; exact ⟨β, α1', S1, ρ, R1', hE.ext e1', h2⟩⟩
    · rename_i t
      exact ⟨false, truth_ok R1' V1' t, by rw [if_neg Bool.false_ne_true]; exact old_ok R1' h2 V1'⟩
    · exact h2.elim
theorem tr_not (hK : X.K = T.K) (ha : PE X a (tE T W ma)) : PE X (.UnaryOp .Not a pos) (tE T W (eNot ma)) := by
  refine pe_le (pe_notT ha) fun σ H Q ⟨β, α, S, ρ, hR, hE, h⟩ => ?_
  unfold tNotT
  rw [hK]
  refine ⟨β, α, S, ρ, hR, hE, ?_⟩
  have h1 := PostG.bind (rel := Vr T β) h
  cases q : ma ρ S with
  | stuck => rw [q] at h1; exact h1.elim
  | exc k f S1 => rw [q] at h1; exact h1
  | ok x S1 =>
    rw [q] at h1
    intro α1 H1 v e1 R1 V1
    obtain ⟨α1', S1', x', ex, e1', R1', V1', h2⟩ := h1 α1 H1 v e1 R1 V1
    cases ex
    split at h2
    · rename_i k t
      exact ⟨k, truth_ok R1' V1' t, ans_bl R1' h2⟩
    · exact h2.elim
/-! ### a < b < c -/
def eChain (g g' : R → R → Sto → Out R) (ma mb mc : EM) : EM := fun ρ S => (ma ρ S).bind fun x S1 => (mb ρ S1).bind fun y S2 => (g x y S2).bind fun z S3 => match z with
  | .dat (.bool true) => (mc ρ S3).bind fun u S4 => g' y u S4
  | .dat (.bool false) => ans (.bool false) S3
  | _ => .stuck
/-- g answers for r, and what is behind it goes on -/
def Snd2c (T : Tb) (r : R2) (g : R → R → Sto → Out R) : Prop :=
  ∀ (β : List Addr) (W : WX) (σ : L2.St) (α : List (Option Addr)) (S : Sto) (H : Hp) (x y : R) (v w : V) (f : R → Sto → Out R) (Q Q' : VK), Rl T β α S H → Vr T β α H x v → Vr T β α H y w →
    PostG T β W (Vr T β) σ ((g x y S).bind f) α H Q → (∀ b α1 S1 H1, Ext α H α1 H1 → Rl T β α1 S1 H1 → PostG T β W (Vr T β) σ (f (.dat (.bool b)) S1) α1 H1 Q → Q' (.bl b) H1) → r v w H Q'
theorem chain_le {r r' : R2} {g g' : R → R → Sto → Out R} {mc : EM} (hs : Snd2c T r g) (hs' : Snd2 T r' g') {σ : L2.St} {H : Hp} {Q : VK} (h : tE T W (eChain g g' ma mb mc) σ H Q) : tChain r r' (tE T W ma) (tE T W mb) (tE T W mc) σ H Q := by
  obtain ⟨β, α, S, ρ, hR, hE, h⟩ := h
  refine ⟨β, α, S, ρ, hR, hE, ?_⟩
  have h1 := PostG.bind (rel := Vr T β) h
  cases q : ma ρ S with
  | stuck => rw [q] at h1; exact h1.elim
  | exc k f S1 => rw [q] at h1; exact h1
  | ok x S1 =>
    rw [q] at h1
    intro α1 H1 v e1 R1 V1
    obtain ⟨α1', S1', x', ex, e1', R1', V1', h2⟩ := h1 α1 H1 v e1 R1 V1
    cases ex
    refine ⟨β, α1', S1, ρ, R1', hE.ext e1', ?_⟩
    have h3 := PostG.bind (rel := Vr T β) h2
    cases q2 : mb ρ S1 with
    | stuck => rw [q2] at h3; exact h3.elim
    | exc k f S2 => rw [q2] at h3; exact h3
    | ok y S2 =>
      rw [q2] at h3
      intro α2 H2 w e2 R2 V2
      obtain ⟨α2', S2', y', ey, e2', R2', V2', h4⟩ := h3 α2 H2 w e2 R2 V2
      cases ey
      refine hs β W σ α2' S2 H2 x y v w _ Q _ R2' (V1'.ext e2') V2' h4 fun b α3 S3 H3 x3 R3 h5 => ⟨b, rfl, ?_⟩
      cases b with
      | false =>
        rw [if_neg Bool.false_ne_true]
        exact ans_bl R3 h5
      | true =>
        rw [if_pos rfl]
        refine ⟨β, α3, S3, ρ, R3, ((hE.ext e1').ext e2').ext x3, ?_⟩
        have h6 := PostG.bind (rel := Vr T β) h5
        cases q4 : mc ρ S3 with
        | stuck => rw [q4] at h6; exact h6.elim
        | exc k f S4 => rw [q4] at h6; exact h6
        | ok u S4 =>
          rw [q4] at h6
          intro α4 H4 z e4 R4 V4
          obtain ⟨α4', S4', u', eu, e4', R4', V4', h7⟩ := h6 α4 H4 z e4 R4 V4
          cases eu
          exact hs' β W σ α4' S4 H4 y u w z Q R4' ((V2'.ext x3).ext e4') V4' h7
theorem ord_c {p : Int → Int → Bool} {s : Str → Str → Bool} {g : R → R → Sto → Out R} (hg : ∀ x y S, g x y S = match x, y with
  | .dat (.int i), .dat (.int j) => ans (.bool (p i j)) S
  | .dat (.str i), .dat (.str j) => ans (.bool (s i j)) S
  | _, _ => .stuck) : Snd2c T (rOrd p s) g := by
  intro β W σ α S H x y v w f Q Q' Rr hx hy h k
  rw [hg] at h
  split at h
  · cases vr_int hx; cases vr_int hy; exact .inl ⟨_, _, rfl, rfl, k _ α S H Ext.refl Rr h⟩
  · cases vr_str hx; cases vr_str hy; exact .inr ⟨_, _, rfl, rfl, k _ α S H Ext.refl Rr h⟩
  · exact h.elim
theorem sndc_le : Snd2c T (rOrd (fun i j => decide (i ≤ j)) fun i j => !decide (j.cps.toList < i.cps.toList)) bLe := ord_c fun _ _ _ => rfl
theorem tr_chain {c : Expr} {mc : EM} {op op' : CmpOp} {r r' : R2} {g g' : R → R → Sto → Out R} (ho : OpR X (compareOp op) r) (ho' : OpR X (compareOp op') r') (hs : Snd2c T r g) (hs' : Snd2 T r' g') (ha : PE X a (tE T W ma)) (hb : PE X b (tE T W mb)) (hc : PE X c (tE T W mc))
    (hm : lastMarks [op, op'] [b, c] = false := by with_unfolding_all rfl) : PE X (.Compare a [op, op'] [b, c] pos) (tE T W (eChain g g' ma mb mc)) := pe_le (pe_chain ho ho' ha hb hc hm) fun _ _ _ q => chain_le hs hs' q
theorem tt_chain {c : Expr} {mc : EM} {op op' : CmpOp} {r r' : R2} {g g' : R → R → Sto → Out R} (ho : OpR X (compareOp op) r) (ho' : OpR X (compareOp op') r') (hs : Snd2c T r g) (hs' : Snd2 T r' g') (ha : PE X a (tE T W ma)) (hb : PE X b (tE T W mb)) (hc : PE X c (tE T W mc))
    (hm : lastMarks [op, op'] [b, c] = false := by with_unfolding_all rfl) : PT X (.Compare a [op, op'] [b, c] pos) (tT T W (mB (eChain g g' ma mb mc))) := pt_le (pt_chain ho ho' ha hb hc hm) fun _ _ _ q => chain_le hs hs' (mB_le q)
end
end Pev
/-! Pev, seventh part: built-in functions. -/
namespace Pev
open PySem PySem.Spec PyProof.Rows L2
theorem vrs1 {K : Tb} {β : List Addr} {α : List (Option Addr)} {H : Hp} {x : R} {vs : List V} (h : Vrs K β α H [x] vs) : ∃ v, vs = [v] ∧ Vr K β α H x v := by
  cases h with
  | cons h t => cases t; exact ⟨_, rfl, h⟩
theorem vrs2 {K : Tb} {β : List Addr} {α : List (Option Addr)} {H : Hp} {x y : R} {vs : List V} (h : Vrs K β α H [x, y] vs) : ∃ v w, vs = [v, w] ∧ Vr K β α H x v ∧ Vr K β α H y w := by
  cases h with
  | cons h t =>
    obtain ⟨w, rfl, k⟩ := vrs1 t
    exact ⟨_, w, rfl, h, k⟩
section
variable {X : Cx} {T : Tb}
/-! ### len, abs, int, bool, str -/
def gLen (xs : List R) (S : Sto) : Out R := match xs with
  | [.dat (.str y)] => if y.length ≤ sizeLine then ans (.int y.length) S else .stuck
  | [.dat (.tuple ds)] => ans (.int ds.length) S
  | [x] => match lv S x with
    | some rs => ans (.int rs.length) S
    | none => .stuck
  | _ => .stuck
theorem snd_len : SndA T (fun xs H Q => ∃ x n, xs = [x] ∧ LenV T.K x H n ∧ Q (.int n) H) gLen := by
  intro β W σ α S H xs vs Q Rr hx h
  unfold gLen at h
  split at h
  · obtain ⟨v, rfl, hv⟩ := vrs1 hx
    cases vr_str hv
    split at h
    · rename_i hz
      exact ⟨_, _, rfl, ⟨hz, rfl⟩, ans_int Rr h⟩
    · exact h.elim
  · rename_i ds
    obtain ⟨v, rfl, hv⟩ := vrs1 hx
    obtain ⟨a, ws, rfl, h1, h2⟩ := tv_ok (ds := ds) hv rfl
    exact ⟨_, ds.length, rfl, .inr ⟨ws, h1, (DqAll.length h2).symm⟩, ans_int Rr h⟩
  · obtain ⟨v, rfl, hv⟩ := vrs1 hx
    split at h
    · rename_i rs e
      obtain ⟨a, ws, rfl, h1, h2⟩ := lv_ok Rr hv e
      exact ⟨_, rs.length, rfl, .inl ⟨ws, h1, h2.length⟩, ans_int Rr h⟩
    · exact h.elim
  · exact h.elim
def gAbs (xs : List R) (S : Sto) : Out R := match xs with
  | [.dat (.int i)] => ans (.int (if i < 0 then -i else i)) S
  | _ => .stuck
theorem snd_abs : SndA T (fun xs H Q => ∃ i, xs = [.int i] ∧ Q (.int (if i < 0 then -i else i)) H) gAbs := by
  intro β W σ α S H xs vs Q Rr hx h
  unfold gAbs at h
  split at h
  · obtain ⟨v, rfl, hv⟩ := vrs1 hx
    cases vr_int hv
    exact ⟨_, rfl, ans_int Rr h⟩
  · exact h.elim
def gInt (xs : List R) (S : Sto) : Out R := match xs with
  | [.dat (.int i)] => ans (.int i) S
  | [.dat (.bool b)] => ans (.int (if b then 1 else 0)) S
  | _ => .stuck
theorem snd_int : SndA T (fun xs H Q => (∃ i, xs = [.int i] ∧ Q (.int i) H) ∨ ∃ k, xs = [.bl k] ∧ Q (.int (if k then 1 else 0)) H) gInt := by
  intro β W σ α S H xs vs Q Rr hx h
  unfold gInt at h
  split at h
  · obtain ⟨v, rfl, hv⟩ := vrs1 hx
    cases vr_int hv
    exact .inl ⟨_, rfl, ans_int Rr h⟩
  · obtain ⟨v, rfl, hv⟩ := vrs1 hx
    cases vr_bl hv
    exact .inr ⟨_, rfl, ans_int Rr h⟩
  · exact h.elim
def gBool (xs : List R) (S : Sto) : Out R := match xs with
  | [.dat (.int i)] => ans (.bool (i != 0)) S
  | [.dat (.bool b)] => ans (.bool b) S
  | _ => .stuck
/-! ### list, tuple -/
def gList (own : Bool) (xs : List R) (S : Sto) : Out R := match xs with
  | [.dat (.tuple ds)] => newL own (ds.map .dat) S
  | [x] => match lv S x with
    | some rs => newL own rs S
    | none => .stuck
  | _ => .stuck
theorem snd_list (own : Bool) : SndA T (fun xs H Q => ∃ p ys, xs = [.ref p] ∧ (SqL T.K H p ys ∨ SqT T.K H p ys) ∧ ∀ l, H l = none → Q (.ref l) (upd H l (.lst ys))) (gList own) := by
  intro β W σ α S H xs vs Q Rr hx h
  unfold gList at h
  split at h
  · rename_i ds
    obtain ⟨v, rfl, hv⟩ := vrs1 hx
    obtain ⟨a, ws, rfl, h1, h2⟩ := tv_ok (ds := ds) hv rfl
    exact ⟨_, ws, rfl, .inr h1, fun l hl => newL_ok Rr hl (DqAll.vrs h2) h⟩
  · obtain ⟨v, rfl, hv⟩ := vrs1 hx
    split at h
    · rename_i rs e
      obtain ⟨a, ws, rfl, h1, h2⟩ := lv_ok Rr hv e
      exact ⟨_, ws, rfl, .inl h1, fun l hl => newL_ok Rr hl h2 h⟩
    · exact h.elim
  · exact h.elim
def gTuple (xs : List R) (S : Sto) : Out R := match xs with
  | [.dat (.tuple ds)] => ans (.tuple ds) S
  | [x] => match lv S x with
    | some rs => newT rs S
    | none => .stuck
  | _ => .stuck
theorem snd_tuple : SndA T (fun xs H Q => ∃ p ys, xs = [.ref p] ∧ ((SqL T.K H p ys ∧ ∀ l, H l = none → Q (.ref l) (upd H l (.tup ys))) ∨ (SqT T.K H p ys ∧ Q (.ref p) H))) gTuple := by
  intro β W σ α S H xs vs Q Rr hx h
  unfold gTuple at h
  split at h
  · rename_i ds
    obtain ⟨v, rfl, hv⟩ := vrs1 hx
    obtain ⟨a, ws, rfl, h1, h2⟩ := tv_ok (ds := ds) hv rfl
    exact ⟨_, ws, rfl, .inr ⟨h1, old_ok Rr h hv⟩⟩
  · obtain ⟨v, rfl, hv⟩ := vrs1 hx
    split at h
    · rename_i rs e
      obtain ⟨a, ws, rfl, h1, h2⟩ := lv_ok Rr hv e
      exact ⟨_, ws, rfl, .inl ⟨h1, fun l hl => newT_ok Rr hl h2 h⟩⟩
    · exact h.elim
  · exact h.elim

/-! ### lists of ints, of truths -/
def ints? : List R → Option (List Int)
  | [] => some []
  | .dat (.int i) :: rs => (ints? rs).map (i :: ·)
  | _ :: _ => none
def bls? : List R → Option (List Bool)
  | [] => some []
  | .dat (.bool i) :: rs => (bls? rs).map (i :: ·)
  | _ :: _ => none
theorem bls_ok {K : Tb} {β : List Addr} {α : List (Option Addr)} {H : Hp} : ∀ {rs : List R} {vs : List V} {ns : List Bool}, Vrs K β α H rs vs → bls? rs = some ns → vs = ns.map V.bl
  | [], _, ns, h, e => by cases h; cases e; rfl
  | r :: rs, _, ns, h, e => by
    cases h with
    | cons h t =>
      cases r with
      | dat d =>
        cases d with
        | bool i =>
          cases q : bls? rs with
          | none => simp [bls?, q] at e
          | some ms =>
            simp [bls?, q] at e
            subst e
            rw [vr_bl h, bls_ok t q]
            rfl
        | _ => cases e
      | _ => cases e
def gAll (xs : List R) (S : Sto) : Out R := match xs with
  | [x] => match (lv S x).bind bls? with
    | some bs => ans (.bool (bs.all id)) S
    | none => .stuck
  | _ => .stuck
def gAny (xs : List R) (S : Sto) : Out R := match xs with
  | [x] => match (lv S x).bind bls? with
    | some bs => ans (.bool (bs.any id)) S
    | none => .stuck
  | _ => .stuck
theorem snd_all : SndA T (rAll T.K) gAll := by
  intro β W σ α S H xs vs Q Rr hx h
  unfold gAll at h
  split at h
  · obtain ⟨v, rfl, hv⟩ := vrs1 hx
    split at h
    · rename_i bs e
      cases e1 : lv S _ with
      | none => rw [e1] at e; cases e
      | some rs =>
        rw [e1] at e
        obtain ⟨a, ws, rfl, h1, h2⟩ := lv_ok Rr hv e1
        have e3 := bls_ok h2 e
        subst e3
        exact ⟨a, bs, rfl, h1, ans_bl Rr h⟩
    · exact h.elim
  · exact h.elim
def gSum (xs : List R) (S : Sto) : Out R := match xs with
  | [x] => match (lv S x).bind ints? with
    | some ns => ans (.int ns.sum) S
    | none => .stuck
  | _ => .stuck
/-! ### sorted of ints -/
/-! ### max, min of two ints -/
def gMax2 (xs : List R) (S : Sto) : Out R := match xs with
  | [.dat (.int i), .dat (.int j)] => ans (.int (if j > i then j else i)) S
  | _ => .stuck
theorem snd_max2 : SndA T (fun xs H Q => ∃ i j, xs = [.int i, .int j] ∧ Q (.int (if j > i then j else i)) H) gMax2 := by
  intro β W σ α S H xs vs Q Rr hx h
  unfold gMax2 at h
  split at h
  · obtain ⟨v, w, rfl, hv, hw⟩ := vrs2 hx
    cases vr_int hv; cases vr_int hw
    exact ⟨_, _, rfl, ans_int Rr h⟩
  · exact h.elim
def gMin2 (xs : List R) (S : Sto) : Out R := match xs with
  | [.dat (.int i), .dat (.int j)] => ans (.int (if j < i then j else i)) S
  | _ => .stuck
theorem snd_min2 : SndA T (fun xs H Q => ∃ i j, xs = [.int i, .int j] ∧ Q (.int (if j < i then j else i)) H) gMin2 := by
  intro β W σ α S H xs vs Q Rr hx h
  unfold gMin2 at h
  split at h
  · obtain ⟨v, w, rfl, hv, hw⟩ := vrs2 hx
    cases vr_int hv; cases vr_int hw
    exact ⟨_, _, rfl, ans_int Rr h⟩
  · exact h.elim
end

/-! ### isinstance -/
inductive Ty where
  | non | bl | int | str | lst | tup
  deriving DecidableEq
def Ty.nm : Ty → String
  | .non => "NoneType" | .bl => "bool" | .int => "int" | .str => "str" | .lst => "list" | .tup => "tuple"
def tyOf (S : Sto) : R → Option Ty
  | .dat .none => some .non
  | .dat (.bool _) => some .bl
  | .dat (.int _) => some .int
  | .dat (.str _) => some .str
  | .dat (.list _) => some .lst
  | .dat (.tuple _) => some .tup
  | .dat (.dict _) => none
  | .obj k => match S[k]? with
    | some (.lst _) => some .lst
    | _ => none
  | .ro _ => some .lst
  | .err _ _ => none
  | .lam _ _ => none
def Ty.isa : Ty → Ty → Bool
  | .bl, .int => true
  | a, b => decide (a = b)
theorem kit_all : ∀ a b : Ty, kitB a.nm b.nm = some (a.isa b) := by
  intro a b
  cases a <;> cases b <;> decide +kernel
theorem tyx_lst {K : PySem.W.Frag} {H : Hp} {a : Addr} {xs : List V} (h : SqL K H a xs) : TyX K H (.ref a) (.type "list") := by
  rcases h with (h | ⟨o, h⟩) | ⟨o, its, n, h, c, _⟩
  · exact .base (.lst h)
  · exact .base (.frz h)
  · exact .kList h c
theorem tyx_tup {K : PySem.W.Frag} {H : Hp} {a : Addr} {xs : List V} (h : SqT K H a xs) : TyX K H (.ref a) (.type "tuple") := by
  rcases h with (h | ⟨o, h⟩) | ⟨o, its, n, h, c, _⟩
  · exact .base (.tup h)
  · exact .fTuple h
  · exact .kTuple h c
theorem tyOf_ok {K : Tb} {β : List Addr} {α : List (Option Addr)} {H : Hp} {S : Sto} (Rr : Rl K β α S H) {x : R} {v : V} {t : Ty} (hx : Vr K β α H x v) (e : tyOf S x = some t) : TyX K H v (.type t.nm) := by
  cases x with
  | dat d =>
    cases d with
    | none => cases e; cases hx; exact .base .non
    | bool k => cases e; cases hx; exact .base (.bl k)
    | int i => cases e; cases hx; exact .base (.int i)
    | str y => cases e; cases hx; exact .base (.str y)
    | list ds =>
      cases e
      obtain ⟨a, vs, rfl, h1, h2⟩ := lv_ok Rr hx (rs := ds.map .dat) rfl
      exact tyx_lst h1
    | tuple ds =>
      cases e
      obtain ⟨a, vs, rfl, h1, h2⟩ := tv_ok (ds := ds) hx rfl
      exact tyx_tup h1
    | dict kvs => cases e
  | obj k =>
    unfold tyOf at e
    dsimp only at e
    split at e
    · rename_i rs q
      cases e
      obtain ⟨a, vs, e1, e2, e3⟩ := Rr.cell k _ q
      cases hx.2 a e1
      exact tyx_lst (SqL.of e2)
    · cases e
  | ro ds =>
    cases e
    obtain ⟨a, vs, rfl, h1, h2⟩ := lv_ok Rr hx (rs := ds.map .dat) rfl
    exact tyx_lst h1
  | err _ _ => cases e
  | lam _ _ => cases e
def uIs (ts : List Ty) (x : R) (S : Sto) : Out R := match tyOf S x with
  | some t => ans (.bool (ts.any t.isa)) S
  | none => .stuck
section
variable {X : Cx} {T : Tb} {W : WX} {e : Expr} {m : EM} {p q2 pos : Pos}
/-- isinstance(e, t) -/
theorem tr_is1 (t : Ty) {x : Str} (hK : X.K = T.K) (hg : Gl X "isinstance") (hm : X.mg "isinstance" = none) (he : PE X e (tE T W m)) (ht : PE X (.Name x q2) (tC (.ty t.nm)))
    (h1 : starEach [e, .Name x q2] X.env = (false, eval e X.env) :: starEach [.Name x q2] X.env := by rfl) (h2 : starEach [.Name x q2] X.env = (false, eval (.Name x q2) X.env) :: starEach [] X.env := by rfl)
    (hpl : (backTo pos (starEach [.Name x q2] X.env)).any (·.1) = false := by rfl) :
    PE X (.Call (.Name "isinstance" p) [e, .Name x q2] [] pos) (tE T W (eUn (uIs [t]) m)) := by
  refine pe_le (pe_callB call_isi hg hm (by decide +kernel) (pa_cons he (pa_cons ht pa_nil h2) h1) (by decide) (by decide) h1 hpl) fun σ H Q h => ?_
  refine un_le (r := fun v H Q => rIsi X.K [v, .ty t.nm] H Q) (fun β W σ α S H x v Q Rr hx h => ?_) h
  unfold uIs at h
  split at h
  · rename_i t' et
    refine ⟨v, .ty t.nm, .type t'.nm, .type t.nm, t'.isa t, rfl, .ty _, by rw [hK]; exact tyOf_ok Rr hx et, kit_ty (kit_all t' t), ?_⟩
    have z : [t].any t'.isa = t'.isa t := by simp
    rw [z] at h
    exact ans_bl Rr h
  · exact h.elim
theorem kit_any {K : PySem.W.Frag} (t : Ty) : ∀ ts : List Ty, PySem.W.kitAny K (.type t.nm) (ts.map fun u => .type u.nm) = some (ts.any t.isa)
  | [] => rfl
  | u :: ts => by
    refine kitAny_cons (kit_ty (kit_all t u)) (fun hb => ?_) fun hb => ?_
    · rw [List.any_cons, hb, Bool.false_or]
      exact kit_any t ts
    · rw [List.any_cons, hb, Bool.true_or]
theorem cls_all : ∀ ts : List Ty, Paired ClsV (ts.map fun u => V.ty u.nm) (ts.map fun u => Value.type u.nm)
  | [] => .nil
  | t :: ts => .cons (.ty t.nm) (cls_all ts)
/-- isinstance(e, (t, ..)) -/
theorem tr_isT (ts : List Ty) {es : List Expr} {k : Nat} (hK : X.K = T.K) (hg : Gl X "isinstance") (hm : X.mg "isinstance" = none) (he : PE X e (tE T W m)) (ht : PA X es (fun _ H Q => Q (ts.map fun u => V.ty u.nm) H)) (hz : ts.length ≤ sizeLine := by decide)
    (h1 : starEach [e, .Tuple es k q2] X.env = (false, eval e X.env) :: starEach [.Tuple es k q2] X.env := by rfl) (h2 : starEach [.Tuple es k q2] X.env = (false, eval (.Tuple es k q2) X.env) :: starEach [] X.env := by rfl)
    (hpl : (backTo pos (starEach [.Tuple es k q2] X.env)).any (·.1) = false := by rfl) :
    PE X (.Call (.Name "isinstance" p) [e, .Tuple es k q2] [] pos) (tE T W (eUn (uIs ts) m)) := by
  refine pe_le (pe_callB call_isiT hg hm (by decide +kernel) (pa_cons he (pa_cons (pe_tup ht) pa_nil h2) h1) (by decide) (by decide) h1 hpl) fun σ H Q h => ?_
  refine un_le (r := fun v H Q => (ts.map fun u => V.ty u.nm).length ≤ sizeLine ∧ ∀ pp, H pp = none → rIsiT X.K [v, .ref pp] (upd H pp (.tup (ts.map fun u => V.ty u.nm))) Q) (fun β W σ α S H x v Q Rr hx h => ?_) h
  refine ⟨by rw [List.length_map]; exact hz, fun pp hp => ?_⟩
  unfold uIs at h
  split at h
  · rename_i t' et
    have sm : Same H (upd H pp (.tup (ts.map fun u => V.ty u.nm))) := same_new hp
    have Rr' := Rr.same sm
    have hx' := hx.ext (Ext.same (α := α) sm)
    exact ⟨v, pp, _, .type t'.nm, _, ts.any t'.isa, rfl, upd_same, cls_all ts, by rw [hK]; exact tyOf_ok Rr' hx' et, kit_any t' ts, ans_bl Rr' (PostG.on (Ext.same sm) h)⟩
  · exact h.elim
theorem ty_args1 {x : Str} {t : Ty} (ht : PE X (.Name x p) (tC (.ty t.nm))) (hs : starEach [.Name x p] X.env = (false, eval (.Name x p) X.env) :: starEach [] X.env := by rfl) : PA X [.Name x p] (fun _ H Q => Q ([t].map fun u => V.ty u.nm) H) :=
  pa_le (pa_cons ht pa_nil hs) fun _ _ _ h => h
theorem ty_args {x : Str} {t : Ty} {ts : List Ty} {es : List Expr} (ht : PE X (.Name x p) (tC (.ty t.nm))) (hr : PA X es (fun _ H Q => Q (ts.map fun u => V.ty u.nm) H)) (hs : starEach (.Name x p :: es) X.env = (false, eval (.Name x p) X.env) :: starEach es X.env := by rfl) : PA X (.Name x p :: es) (fun _ H Q => Q ((t :: ts).map fun u => V.ty u.nm) H) :=
  pa_le (pa_cons ht hr hs) fun _ _ _ h => h
end
end Pev
/-! Pev, eighth part: targets, what is walked, comprehensions. -/
namespace Pev
open PySem PySem.Spec PyProof.Rows L2

/-! ### data seen alike -/
mutual
def same : PyData → PyData → Bool
  | .none, .none => true
  | .bool a, .bool b => decide (a = b)
  | .int a, .int b => decide (a = b)
  | .str a, .str b => decide (a = b)
  | .list a, .list b => sameAll a b
  | .tuple a, .tuple b => sameAll a b
  | _, _ => false
def sameAll : List PyData → List PyData → Bool
  | [], [] => true
  | x :: xs, y :: ys => same x y && sameAll xs ys
  | _, _ => false
end
mutual
theorem same_eq : ∀ {a b : PyData}, same a b = true → a = b
  | .none, b, h => by cases b <;> first | rfl | (unfold same at h; cases h)
  | .bool _, b, h => by cases b <;> first | (unfold same at h; cases of_decide_eq_true h; rfl) | (unfold same at h; cases h)
  | .int _, b, h => by cases b <;> first | (unfold same at h; cases of_decide_eq_true h; rfl) | (unfold same at h; cases h)
  | .str _, b, h => by cases b <;> first | (unfold same at h; cases of_decide_eq_true h; rfl) | (unfold same at h; cases h)
  | .list _, b, h => by cases b <;> first | (unfold same at h; rw [sameAll_eq h]) | (unfold same at h; cases h)
  | .tuple _, b, h => by cases b <;> first | (unfold same at h; rw [sameAll_eq h]) | (unfold same at h; cases h)
  | .dict _, b, h => by cases b <;> (unfold same at h; cases h)
theorem sameAll_eq : ∀ {a b : List PyData}, sameAll a b = true → a = b
  | [], b, h => by cases b <;> first | rfl | (unfold sameAll at h; cases h)
  | x :: xs, b, h => by
    cases b with
    | nil => unfold sameAll at h; cases h
    | cons y ys =>
      unfold sameAll at h
      rw [Bool.and_eq_true] at h
      rw [same_eq h.1, sameAll_eq h.2]
end
def sameR : R → R → Bool
  | .dat a, .dat b => same a b
  | .obj a, .obj b => decide (a = b)
  | .lam i none, .lam j none => decide (i = j)
  | .lam i (some d), .lam j (some e) => decide (i = j) && same d e
  | _, _ => false
def sameRs : List R → List R → Bool
  | [], [] => true
  | x :: xs, y :: ys => sameR x y && sameRs xs ys
  | _, _ => false
theorem sameR_eq : ∀ {a b : R}, sameR a b = true → a = b
  | .dat _, b, h => by cases b <;> first | (unfold sameR at h; rw [same_eq h]) | (unfold sameR at h; cases h)
  | .obj _, b, h => by cases b <;> first | (unfold sameR at h; rw [of_decide_eq_true h]) | (unfold sameR at h; cases h)
  | .ro _, b, h => by cases b <;> (unfold sameR at h; cases h)
  | .err _ _, b, h => by cases b <;> (unfold sameR at h; cases h)
  | .lam i none, b, h => by
    cases b with
    | lam j g => cases g with
      | none => unfold sameR at h; rw [of_decide_eq_true h]
      | some e => unfold sameR at h; cases h
    | _ => unfold sameR at h; cases h
  | .lam i (some d), b, h => by
    cases b with
    | lam j g => cases g with
      | none => unfold sameR at h; cases h
      | some e =>
        unfold sameR at h
        rw [Bool.and_eq_true] at h
        rw [of_decide_eq_true h.1, same_eq h.2]
    | _ => unfold sameR at h; cases h
theorem sameRs_eq : ∀ {a b : List R}, sameRs a b = true → a = b
  | [], b, h => by cases b <;> first | rfl | (unfold sameRs at h; cases h)
  | x :: xs, b, h => by
    cases b with
    | nil => unfold sameRs at h; cases h
    | cons y ys =>
      unfold sameRs at h
      rw [Bool.and_eq_true] at h
      rw [sameR_eq h.1, sameRs_eq h.2]

/-! ### later states, other forbidden places -/
structure Lt (β : List Addr) (α : List (Option Addr)) (H : Hp) (β' : List Addr) (α' : List (Option Addr)) (H' : Hp) : Prop where
  len : α.length ≤ α'.length
  old : ∀ (k : Nat) (a : Addr), k < α.length → α'[k]? = some (some a) → α[k]? = some (some a)
  hid : Same (hid (blk β α) H) (hid (blk β' α') H')
section
variable {K : Tb} {β β' β'' : List Addr} {α α' α'' : List (Option Addr)} {H H' H'' : Hp} {S : Sto}
theorem Lt.refl : Lt β α H β α H := ⟨Nat.le_refl _, fun _ _ _ h => h, Same.refl _⟩
theorem Lt.of (e : Ext α H α' H') : Lt β α H β α' H' := ⟨e.len, e.old, e.hid⟩
theorem Lt.trans (e : Lt β α H β' α' H') (f : Lt β' α' H' β'' α'' H'') : Lt β α H β'' α'' H'' :=
  ⟨Nat.le_trans e.len f.len, fun k a h q => e.old k a h (f.old k a (Nat.lt_of_lt_of_le h e.len) q), e.hid.trans f.hid⟩
theorem Vr.lt (e : Lt β α H β' α' H') {r : R} {v : V} (h : Vr K β α H r v) : Vr K β' α' H' r v := by
  cases r with
  | dat d => exact Dq.same e.hid h
  | obj k => exact ⟨Nat.lt_of_lt_of_le h.1 e.len, fun a q => h.2 a (e.old k a h.1 q)⟩
  | ro ds =>
    obtain ⟨a, vs, e1, e2, e3⟩ := h
    exact ⟨a, vs, e1, e.hid.seq e2, DqAll.same e.hid e3⟩
  | err c f => exact h.elim
  | lam i f => exact ⟨LamR.same e.hid h.1, K.ctxS _ _ _ _ _ _ e.len e.old e.hid h.2⟩
theorem Er.lt (e : Lt β α H β' α' H') {σ : L2.St} {ρ : Rho} (h : Er K β α H σ ρ) : Er K β' α' H' σ ρ := ⟨h.1, fun i r q => (h.2 i r q).to rfl (fun _ _ _ _ z => z.to e.hid) fun _ _ z => z.lt e⟩
theorem Vrs.lt (e : Lt β α H β' α' H') {rs : List R} {vs : List V} (h : Vrs K β α H rs vs) : Vrs K β' α' H' rs vs := Paired.mapP h fun _ _ q => q.lt e
end

/-! ### targets -/
abbrev GM := R → Rho → Option Rho
abbrev GsM := List PyData → Rho → Option Rho
def gN (i : Nat) : GM := fun r ρ => some (ρ.set i (some r))
def gsNil : GsM := fun ds ρ => match ds with
  | [] => some ρ
  | _ => none
def gsCons (g : GM) (gs : GsM) : GsM := fun ds ρ => match ds with
  | d :: ds => (g (.dat d) ρ).bind (gs ds)
  | [] => none
def gTp (n : Nat) (gs : GsM) : GM := fun r ρ => match tv r with
  | some ds => if ds.length = n then gs ds ρ else none
  | none => none
def tG (T : Tb) (vs : List Nat) (g : GM) : TG := fun v σ H Q => ∃ β α S ρ r ρ', Rl T β α S H ∧ Er T β α H σ ρ ∧ Vr T β α H r v ∧ g r ρ = some ρ' ∧ ∀ σ', Er T β α H σ' ρ' → wipe σ' vs = wipe σ vs → Q σ' H
def tGs (T : Tb) (vs : List Nat) (g : GsM) : TGs := fun us σ H Q => ∃ β α S ρ ds ρ', Rl T β α S H ∧ Er T β α H σ ρ ∧ DqAll T.K (hid (blk β α) H) us ds ∧ g ds ρ = some ρ' ∧ ∀ σ', Er T β α H σ' ρ' → wipe σ' vs = wipe σ vs → Q σ' H
theorem wipe_set_in {σ : L2.St} {i : Nat} {o : Option V} : ∀ {vs : List Nat}, i ∈ vs → wipe (σ.set i o) vs = wipe σ vs
  | v :: vs, h => by
    unfold wipe
    by_cases e : i ∈ vs
    · rw [wipe_set_in e]
    · have e2 : i = v := by
        rcases List.mem_cons.mp h with z | z
        · exact z
        · exact absurd z e
      subst e2
      have q : ∀ {us : List Nat}, i ∉ us → wipe (σ.set i o) us = (wipe σ us).set i o := by
        intro us
        induction us with
        | nil => intro _; rfl
        | cons u us ih =>
          intro hn
          have h1 : i ≠ u := fun z => hn (by rw [z]; exact List.mem_cons_self)
          have h2 : i ∉ us := fun z => hn (List.mem_cons_of_mem _ z)
          unfold wipe
          rw [ih h2, List.set_comm _ _ h1]
      rw [q e, List.set_set]
section
variable {X : Cx} {T : Tb} {vs : List Nat} {pos : Pos} {e : Expr} {es : List Expr} {g : GM} {gs : GsM}
theorem pg_le {t t' : TG} (h : PG X e t) (i : ∀ v σ H Q, t' v σ H Q → t v σ H Q) : PG X e t' := ⟨fun pins s σ H v u Q I r q => h.run pins s σ H v u Q I r (i v σ H Q q)⟩
theorem pgs_le {t t' : TGs} (h : PGs X es t) (i : ∀ v σ H Q, t' v σ H Q → t v σ H Q) : PGs X es t' := ⟨fun pins s σ H v u Q I r q => h.run pins s σ H v u Q I r (i v σ H Q q)⟩
theorem tg_name {x : Str} (i : Nat) (hN : X.N.Nodup) (hi : X.N[i]? = some x) (hx : Loc X.env.scope x) (hv : i ∈ vs := by decide) (hf : X.fn x = true ∨ X.env.scope.names.lookup x = some .local := by first | exact .inl rfl | exact .inr rfl | assumption) : PG X (.Name x pos) (tG T vs (gN i)) := by
  refine pg_le (pg_name hN hi hx hf) fun v σ H Q ⟨β, α, S, ρ, r, ρ', hR, hE, hr, hg, k⟩ => ?_
  cases hg
  exact k _ (hE.set hr) (wipe_set_in hv)
theorem tgs_nil : PGs X [] (tGs T vs gsNil) := by
  refine pgs_le pgs_nil fun us σ H Q ⟨β, α, S, ρ, ds, ρ', hR, hE, hd, hg, k⟩ => ?_
  cases hd with
  | nil => cases hg; exact ⟨rfl, k _ hE rfl⟩
  | cons _ _ => cases hg
theorem tgs_cons (h1 : PG X e (tG T vs g)) (h2 : PGs X es (tGs T vs gs)) (hs : (assignEach (e :: es) X.env).map (·.2) = assign e X.env :: (assignEach es X.env).map (·.2) := by rfl) : PGs X (e :: es) (tGs T vs (gsCons g gs)) := by
  refine pgs_le (pgs_cons h1 h2 hs) fun us σ H Q ⟨β, α, S, ρ, ds, ρ', hR, hE, hd, hg, k⟩ => ?_
  cases hd with
  | nil => cases hg
  | @cons v us d ds hd hds =>
    have hg' : (g (.dat d) ρ).bind (gs ds) = some ρ' := hg
    cases q : g (.dat d) ρ with
    | none => rw [q] at hg'; cases hg'
    | some ρ1 =>
      rw [q] at hg'
      refine ⟨v, us, rfl, β, α, S, ρ, .dat d, ρ1, hR, hE, hd, q, fun σ1 E1 w1 => ?_⟩
      exact ⟨β, α, S, ρ1, ds, ρ', hR, E1, hds, hg', fun σ2 E2 w2 => k σ2 E2 (w2.trans w1)⟩
theorem tg_tup {k : Nat} (n : Nat) (hK : X.K = T.K) (hc : X.calm = true) (h : PGs X es (tGs T vs gs)) (hn : (assignEach es X.env).length = n := by rfl) (hst : (assignEach es X.env).findIdx? (·.1) = none := by rfl) : PG X (.Tuple es k pos) (tG T vs (gTp n gs)) := by
  refine pg_le (pg_tup (n := n) hc h hn hst) fun v σ H Q ⟨β, α, S, ρ, r, ρ', hR, hE, hr, hg, k⟩ => ?_
  unfold gTp at hg
  split at hg
  · rename_i ds q
    split at hg
    · rename_i hl
      obtain ⟨a, us, rfl, h1, h2⟩ := tv_ok hr q
      exact ⟨a, us, rfl, by rw [hK]; exact h1, by rw [DqAll.length h2]; exact hl, β, α, S, ρ, ds, ρ', hR, hE, h2, hg, k⟩
    · cases hg
  · cases hg
end

/-! ### what is walked -/
structure Items where
  rs : List R
  keep : List (Nat × List R)
abbrev IM := Rho → Sto → Out Items
def Stands (S : Sto) (l : List (Nat × List R)) : Prop := ∀ p ∈ l, S[p.1]? = some (.lst p.2)
def stands (S : Sto) : List (Nat × List R) → Bool
  | [] => true
  | (k, rs) :: l => (match S[k]? with
    | some (.lst qs) => sameRs qs rs
    | _ => false) && stands S l
theorem stands_ok {S : Sto} : ∀ {l : List (Nat × List R)}, stands S l = true → Stands S l
  | [], _ => fun p hp => by cases hp
  | (k, rs) :: l, h => by
    unfold stands at h
    rw [Bool.and_eq_true] at h
    intro p hp
    rcases List.mem_cons.mp hp with e | e
    · subst e
      have h1 := h.1
      split at h1
      · rename_i qs q
        rw [sameRs_eq h1] at q
        exact q
      · cases h1
    · exact stands_ok h.2 p e
/-- J walks these, in whatever later state in which what it reads stands -/
def WalkR (K : Tb) (β : List Addr) (α : List (Option Addr)) (H : Hp) (it : Items) (J : It) : Prop :=
  ∃ (G : Hp → Prop) (Y : Nat → Hp → V → Hp → Prop), Walk J it.rs.length G Y ∧ ∀ β' α' S' H', Lt β α H β' α' H' → Rl K β' α' S' H' → Stands S' it.keep →
    G H' ∧ ∀ i x H'', Y i H' x H'' → Same H' H'' ∧ ∀ r, it.rs[i]? = some r → Vr K β' α' H'' r x
def tI (T : Tb) (W : WX) (im : IM) : TI := fun σ H Rk => ∃ β α S ρ, Rl T β α S H ∧ Er T β α H σ ρ ∧ PostG T β W (WalkR T β) σ (im ρ S) α H Rk
/-- what may be walked of a value -/
def itOf (x : R) (S : Sto) : Out Items := match x with
  | .dat (.list ds) => .ok ⟨ds.map .dat, []⟩ S
  | .dat (.tuple ds) => .ok ⟨ds.map .dat, []⟩ S
  | .ro ds => .ok ⟨ds.map .dat, []⟩ S
  | .dat (.str z) => .ok ⟨z.cps.toList.map fun c => .dat (.str ⟨#[c]⟩), []⟩ S
  | .obj k => match S[k]? with
    | some (.lst rs) => .ok ⟨rs, [(k, rs)]⟩ S
    | _ => .stuck
  | _ => .stuck
def iOf (m : EM) : IM := fun ρ S => (m ρ S).bind itOf
section
variable {K : Tb} {β : List Addr} {α : List (Option Addr)} {H : Hp} {S : Sto}
theorem walk_lst {n : Nat} {a : Addr} : Walk (Itl K a) n (fun H => ∃ vs, SqL K H a vs ∧ vs.length = n) (fun i H x H' => H' = H ∧ ∀ vs, SqL K H a vs → vs[i]? = some x) :=
  ⟨fun i H hi ⟨vs, h, e⟩ => ⟨vs, vs[i]'(by omega), h, by simp [show i < vs.length by omega]⟩, fun H ⟨vs, h, e⟩ => ⟨vs, h, Nat.le_of_eq e⟩, fun _ _ _ _ _ _ y => y⟩
theorem walkR_dat {a : Addr} {vs : List V} {ds : List PyData} (h : SqL K (hid (blk β α) H) a vs) (hs : DqAll K (hid (blk β α) H) vs ds) : WalkR K β α H ⟨ds.map .dat, []⟩ (Itl K a) := by
  refine ⟨_, _, walk_list (xs := vs) |> (by rw [List.length_map, ← DqAll.length hs]; exact ·), fun β' α' S' H' l _ _ => ⟨hid_le.seq (l.hid.seq h), fun i x H'' y => ?_⟩⟩
  obtain ⟨e, y⟩ := y
  subst e
  refine ⟨Same.refl _, fun r hr => ?_⟩
  obtain ⟨v, e1, e2⟩ := Vrs.get (DqAll.vrs hs) hr
  rw [y] at e1
  cases e1
  exact e2.lt l
theorem walkR_tup {a : Addr} {vs : List V} {ds : List PyData} (h : SqT K (hid (blk β α) H) a vs) (hs : DqAll K (hid (blk β α) H) vs ds) : WalkR K β α H ⟨ds.map .dat, []⟩ (Itt K a) := by
  refine ⟨_, _, walk_tup (xs := vs) |> (by rw [List.length_map, ← DqAll.length hs]; exact ·), fun β' α' S' H' l _ _ => ⟨sqT_same hid_le (sqT_same l.hid h), fun i x H'' y => ?_⟩⟩
  obtain ⟨e, y⟩ := y
  subst e
  refine ⟨Same.refl _, fun r hr => ?_⟩
  obtain ⟨v, e1, e2⟩ := Vrs.get (DqAll.vrs hs) hr
  rw [y] at e1
  cases e1
  exact e2.lt l
theorem walkR_obj (Rr : Rl K β α S H) {k : Nat} {rs : List R} {a : Addr} (q : S[k]? = some (.lst rs)) (ha : α[k]? = some (some a)) : WalkR K β α H ⟨rs, [(k, rs)]⟩ (Itl K a) := by
  refine ⟨_, _, walk_lst, fun β' α' S' H' l R' st => ?_⟩
  have st' := st (k, rs) (by simp)
  obtain ⟨b, vs, e1, e2, e3⟩ := R'.cell k rs st'
  have hk : k < α.length := (List.getElem?_eq_some_iff.mp ha).1
  have e4 := l.old k b hk e1
  rw [ha] at e4
  cases e4
  refine ⟨⟨vs, SqL.of e2, e3.length.symm⟩, fun i x H'' y => ?_⟩
  obtain ⟨e, y⟩ := y
  subst e
  refine ⟨Same.refl _, fun r hr => ?_⟩
  obtain ⟨v, z1, z2⟩ := e3.get hr
  rw [y vs (SqL.of e2)] at z1
  cases z1
  exact z2
theorem walkR_str {z : Str} : WalkR K β α H ⟨z.cps.toList.map fun c => .dat (.str ⟨#[c]⟩), []⟩ (Its z) := by
  refine ⟨_, _, walk_str (z := z) |> (by rw [List.length_map, Array.length_toList]; exact ·), fun β' α' S' H' l _ _ => ⟨trivial, fun i x H'' y => ?_⟩⟩
  obtain ⟨e, c, hc, hx⟩ := y
  subst e hx
  refine ⟨Same.refl _, fun r hr => ?_⟩
  rw [List.getElem?_map, Array.getElem?_toList, hc] at hr
  cases hr
  exact .str _
end
section
variable {X : Cx} {T : Tb} {W : WX} {tg e : Expr} {m : EM} {im : IM}
theorem pi_le {t t' : TI} (h : PI X tg e t) (i : ∀ σ H Q, t' σ H Q → t σ H Q) : PI X tg e t' := ⟨fun pins s σ H Q I q => h.run pins s σ H Q I (i σ H Q q)⟩
theorem pi_or {t t' : TI} (h : PI X tg e t) (h' : PI X tg e t') : PI X tg e (fun σ H Q => t σ H Q ∨ t' σ H Q) := ⟨fun pins s σ H Q I q => q.elim (h.run pins s σ H Q I) (h'.run pins s σ H Q I)⟩
/-- a list, a tuple, a text -/
theorem ti_of (hK : X.K = T.K) (h : PE X e (tE T W m)) : PI X tg e (tI T W (iOf m)) := by
  refine pi_le (pi_or (pi_list h) (pi_or (pi_tup h) (pi_str h))) fun σ H Rk ⟨β, α, S, ρ, hR, hE, hp⟩ => ?_
  have h1 := PostG.bind (rel := Vr T β) (show PostG T β W (WalkR T β) σ ((m ρ S).bind itOf) α H Rk from hp)
  rw [hK]
  cases q : m ρ S with
  | stuck => rw [q] at h1; exact h1.elim
  | exc k f S1 => rw [q] at h1; exact .inl ⟨β, α, S, ρ, hR, hE, by rw [q]; exact h1⟩
  | ok x S1 =>
    rw [q] at h1
    have go : ∀ {P : V → Hp → Prop}, (∀ α1 H1 v, Rl T β α1 S1 H1 → Vr T β α1 H1 x v → PostG T β W (WalkR T β) σ (itOf x S1) α1 H1 Rk → P v H1) → tE T W m σ H P := by
      intro P k
      refine ⟨β, α, S, ρ, hR, hE, ?_⟩
      rw [q]
      intro α1 H1 v e1 R1 V1
      obtain ⟨α1', S1', x', ex, e1', R1', V1', h2⟩ := h1 α1 H1 v e1 R1 V1
      cases ex
      exact k α1' H1 v R1' V1' h2
    have bad : ∀ {B : Prop}, itOf x S1 = .stuck → (PostG T β W (WalkR T β) σ (itOf x S1) α H Rk) → B := fun e z => by rw [e] at z; exact z.elim
    have hp' : PostG T β W (WalkR T β) σ (itOf x S1) α H Rk := by
      have z : PostG T β W (WalkR T β) σ ((m ρ S).bind itOf) α H Rk := hp
      rw [q] at z
      exact z
    cases x with
    | err _ _ => exact hp'.elim
    | lam _ _ => exact hp'.elim
    | ro ds =>
      refine .inl (go fun α1 H1 v R1 V1 h2 => ?_)
      obtain ⟨a, vs, rfl, z1, z2⟩ := V1
      exact ⟨a, rfl, ⟨vs, hid_le.seq z1⟩, h2 α1 H1 _ Ext.refl R1 (walkR_dat z1 z2)⟩
    | obj k =>
      refine .inl (go fun α1 H1 v R1 V1 h2 => ?_)
      unfold itOf at h2
      dsimp only at h2
      split at h2
      · rename_i rs qk
        obtain ⟨a, vs, z1, z2, z3⟩ := R1.cell k rs qk
        cases V1.2 a z1
        exact ⟨a, rfl, ⟨vs, SqL.of z2⟩, h2 α1 H1 _ Ext.refl R1 (walkR_obj R1 qk z1)⟩
      · exact h2.elim
    | dat d =>
      cases d with
      | list ds =>
        refine .inl (go fun α1 H1 v R1 V1 h2 => ?_)
        cases V1 with
        | @lst a vs _ z1 z2 => exact ⟨a, rfl, ⟨vs, SqL.of (hid_some.mp z1).2.1⟩, h2 α1 H1 _ Ext.refl R1 (walkR_dat (SqL.of z1) z2)⟩
      | tuple ds =>
        refine .inr (.inl (go fun α1 H1 v R1 V1 h2 => ?_))
        cases V1 with
        | @tup a vs _ z1 z2 => exact ⟨a, rfl, ⟨vs, sqT_same hid_le z1⟩, h2 α1 H1 _ Ext.refl R1 (walkR_tup z1 z2)⟩
      | str z =>
        refine .inr (.inr (go fun α1 H1 v R1 V1 h2 => ?_))
        cases vr_str V1
        exact ⟨z, rfl, h2 α1 H1 _ Ext.refl R1 walkR_str⟩
      | none => exact hp'.elim
      | bool b => exact hp'.elim
      | int b => exact hp'.elim
      | dict b => exact hp'.elim
/-! ### ranges -/
def rangeR (lo : Int) (n : Nat) : List R := (List.range n).map fun i => .dat (.int (lo + (i : Nat)))
def inR (i : Int) : Bool := decide (i.natAbs < 4611686018427387904)
theorem inR_ok {i : Int} (h : inR i = true) : -(2 ^ 62) ≤ i ∧ i < 2 ^ 62 := by
  unfold inR at h
  have h1 := of_decide_eq_true h
  exact ⟨by omega, by omega⟩
def gRange1 (xs : List R) (S : Sto) : Out Items := match xs with
  | [.dat (.int j)] => if inR j then .ok ⟨rangeR 0 j.toNat, []⟩ S else .stuck
  | _ => .stuck
def gRange2 (xs : List R) (S : Sto) : Out Items := match xs with
  | [.dat (.int i), .dat (.int j)] => if inR i && inR j then .ok ⟨rangeR i (j - i).toNat, []⟩ S else .stuck
  | _ => .stuck
def iArgs (g : List R → Sto → Out Items) (ms : EMs) : IM := fun ρ S => (ms ρ S).bind g
theorem walkR_range {K : Tb} {β : List Addr} {α : List (Option Addr)} {H : Hp} {lo : Int} {n : Nat} : WalkR K β α H ⟨rangeR lo n, []⟩ (Itr lo n) := by
  refine ⟨_, _, walk_range (lo := lo) (n := n) |> (by unfold rangeR; rw [List.length_map, List.length_range]; exact ·), fun β' α' S' H' l _ _ => ⟨trivial, fun i x H'' y => ?_⟩⟩
  obtain ⟨e, y⟩ := y
  subst e
  refine ⟨Same.refl _, fun r hr => ?_⟩
  unfold rangeR at hr
  rw [List.getElem?_map] at hr
  have hi : i < n := by
    cases z : (List.range n)[i]? with
    | none => rw [z] at hr; cases hr
    | some j => rw [← List.length_range (n := n)]; exact (List.getElem?_eq_some_iff.mp z).1
  rw [List.getElem?_range hi] at hr
  cases hr
  have y' : x = .int (lo + i) := y
  rw [y']
  exact .int _
theorem iargs_le {ms : EMs} {g : List R → Sto → Out Items} {t : List V → Hp → (It → Hp → Prop) → Prop} (hs : ∀ (β : List Addr) (σ : L2.St) (α : List (Option Addr)) (S : Sto) (H : Hp) (xs : List R) (vs : List V) (Rk : It → Hp → Prop), Rl T β α S H → Vrs T β α H xs vs →
    PostG T β W (WalkR T β) σ (g xs S) α H Rk → t vs H Rk) {σ : L2.St} {H : Hp} {Rk : It → Hp → Prop} (h : tI T W (iArgs g ms) σ H Rk) : tA T W ms σ H fun vs H1 => t vs H1 Rk := by
  obtain ⟨β, α, S, ρ, hR, hE, h⟩ := h
  refine ⟨β, α, S, ρ, hR, hE, ?_⟩
  have h1 := PostG.bind (rel := Vrs T β) h
  cases q : ms ρ S with
  | stuck => rw [q] at h1; exact h1.elim
  | exc k f S1 => rw [q] at h1; exact h1
  | ok x S1 =>
    rw [q] at h1
    intro α1 H1 v e1 R1 V1
    obtain ⟨α1', S1', x', ex, e1', R1', V1', h2⟩ := h1 α1 H1 v e1 R1 V1
    cases ex
    exact hs β σ α1' S1 H1 x v Rk R1' V1' h2
theorem ti_range1 {a : Expr} {ms : EMs} {p pos : Pos} (hg : Gl X "range") (hm : X.mg "range" = none) (ha : PA X [a] (tA T W ms)) (hs : starEach [a] X.env = [(false, eval a X.env)] := by rfl) : PI X tg (.Call (.Name "range" p) [a] [] pos) (tI T W (iArgs gRange1 ms)) := by
  refine pi_le (pi_range1 hg hm ha hs) fun σ H Rk h => iargs_le (t := fun vs H1 R => ∃ j : Int, vs = [.int j] ∧ -(2 ^ 62) ≤ j ∧ j < 2 ^ 62 ∧ R (Itr 0 j.toNat) H1) ?_ h
  intro β σ α S H xs vs Rk Rr hx h
  unfold gRange1 at h
  split at h
  · obtain ⟨v, rfl, hv⟩ := vrs1 hx
    cases vr_int hv
    split at h
    · rename_i q
      obtain ⟨q1, q2⟩ := inR_ok q
      exact ⟨_, rfl, q1, q2, h α H _ Ext.refl Rr walkR_range⟩
    · exact h.elim
  · exact h.elim
theorem ti_range2 {a b : Expr} {ms : EMs} {p pos : Pos} (hg : Gl X "range") (hm : X.mg "range" = none) (ha : PA X [a, b] (tA T W ms)) (hs : starEach [a, b] X.env = [(false, eval a X.env), (false, eval b X.env)] := by rfl) (hs2 : starEach [b] X.env = [(false, eval b X.env)] := by rfl) :
    PI X tg (.Call (.Name "range" p) [a, b] [] pos) (tI T W (iArgs gRange2 ms)) := by
  refine pi_le (pi_range2 hg hm ha hs hs2) fun σ H Rk h => iargs_le (t := fun vs H1 R => ∃ i j : Int, vs = [.int i, .int j] ∧ (-(2 ^ 62) ≤ i ∧ i < 2 ^ 62 ∧ -(2 ^ 62) ≤ j ∧ j < 2 ^ 62) ∧ R (Itr i (j - i).toNat) H1) ?_ h
  intro β σ α S H xs vs Rk Rr hx h
  unfold gRange2 at h
  split at h
  · obtain ⟨v, w, rfl, hv, hw⟩ := vrs2 hx
    cases vr_int hv; cases vr_int hw
    split at h
    · rename_i q
      rw [Bool.and_eq_true] at q
      obtain ⟨q1, q2⟩ := inR_ok q.1
      obtain ⟨q3, q4⟩ := inR_ok q.2
      exact ⟨_, _, rfl, ⟨q1, q2, q3, q4⟩, h α H _ Ext.refl Rr walkR_range⟩
    · exact h.elim
  · exact h.elim
end

/-! ### comprehensions -/
def wipeR (ρ : Rho) : List Nat → Rho
  | [] => ρ
  | v :: vs => (wipeR ρ vs).set v none
theorem er_wipe {K : Tb} {β : List Addr} {α : List (Option Addr)} {H : Hp} {σ : L2.St} {ρ : Rho} (h : Er K β α H σ ρ) : ∀ vs, Er K β α H (wipe σ vs) (wipeR ρ vs)
  | [] => h
  | v :: vs => Er.unset (er_wipe h vs) v
/-- an exception is not let -/
def noX {a : Type} (o : Out a) : Out a := match o with
  | .exc _ _ _ => .stuck
  | o => o
def lcLoop (keep : List (Nat × List R)) (g : GM) (t : TM) (elt : EM) (ρ : Rho) : List R → Sto → Out (List R)
  | [], S => if stands S keep then .ok [] S else .stuck
  | r :: rs, S => if stands S keep then (match g r ρ with
    | none => .stuck
    | some ρ1 => (noX (t ρ1 S)).bind fun b S2 => match b with
      | true => (noX (elt ρ1 S2)).bind fun y S3 => (lcLoop keep g t elt ρ rs S3).bind fun zs S4 => .ok (y :: zs) S4
      | false => lcLoop keep g t elt ρ rs S2) else .stuck
def eLc (own : Bool) (im : IM) (g : GM) (t : TM) (elt : EM) (vs : List Nat) : EM := fun ρ S => (im ρ S).bind fun it S1 =>
  if it.rs.length ≤ sizeLine then (lcLoop it.keep g t elt (wipeR ρ vs) it.rs S1).bind fun rs S2 => newL own rs S2 else .stuck
def tYes' : TM := fun _ S => .ok true S
section
variable {X : Cx} {T : Tb} {W : WX}
theorem pts_le {es : List Expr} {t t' : TT} (h : PTs X es t) (i : ∀ σ H Q, t' σ H Q → t σ H Q) : PTs X es t' := ⟨fun pins s σ H Q I q => h.run pins s σ H Q I (i σ H Q q)⟩
theorem tts_nil : PTs X [] (tT T W tYes') := pts_le pts_nil fun _ H Q ⟨_, _, _, _, hR, _, h⟩ => h _ H _ Ext.refl hR rfl
theorem tts_one {c : Expr} {t : TM} (h : PT X c (tT T W t)) : PTs X [c] (tT T W t) := pts_one h
/-- the list that is being made, forbidden meanwhile -/
theorem Rl.forbid {K : Tb} {β : List Addr} {α : List (Option Addr)} {H : Hp} {S : Sto} (Rr : Rl K β α S H) {D : Addr} (hD : H D = none) (o : HO) (ho : Bd (some o) := by trivial) :
    Rl K (D :: β) α S (upd H D o) ∧ Lt β α H (D :: β) α (upd H D o) := by
  have nD : D ∉ live α := fun z => Rr.at' D z hD
  have lt : Lt β α H (D :: β) α (upd H D o) := ⟨Nat.le_refl _, fun _ _ _ h => h, fun a u h => by
    obtain ⟨n, q, nt⟩ := hid_some.mp h
    have ne : a ≠ D := fun z => by rw [z, hD] at q; cases q
    refine hid_some.mpr ⟨fun z => ?_, by rw [upd_ne ne]; exact q, nt⟩
    rcases List.mem_append.mp z with z | z
    · rcases List.mem_cons.mp z with z | z
      · exact ne z
      · exact n (List.mem_append_left _ z)
    · exact n (List.mem_append_right _ z)⟩
  refine ⟨{ len := Rr.len, inj := Rr.inj, off := fun a h z => ?_, bt := fun b h => ?_, mt := fun b h => ?_, cell := fun k rs q => ?_, tab := Rr.tab.ext (same_new hD) }, lt⟩
  · rcases List.mem_cons.mp z with z | z
    · rw [z] at h; exact nD h
    · exact Rr.off a h z
  · rcases List.mem_cons.mp h with z | z
    · rw [z, upd_same]; exact ho
    · by_cases y : b = D
      · rw [y, upd_same]; exact ho
      · rw [upd_ne y]; exact Rr.bt b z
  · rw [upd_ne (fun y => nD (by rw [← y]; exact h))]; exact Rr.mt b h
  · obtain ⟨a, vs, e1, e2, e3⟩ := Rr.cell k rs q
    exact ⟨a, vs, e1, by rw [upd_ne (fun z => by rw [z, hD] at e2; cases e2)]; exact e2, Vrs.lt lt e3⟩
/-- the forbidden list grows -/
theorem Rl.grow {K : Tb} {β : List Addr} {α : List (Option Addr)} {H : Hp} {S : Sto} {D : Addr} (Rr : Rl K (D :: β) α S H) {vs0 : List V} (hd0 : H D = some (.lst vs0)) (o : HO) (ho : Bd (some o) := by trivial) : Rl K (D :: β) α S (upd H D o) ∧ Lt (D :: β) α H (D :: β) α (upd H D o) := by
  have nD : D ∉ live α := fun z => Rr.off D z List.mem_cons_self
  have lt : Lt (D :: β) α H (D :: β) α (upd H D o) := ⟨Nat.le_refl _, fun _ _ _ h => h, fun a u h => by
    obtain ⟨n, q, nt⟩ := hid_some.mp h
    have ne : a ≠ D := fun z => n (by rw [z]; exact List.mem_append_left _ List.mem_cons_self)
    exact hid_some.mpr ⟨n, by rw [upd_ne ne]; exact q, nt⟩⟩
  refine ⟨{ len := Rr.len, inj := Rr.inj, off := Rr.off, bt := fun b h => ?_, mt := fun b h => ?_, cell := fun k rs q => ?_, tab := tabs_upd Rr.tab hd0 }, lt⟩
  · by_cases y : b = D
    · rw [y, upd_same]; exact ho
    · rw [upd_ne y]; exact Rr.bt b h
  · rw [upd_ne (fun y => nD (by rw [← y]; exact h))]; exact Rr.mt b h
  · obtain ⟨a, vs, e1, e2, e3⟩ := Rr.cell k rs q
    exact ⟨a, vs, e1, by rw [upd_ne (fun z => nD (by rw [← z]; exact mem_live.mpr ⟨k, e1⟩))]; exact e2, Vrs.lt lt e3⟩
/-- .. and is let again -/
theorem Rl.allow {K : Tb} {β : List Addr} {α : List (Option Addr)} {H : Hp} {S : Sto} {D : Addr} (Rr : Rl K (D :: β) α S H) : Rl K β α S H ∧ Lt (D :: β) α H β α H := by
  have lt : Lt (D :: β) α H β α H := ⟨Nat.le_refl _, fun _ _ _ h => h, fun a u h => by
    obtain ⟨n, q, nt⟩ := hid_some.mp h
    refine hid_some.mpr ⟨fun z => n ?_, q, nt⟩
    rcases List.mem_append.mp z with z | z
    · exact List.mem_append_left _ (List.mem_cons_of_mem _ z)
    · exact List.mem_append_right _ z⟩
  refine ⟨{ len := Rr.len, inj := Rr.inj, off := fun a h z => Rr.off a h (List.mem_cons_of_mem _ z), bt := fun b h => Rr.bt b (List.mem_cons_of_mem _ h), mt := Rr.mt, cell := fun k rs q => ?_, tab := Rr.tab }, lt⟩
  obtain ⟨a, vs, e1, e2, e3⟩ := Rr.cell k rs q
  exact ⟨a, vs, e1, e2, Vrs.lt lt e3⟩

/-- the list is made: it is a cell now -/
theorem Rl.adopt {K : Tb} {β : List Addr} {α : List (Option Addr)} {H : Hp} {S : Sto} {D : Addr} {rs : List R} {vs : List V} (Rr : Rl K (D :: β) α S H) (nb : D ∉ β) (hD : H D = some (.lst vs)) (hv : Vrs K (D :: β) α H rs vs) :
    Rl K β (α ++ [some D]) (S ++ [.lst rs]) H := by
  have nD : D ∉ live α := fun z => Rr.off D z List.mem_cons_self
  have hl : ∀ {k : Nat} {a : Addr}, (α ++ [some D])[k]? = some (some a) → (k < α.length ∧ α[k]? = some (some a)) ∨ (k = α.length ∧ a = D) := by
    intro k a e
    by_cases z : k < α.length
    · rw [List.getElem?_append_left z] at e
      exact .inl ⟨z, e⟩
    · rw [List.getElem?_append_right (by omega)] at e
      by_cases y : k - α.length = 0
      · rw [y] at e
        cases e
        exact .inr ⟨by omega, rfl⟩
      · rw [List.getElem?_eq_none (by rw [List.length_singleton]; omega)] at e
        cases e
  have mem : ∀ {a : Addr}, a ∈ live (α ++ [some D]) → a ∈ live α ∨ a = D := fun h => by
    obtain ⟨k, hk⟩ := mem_live.mp h
    rcases hl hk with ⟨_, q⟩ | ⟨_, q⟩
    · exact .inl (mem_live.mpr ⟨k, q⟩)
    · exact .inr q
  have lt : Lt (D :: β) α H β (α ++ [some D]) H := ⟨by rw [List.length_append]; omega, fun k a h e => by
    rcases hl e with ⟨_, q⟩ | ⟨q, _⟩
    · exact q
    · omega, fun a u h => by
    obtain ⟨n, q, nt⟩ := hid_some.mp h
    refine hid_some.mpr ⟨fun z => n ?_, q, nt⟩
    rcases List.mem_append.mp z with z | z
    · exact List.mem_append_left _ (List.mem_cons_of_mem _ z)
    · rcases mem z with z | z
      · exact List.mem_append_right _ z
      · rw [z]; exact List.mem_append_left _ List.mem_cons_self⟩
  refine { len := by rw [List.length_append, List.length_append, Rr.len]; rfl, inj := ?_, off := ?_, bt := fun b h => Rr.bt b (List.mem_cons_of_mem _ h), mt := ?_, cell := ?_, tab := Rr.tab }
  · intro k j a h1 h2
    rcases hl h1 with ⟨_, q1⟩ | ⟨q1, z1⟩
    · rcases hl h2 with ⟨_, q2⟩ | ⟨q2, z2⟩
      · exact Rr.inj k j a q1 q2
      · exact absurd (mem_live.mpr ⟨k, q1⟩) (by rw [z2]; exact nD)
    · rcases hl h2 with ⟨_, q2⟩ | ⟨q2, z2⟩
      · exact absurd (mem_live.mpr ⟨j, q2⟩) (by rw [z1]; exact nD)
      · omega
  · intro a h
    rcases mem h with q | q
    · exact fun z => Rr.off a q (List.mem_cons_of_mem _ z)
    · rw [q]; exact nb
  · intro a h
    rcases mem h with q | q
    · exact Rr.mt a q
    · rw [q, hD]; exact trivial
  · intro k rs' h
    by_cases z : k < S.length
    · rw [List.getElem?_append_left z] at h
      obtain ⟨a, ws, e1, e2, e3⟩ := Rr.cell k rs' h
      exact ⟨a, ws, by rw [List.getElem?_append_left (by rw [Rr.len]; exact z)]; exact e1, e2, Vrs.lt lt e3⟩
    · rw [List.getElem?_append_right (by omega)] at h
      by_cases y : k - S.length = 0
      · rw [y] at h
        cases h
        have ek : k = α.length := by rw [Rr.len]; omega
        refine ⟨D, vs, ?_, hD, Vrs.lt lt hv⟩
        rw [ek, List.getElem?_append_right (Nat.le_refl _), Nat.sub_self]
        rfl
      · rw [List.getElem?_eq_none (by rw [List.length_singleton]; omega)] at h
        cases h
/-- the end of a comprehension -/
theorem made_ok {β : List Addr} {σ : L2.St} {α1 α : List (Option Addr)} {H1 H : Hp} {S : Sto} {D : Addr} {rs : List R} {vs : List V} {own : Bool} {Q : VK} (ext : Ext α1 H1 α H) (h1 : H1 D = none) (nb : D ∉ β) (Rr : Rl T (D :: β) α S H) (hD : H D = some (.lst vs)) (hv : Vrs T (D :: β) α H rs vs)
    (h : PostG T β W (Vr T β) σ (newL own rs S) α1 H1 Q) : Q (.ref D) H := by
  have nD : D ∉ live α := fun z => Rr.off D z List.mem_cons_self
  cases own with
  | true =>
    have R2 := Rr.adopt nb hD hv
    have x2 : Ext α1 H1 (α ++ [some D]) H := {
      len := by rw [List.length_append]; exact Nat.le_trans ext.len (Nat.le_add_right _ _)
      old := fun k a hk e => by
        rw [List.getElem?_append_left (Nat.lt_of_lt_of_le hk ext.len)] at e
        exact ext.old k a hk e
      new := fun k a hk e => by
        by_cases z : k < α.length
        · rw [List.getElem?_append_left z] at e
          exact ext.new k a hk e
        · rw [List.getElem?_append_right (by omega)] at e
          by_cases y : k - α.length = 0
          · rw [y] at e
            cases e
            exact h1
          · rw [List.getElem?_eq_none (by rw [List.length_singleton]; omega)] at e
            cases e
      keep := ext.keep
      stay := ext.stay }
    refine h (α ++ [some D]) H _ x2 R2 ⟨by rw [List.length_append, List.length_singleton, ← Rr.len]; omega, fun a e => ?_⟩
    rw [← Rr.len, List.getElem?_append_right (Nat.le_refl _), Nat.sub_self] at e
    cases e
    rfl
  | false =>
    unfold newL at h
    dsimp only at h
    split at h
    · rename_i ds e
      have e' := datAll_eq e
      subst e'
      obtain ⟨R2, lt⟩ := Rr.allow
      refine h α H _ ext R2 (.lst (hid_some.mpr ⟨fun z => ?_, hD, trivial⟩) (Vrs.dq (Vrs.lt lt hv)))
      rcases List.mem_append.mp z with z | z
      · exact nb z
      · exact nD z
    · exact h.elim
theorem wipe_idem (σ : L2.St) : ∀ vs : List Nat, wipe (wipe σ vs) vs = wipe σ vs := by
  have key : ∀ (us vs : List Nat) (τ : L2.St), (∀ i ∈ us, i ∈ vs) → wipe (wipe τ us) vs = wipe τ vs := by
    intro us
    induction us with
    | nil => intro vs τ _; rfl
    | cons u us ih =>
      intro vs τ h
      show wipe ((wipe τ us).set u none) vs = wipe τ vs
      rw [wipe_set_in (h u List.mem_cons_self)]
      exact ih vs τ fun i hi => h i (List.mem_cons_of_mem _ hi)
  exact fun vs => key vs vs σ fun _ h => h
structure LcInv (T : Tb) (W : WX) (β : List Addr) (σ : L2.St) (D : Addr) (α1 : List (Option Addr)) (H1 : Hp) (it : Items) (own : Bool) (g : GM) (t : TM) (elt : EM) (ρ : Rho) (vs : List Nat) (Q : VK) (i : Nat) (H : Hp) : Prop where
  ex : ∃ α2 S2 ars avs, Ext α1 H1 α2 H ∧ Lt β α1 H1 (D :: β) α2 H ∧ Rl T (D :: β) α2 S2 H ∧ H D = some (.lst avs) ∧ Vrs T (D :: β) α2 H ars avs ∧ Er T (D :: β) α2 H (wipe σ vs) (wipeR ρ vs) ∧ ars.length ≤ i ∧
    PostG T β W (Vr T β) σ ((lcLoop it.keep g t elt (wipeR ρ vs) (it.rs.drop i) S2).bind fun rs S3 => newL own (ars ++ rs) S3) α1 H1 Q
abbrev W0 : WX := fun _ _ _ _ => False
theorem loop_stands {keep : List (Nat × List R)} {g : GM} {t : TM} {elt : EM} {ρ : Rho} {rs : List R} {S : Sto} (h : lcLoop keep g t elt ρ rs S ≠ .stuck) : Stands S keep := by
  cases rs with
  | nil =>
    unfold lcLoop at h
    split at h
    · rename_i z; exact stands_ok z
    · exact absurd rfl h
  | cons r rs =>
    unfold lcLoop at h
    split at h
    · rename_i z; exact stands_ok z
    · exact absurd rfl h
theorem post_ne {a b c : Type} {rel : List (Option Addr) → Hp → a → b → Prop} {β : List Addr} {σ : L2.St} {α : List (Option Addr)} {H : Hp} {o : Out c} {f : c → Sto → Out a} {Q : b → Hp → Prop} (h : PostG T β W rel σ (o.bind f) α H Q) : o ≠ .stuck := fun e => by rw [e] at h; exact h.elim
theorem lc_le {im : IM} {g : GM} {t : TM} {elt : EM} {vs : List Nat} {own : Bool} {σ : L2.St} {H : Hp} {Q : VK} (h : tE T W (eLc own im g t elt vs) σ H Q) : tLc (tI T W im) (tG T vs g) (tT T W0 t) (tE T W0 elt) vs σ H Q := by
  obtain ⟨β, α, S, ρ, hR, hE, h⟩ := h
  refine ⟨β, α, S, ρ, hR, hE, ?_⟩
  have h1 := PostG.bind (rel := WalkR T β) h
  cases q : im ρ S with
  | stuck => rw [q] at h1; exact h1.elim
  | exc k f S1 => rw [q] at h1; exact h1
  | ok it S1 =>
    rw [q] at h1
    intro α1 H1 J e1 R1 V1
    obtain ⟨α1', S1', it', ex, e1', R1', V1', h2⟩ := h1 α1 H1 J e1 R1 V1
    cases ex
    clear h1
    split at h2
    · rename_i hz
      intro D hD
      obtain ⟨G, Y, wk, V2⟩ := V1'
      have nb : D ∉ β := fun z => (R1'.bt D z).has hD
      obtain ⟨Rf, Lf⟩ := R1'.forbid hD (.lst [])
      have sm : Same H1 (upd H1 D (.lst [])) := same_new hD
      refine lc_it wk (LcInv T W β σ D α1' H1 it own g t elt ρ vs Q) ⟨α1', S1, [], [], Ext.same sm, Lf, Rf, upd_same, .nil, ?_, Nat.zero_le _, by rw [List.drop_zero]; exact h2⟩ (fun i H2 hi p => ?_) (fun i x H2 H2' hi p hy => ?_) fun H2 p => ?_
      · have E1 := er_wipe (hE.ext e1') vs
        exact E1.lt Lf
      · obtain ⟨α2, S2, ars, avs, x2, l2, R2, d2, v2, E2, n2, p2⟩ := p.ex
        exact (V2 _ α2 S2 H2 l2 R2 (loop_stands (post_ne p2))).1
      · obtain ⟨α2, S2, ars, avs, x2, l2, R2, d2, v2, E2, n2, p2⟩ := p.ex
        have st := loop_stands (post_ne p2)
        obtain ⟨sm2, hr⟩ := (V2 _ α2 S2 H2 l2 R2 st).2 i x H2' hy
        have hlt : i < it.rs.length := hi
        have hd : it.rs.drop i = it.rs[i] :: it.rs.drop (i + 1) := List.drop_eq_getElem_cons hlt
        have Vx := hr it.rs[i] (List.getElem?_eq_getElem hlt)
        rw [hd] at p2
        unfold lcLoop at p2
        split at p2
        · split at p2
          · exact p2.elim
          · rename_i ρ1 hg
            have R3 := R2.same sm2
            have x3 : Ext α2 H2 α2 H2' := Ext.same sm2
            have E3 := E2.ext x3
            refine ⟨D :: β, α2, S2, _, it.rs[i], ρ1, R3, E3, Vx, hg, fun σ1 F1 w1 => ⟨w1.trans (wipe_idem σ vs), ?_⟩⟩
            refine ⟨D :: β, α2, S2, ρ1, R3, F1, ?_⟩
            cases qt : t ρ1 S2 with
            | stuck => rw [qt] at p2; exact p2.elim
            | exc k f S3 => rw [qt] at p2; exact p2.elim
            | ok b S3 =>
              rw [qt] at p2
              intro α3 H3 b' x4 R4 eb
              subst eb
              have Dk : ∀ {α' : List (Option Addr)} {H' : Hp}, Ext α2 H2' α' H' → H' D = some (.lst avs) := fun z => z.keep D _ (fun y => R3.off D y List.mem_cons_self) trivial (sm2 D _ d2)
              cases b with
              | false =>
                rw [if_neg Bool.false_ne_true]
                exact ⟨α3, S3, ars, avs, (x2.trans x3).trans x4, (l2.trans (Lt.of x3)).trans (Lt.of x4), R4, Dk x4, (v2.ext x3).ext x4, E3.ext x4, Nat.le_succ_of_le n2, p2⟩
              | true =>
                rw [if_pos rfl]
                refine ⟨D :: β, α3, S3, ρ1, R4, F1.ext x4, ?_⟩
                cases qe : elt ρ1 S3 with
                | stuck => simp only [Out.bind, noX, qe] at p2; exact p2.elim
                | exc k f S4 => simp only [Out.bind, noX, qe] at p2; exact p2.elim
                | ok y S4 =>
                  intro α4 H4 v x5 R5 Vy
                  have d5 := Dk (x4.trans x5)
                  obtain ⟨R6, l6⟩ := R5.grow d5 (.lst (avs ++ [v]))
                  refine ⟨avs, d5, ?_, ⟨α4, S4, ars ++ [y], avs ++ [v], ?_, ?_, R6, upd_same, ?_, ?_, ?_, ?_⟩⟩
                  · rw [← v2.length]
                    omega
                  · have X := ((x2.trans x3).trans x4).trans x5
                    refine { len := X.len, old := X.old, new := X.new, keep := fun b o nb' nt qb => ?_, stay := fun b qb => ?_ }
                    · rw [upd_ne (fun z => by rw [z, hD] at qb; cases qb)]
                      exact X.keep b o nb' nt qb
                    · by_cases z : b = D
                      · rw [z, upd_same]; simp
                      · rw [upd_ne z]; exact X.stay b qb
                  · exact (((l2.trans (Lt.of x3)).trans (Lt.of x4)).trans (Lt.of x5)).trans l6
                  · exact Vrs.append (Vrs.lt l6 (((v2.ext x3).ext x4).ext x5)) (.cons (Vy.lt l6) .nil)
                  · have E5 := (E3.ext x4).ext x5
                    exact E5.lt l6
                  · rw [List.length_append, List.length_singleton]; omega
                  · simp only [Out.bind, noX, qe] at p2
                    cases ql : lcLoop it.keep g t elt (wipeR ρ vs) (it.rs.drop (i + 1)) S4 with
                    | stuck => rw [ql] at p2; exact p2.elim
                    | exc k f S5 => rw [ql] at p2; exact p2
                    | ok zs S5 =>
                      rw [ql] at p2
                      show PostG T β W (Vr T β) σ (newL own ((ars ++ [y]) ++ zs) S5) α1' H1 Q
                      rw [List.append_assoc]
                      exact p2
        · exact p2.elim
      · obtain ⟨α2, S2, ars, avs, x2, l2, R2, d2, v2, E2, n2, p2⟩ := p.ex
        rw [List.drop_length] at p2
        unfold lcLoop at p2
        split at p2
        · have p3 : PostG T β W (Vr T β) σ (newL own (ars ++ []) S2) α1' H1 Q := p2
          rw [List.append_nil] at p3
          exact made_ok x2 hD nb R2 d2 v2 p3
        · exact p2.elim
    · exact h2.elim
/-- [elt for tg in iter if ..] -/
theorem tr_lc (own : Bool) {elt tg iter : Expr} {ifs : List Expr} {scope : Scope} {pos : Pos} {im : IM} {g : GM} {t : TM} {m : EM} (vs : List (Str × Nat)) (hc : X.calm = true) (hN : X.N.Nodup) (hi : PI X tg iter (tI T W im)) (ok : BlkOk X.N X.env.scope scope vs)
    (hg : ∀ (s : Shared) (H : Hp) (C : Addr) (cl : List (Str × Addr)) (fp : List Addr), PG (X.blk s H scope (compEnvC scope cl C X.env) fp) tg (tG T (vs.map (·.2)) g)) (ht : ∀ (s : Shared) (H : Hp) (C : Addr) (cl : List (Str × Addr)) (fp : List Addr), PTs (X.blk s H scope (compEnvC scope cl C X.env) fp) ifs (tT T W0 t))
    (he : ∀ (s : Shared) (H : Hp) (C : Addr) (cl : List (Str × Addr)) (fp : List Addr), PE (X.blk s H scope (compEnvC scope cl C X.env) fp) elt (tE T W0 m)) (hs : ∀ x, foldedSetIterable iter X.env x = pure x := by intro _; rfl) :
    PE X (.ListComp elt [⟨tg, iter, ifs, 0⟩] scope pos) (tE T W (eLc own im g t m (vs.map (·.2)))) :=
  pe_le (pe_lc hc hN hi ok hg ht he hs) fun _ _ _ h => lc_le h
end
end Pev
/-! Pev, ninth part: statements. -/
namespace Pev
open PySem PySem.Spec PyProof.Rows L2

def sSkip : SM := fun ρ S => .nx ρ S
def sCons (a b : SM) : SM := fun ρ S => match a ρ S with
  | .nx ρ1 S1 => b ρ1 S1
  | o => o
def sSet (i : Nat) (m : EM) : SM := fun ρ S => (m ρ S).toS ρ fun r S1 => .nx (ρ.set i (some r)) S1
def sExpr (m : EM) : SM := fun ρ S => (m ρ S).toS ρ fun _ S1 => .nx ρ S1
def sRet (m : EM) : SM := fun ρ S => (m ρ S).toS ρ fun r S1 => .rt r S1
def sRetN : SM := fun _ S => .rt (.dat .none) S
def sIf (t : TM) (a b : SM) : SM := fun ρ S => (t ρ S).toS ρ fun x S1 => if x then a ρ S1 else b ρ S1
def sTgt (g : GM) (m : EM) : SM := fun ρ S => (m ρ S).toS ρ fun r S1 => match g r ρ with
  | some ρ1 => .nx ρ1 S1
  | none => .stuck
section
variable {X : Cx} {T : Tb} {W : WX} {e : Expr} {m : EM} {pos : Pos} {a b : SM} {t : TM} {st : Stmt} {rest : List Stmt}
theorem ts_nil : PSs X [] (tS T W sSkip) := pss_le pss_nil fun D σ H ⟨_, _, _, _, hR, hE, h⟩ => h _ H σ Ext.refl hR hE
theorem cons_le {D : Ends} {σ : L2.St} {H : Hp} (h : tS T W (sCons a b) D σ H) : tSeq (tS T W a) (tS T W b) D σ H := by
  obtain ⟨β, α, S, ρ, hR, hE, h⟩ := h
  refine ⟨β, α, S, ρ, hR, hE, ?_⟩
  have h' : PostS T β W (match a ρ S with
    | .nx ρ1 S1 => b ρ1 S1
    | o => o) α H D := h
  cases q : a ρ S with
  | nx ρ1 S1 =>
    rw [q] at h'
    exact fun α' H' σ' x R E => ⟨β, α', S1, ρ1, R, E, PostS.on x h'⟩
  | rt r S1 => rw [q] at h'; exact h'
  | bk ρ1 S1 => rw [q] at h'; exact h'
  | ct ρ1 S1 => rw [q] at h'; exact h'
  | exc c f ρ1 S1 => rw [q] at h'; exact h'
  | stuck => rw [q] at h'; exact h'
theorem ts_cons (h1 : PS X st (tS T W a)) (h2 : PSs X rest (tS T W b)) : PSs X (st :: rest) (tS T W (sCons a b)) := pss_le (pss_cons h1 h2) fun _ _ _ h => cons_le h
theorem ts_one (h1 : PS X st (tS T W a)) : PSs X [st] (tS T W a) := pss_one h1
/-- an expression, then what is done with its value -/
theorem then_le {k : R → Sto → OutS} {D : Ends} {σ : L2.St} {H : Hp} {Q : VK} (h : tS T W (fun ρ S => (m ρ S).toS ρ k) D σ H) (kQ : ∀ β α S ρ r v H1, Rl T β α S H1 → Er T β α H1 σ ρ → Vr T β α H1 r v → PostS T β W (k r S) α H1 D → Q v H1) : tE T W m σ H Q := by
  obtain ⟨β, α, S, ρ, hR, hE, h⟩ := h
  refine ⟨β, α, S, ρ, hR, hE, ?_⟩
  have h1 := PostS.bind (rel := Vr T β) hE h
  cases q : m ρ S with
  | stuck => rw [q] at h1; exact h1.elim
  | exc c f S1 => rw [q] at h1; exact h1
  | ok x S1 =>
    rw [q] at h1
    intro α1 H1 v e1 R1 V1
    obtain ⟨α1', S1', x', ex, e1', R1', V1', h2⟩ := h1 α1 H1 v e1 R1 V1
    cases ex
    exact kQ β α1' S1 ρ x v H1 R1' (hE.ext e1') V1' h2
/-- as then_le, the slots known -/
theorem then_le' {k : Rho → R → Sto → OutS} {D : Ends} {σ : L2.St} {H : Hp} {Q : VK} (h : tS T W (fun ρ S => (m ρ S).toS ρ (k ρ)) D σ H) (kQ : ∀ β α S ρ r v H1, Rl T β α S H1 → Er T β α H1 σ ρ → Vr T β α H1 r v → PostS T β W (k ρ r S) α H1 D → Q v H1) : tE T W m σ H Q := by
  obtain ⟨β, α, S, ρ, hR, hE, h⟩ := h
  refine ⟨β, α, S, ρ, hR, hE, ?_⟩
  have h1 := PostS.bind (rel := Vr T β) hE h
  cases q : m ρ S with
  | stuck => rw [q] at h1; exact h1.elim
  | exc c f S1 => rw [q] at h1; exact h1
  | ok x S1 =>
    rw [q] at h1
    intro α1 H1 v e1 R1 V1
    obtain ⟨α1', S1', x', ex, e1', R1', V1', h2⟩ := h1 α1 H1 v e1 R1 V1
    cases ex
    exact kQ β α1' S1 ρ x v H1 R1' (hE.ext e1') V1' h2
theorem ts_set (i : Nat) {x : Str} {pos' : Pos} (hN : X.N.Nodup) (hi : X.N[i]? = some x) (hx : Loc X.env.scope x) (he : PE X e (tE T W m)) (hs : swapsWith e (some (.Name x pos')) pos.line X.env = pure false := by rfl) (hf : X.fn x = true ∨ X.env.scope.names.lookup x = some .local := by first | exact .inl rfl | exact .inr rfl | assumption) :
    PS X (.Assign [.Name x pos'] e pos) (tS T W (sSet i m)) := ps_le (ps_set hN hi hx he hs hf) fun D σ H h =>
  then_le' (k := fun ρ r S1 => .nx (ρ.set i (some r)) S1) h fun β α S ρ r v H1 R1 E1 V1 p => p α H1 _ Ext.refl R1 (E1.set V1)
/-- an assignment to any target of names -/
theorem ts_tgt {tg : Expr} {g : GM} {vs : List Nat} (he : PE X e (tE T W m)) (hg : PG X tg (tG T vs g)) (hs : swapsWithSole [tg] e pos.line X.env = pure false := by rfl) (hw : swappedStores [tg] e X.env = pure none := by rfl) (h1 : (assignEach [tg] X.env).map (·.2) = [assign tg X.env] := by rfl) : PS X (.Assign [tg] e pos) (tS T W (sTgt g m)) :=
  ps_le (ps_asg he hg hs hw h1) fun D σ H h => then_le' (k := fun ρ r S1 => match g r ρ with
    | some ρ1 => .nx ρ1 S1
    | none => .stuck) h fun β α S ρ r v H1 R1 E1 V1 p => by
    split at p
    · rename_i ρ1 q
      exact ⟨β, α, S, ρ, r, ρ1, R1, E1, V1, q, fun σ' E' _ => p α H1 σ' Ext.refl R1 E'⟩
    · exact p.elim
theorem ts_expr (he : PE X e (tE T W m)) (hs : swapsWith e none pos.line X.env = pure false := by rfl) : PS X (.Expr e pos) (tS T W (sExpr m)) := ps_le (ps_expr he hs) fun D σ H h =>
  then_le' (k := fun ρ _ S1 => .nx ρ S1) h fun β α S ρ r v H1 R1 E1 V1 p => p α H1 σ Ext.refl R1 E1
theorem ts_ret (he : PE X e (tE T W m)) : PS X (.Return (some e) pos) (tS T W (sRet m)) := ps_le (ps_ret he) fun D σ H h =>
  then_le (k := fun r S1 => .rt r S1) h fun β α S ρ r v H1 R1 E1 V1 p => p α H1 v Ext.refl R1 V1
theorem ts_if {c : Expr} {as bs : List Stmt} (hc : PT X c (tT T W t)) (ha : PSs X as (tS T W a)) (hb : PSs X bs (tS T W b)) : PS X (.If c as bs pos) (tS T W (sIf t a b)) := by
  refine ps_le (ps_if hc ha hb) fun D σ H ⟨β, α, S, ρ, hR, hE, h⟩ => ?_
  refine ⟨β, α, S, ρ, hR, hE, ?_⟩
  have h1 := PostS.bind (rel := fun _ _ (x v : Bool) => x = v) hE (show PostS T β W ((t ρ S).toS ρ fun x S1 => if x then a ρ S1 else b ρ S1) α H D from h)
  cases q : t ρ S with
  | stuck => rw [q] at h1; exact h1.elim
  | exc c f S1 => rw [q] at h1; exact h1
  | ok x S1 =>
    rw [q] at h1
    intro α1 H1 v e1 R1 V1
    obtain ⟨α1', S1', x', ex, e1', R1', V1', h2⟩ := h1 α1 H1 v e1 R1 V1
    cases ex
    subst V1'
    cases x with
    | true =>
      rw [if_pos rfl]
      exact ⟨β, α1', S1, ρ, R1', hE.ext e1', h2⟩
    | false =>
      rw [if_neg Bool.false_ne_true]
      exact ⟨β, α1', S1, ρ, R1', hE.ext e1', h2⟩
end

/-! ### for -/
def forLoop (keep : List (Nat × List R)) (g : GM) (b : SM) : List R → Rho → Sto → OutS
  | [], ρ, S => if stands S keep then .nx ρ S else .stuck
  | r :: rs, ρ, S => if stands S keep then (match g r ρ with
    | none => .stuck
    | some ρ1 => match b ρ1 S with
      | .nx ρ2 S2 => forLoop keep g b rs ρ2 S2
      | .ct ρ2 S2 => forLoop keep g b rs ρ2 S2
      | .bk ρ2 S2 => .nx ρ2 S2
      | o => o) else .stuck
def sFor (im : IM) (g : GM) (b : SM) : SM := fun ρ S => (im ρ S).toS ρ fun it S1 => forLoop it.keep g b it.rs ρ S1
section
variable {X : Cx} {T : Tb} {W : WX} {pos : Pos} {b : SM} {im : IM} {g : GM} {vs : List Nat}
theorem for_stands {keep : List (Nat × List R)} {rs : List R} {ρ : Rho} {S : Sto} (h : forLoop keep g b rs ρ S ≠ .stuck) : Stands S keep := by
  cases rs with
  | nil =>
    unfold forLoop at h
    split at h
    · rename_i z; exact stands_ok z
    · exact absurd rfl h
  | cons r rs =>
    unfold forLoop at h
    split at h
    · rename_i z; exact stands_ok z
    · exact absurd rfl h
structure ForInv (T : Tb) (W : WX) (β : List Addr) (α1 : List (Option Addr)) (H1 : Hp) (it : Items) (g : GM) (b : SM) (D : Ends) (i : Nat) (σ : L2.St) (H : Hp) : Prop where
  ex : ∃ α2 S2 ρ2, Ext α1 H1 α2 H ∧ Rl T β α2 S2 H ∧ Er T β α2 H σ ρ2 ∧ PostS T β W (forLoop it.keep g b (it.rs.drop i) ρ2 S2) α2 H D
theorem for_le {D : Ends} {σ : L2.St} {H : Hp} (h : tS T W (sFor im g b) D σ H) : tFor (tI T W im) (tG T vs g) (tS T W b) D σ H := by
  obtain ⟨β, α, S, ρ, hR, hE, h⟩ := h
  refine ⟨β, α, S, ρ, hR, hE, ?_⟩
  have h1 := PostS.bind (rel := WalkR T β) hE (show PostS T β W ((im ρ S).toS ρ fun it S1 => forLoop it.keep g b it.rs ρ S1) α H D from h)
  cases q : im ρ S with
  | stuck => rw [q] at h1; exact h1.elim
  | exc k f S1 => rw [q] at h1; exact h1
  | ok it S1 =>
    rw [q] at h1
    intro α1 H1 J e1 R1 V1
    obtain ⟨α1', S1', it', ex, e1', R1', V1', h2⟩ := h1 α1 H1 J e1 R1 V1
    cases ex
    clear h1
    obtain ⟨G, Y, wk, V2⟩ := V1'
    refine for_it wk (ForInv T W β α1' H1 it g b D) ⟨α1', S1, ρ, Ext.refl, R1', hE.ext e1', by rw [List.drop_zero]; exact h2⟩ (fun i σ2 H2 hi p => ?_) (fun i x σ2 H2 H2' hi p hy => ?_) fun σ2 H2 p => ?_
    · obtain ⟨α2, S2, ρ2, x2, R2, E2, p2⟩ := p.ex
      refine (V2 _ α2 S2 H2 (Lt.of x2) R2 (for_stands (g := g) (b := b) (rs := it.rs.drop i) (ρ := ρ2) fun z => ?_)).1
      rw [z] at p2
      exact p2
    · obtain ⟨α2, S2, ρ2, x2, R2, E2, p2⟩ := p.ex
      have st : Stands S2 it.keep := for_stands (g := g) (b := b) (rs := it.rs.drop i) (ρ := ρ2) fun z => by rw [z] at p2; exact p2
      obtain ⟨sm2, hr⟩ := (V2 _ α2 S2 H2 (Lt.of x2) R2 st).2 i x H2' hy
      have hlt : i < it.rs.length := hi
      have hd : it.rs.drop i = it.rs[i] :: it.rs.drop (i + 1) := List.drop_eq_getElem_cons hlt
      have Vx := hr it.rs[i] (List.getElem?_eq_getElem hlt)
      rw [hd] at p2
      unfold forLoop at p2
      split at p2
      · split at p2
        · exact p2.elim
        · rename_i ρ3 hg
          have R3 := R2.same sm2
          have x3 : Ext α2 H2 α2 H2' := Ext.same sm2
          refine ⟨β, α2, S2, ρ2, it.rs[i], ρ3, R3, E2.ext x3, Vx, hg, fun σ3 F3 _ => ?_⟩
          refine ⟨β, α2, S2, ρ3, R3, F3, ?_⟩
          have p3 := PostS.on x3 p2
          cases qb : b ρ3 S2 with
          | stuck => rw [qb] at p3; exact p3.elim
          | exc k f ρ4 S4 => rw [qb] at p3; exact p3
          | rt r S4 => rw [qb] at p3; exact p3
          | bk ρ4 S4 => rw [qb] at p3; exact p3
          | nx ρ4 S4 =>
            rw [qb] at p3
            exact fun α4 H4 σ4 x4 R4 E4 => ⟨α4, S4, ρ4, (x2.trans x3).trans x4, R4, E4, PostS.on x4 p3⟩
          | ct ρ4 S4 =>
            rw [qb] at p3
            exact fun α4 H4 σ4 x4 R4 E4 => ⟨α4, S4, ρ4, (x2.trans x3).trans x4, R4, E4, PostS.on x4 p3⟩
      · exact p2.elim
    · obtain ⟨α2, S2, ρ2, x2, R2, E2, p2⟩ := p.ex
      rw [List.drop_length] at p2
      unfold forLoop at p2
      split at p2
      · exact p2 α2 H2 σ2 Ext.refl R2 E2
      · exact p2.elim
theorem ts_for {tg iter : Expr} {body : List Stmt} (hp : PassesOwn (model X.prog X.w) X.A X.env X.xe) (hc : X.calm = true) (hi : PI X tg iter (tI T W im)) (hg : PG X tg (tG T vs g)) (hb : PSs X body (tS T W b)) (hs : ∀ x, foldedSetIterable iter X.env x = pure x := by intro _; rfl) :
    PS X (.For tg iter body [] pos) (tS T W (sFor im g b)) := ps_le (ps_for hp hc hi hg hb hs) fun _ _ _ h => for_le h
end

/-! ### while -/
section
variable {X : Cx} {T : Tb} {W : WX} {pos : Pos} {b : SM} {t : TM}
end
end Pev
/-! Pev, tenth part: what changes a list; names set at once. -/
namespace Pev
open PySem PySem.Spec PyProof.Rows L2

/-! ### o[i] = e -/
def putAt (o i r : R) (S : Sto) : Out Unit := match o, i with
  | .obj k, .dat (.int n) => match S[k]? with
    | some (.lst rs) => match ixN rs.length n with
      | some j => .ok () (S.set k (.lst (rs.set j r)))
      | none => .stuck
    | _ => .stuck
  | _, _ => .stuck
def sPut (mo mi me : EM) : SM := fun ρ S => (me ρ S).toS ρ fun r S1 => (mo ρ S1).toS ρ fun o S2 => (mi ρ S2).toS ρ fun i S3 => (putAt o i r S3).toS ρ fun _ S4 => .nx ρ S4
section
variable {X : Cx} {T : Tb} {W : WX} {e o i : Expr} {me mo mi : EM} {pos p2 : Pos}
theorem puts_le {β : List Addr} {σ : L2.St} {α : List (Option Addr)} {H : Hp} {S : Sto} {ρ : Rho} {k : R → Sto → OutS} {D : Ends} {Q : VK} {m : EM} (hR : Rl T β α S H) (hE : Er T β α H σ ρ) (h : PostS T β W ((m ρ S).toS ρ k) α H D)
    (kQ : ∀ α1 S1 r v H1, Ext α H α1 H1 → Rl T β α1 S1 H1 → Vr T β α1 H1 r v → PostS T β W (k r S1) α1 H1 D → Q v H1) : tE T W m σ H Q := by
  refine ⟨β, α, S, ρ, hR, hE, ?_⟩
  have h1 := PostS.bind (rel := Vr T β) hE h
  cases q : m ρ S with
  | stuck => rw [q] at h1; exact h1.elim
  | exc c f S1 => rw [q] at h1; exact h1
  | ok x S1 =>
    rw [q] at h1
    intro α1 H1 v e1 R1 V1
    obtain ⟨α1', S1', x', ex, e1', R1', V1', h2⟩ := h1 α1 H1 v e1 R1 V1
    cases ex
    exact kQ α1' S1 x v H1 e1' R1' V1' h2
theorem ts_put (he : PE X e (tE T W me)) (ho : PE X o (tE T W mo)) (hi : PE X i (tE T W mi)) (hs : swapsWithSole [.Subscript o i p2] e pos.line X.env = pure false := by rfl) (hw : swappedStores [.Subscript o i p2] e X.env = pure none := by rfl) (h1 : (assignEach [.Subscript o i p2] X.env).map (·.2) = [assign (.Subscript o i p2) X.env] := by rfl)
    (ha : ∀ v, assign (.Subscript o i p2) X.env v = (do
      let ov ← holding [v] (eval o X.env)
      let iv ← holding [v, ov] (eval i X.env)
      standAt p2
      holding [v, ov, iv] (setItem ov iv v)
      release [v, ov, iv] []) := by intro _; rfl) : PS X (.Assign [.Subscript o i p2] e pos) (tS T W (sPut mo mi me)) := by
  refine ps_le (ps_asg he (pg_sub ho hi set_list ha) hs hw h1) fun D σ H ⟨β, α, S, ρ, hR, hE, h⟩ => ?_
  refine puts_le hR hE h fun α1 S1 r v H1 x1 R1 V1 p1 => ?_
  refine puts_le R1 (hE.ext x1) p1 fun α2 S2 ro vo H2 x2 R2 V2 p2 => ?_
  refine puts_le R2 ((hE.ext x1).ext x2) p2 fun α3 S3 ri vi H3 x3 R3 V3 p3 => ?_
  unfold putAt at p3
  split at p3
  · rename_i k n
    split at p3
    · rename_i rs q
      split at p3
      · rename_i j qj
        obtain ⟨a, vs, e1, e2, e3⟩ := R3.cell k rs q
        cases (V2.ext x3).2 a e1
        cases vr_int V3
        obtain ⟨R4, x4⟩ := R3.write q e1 (Vrs.set ((V1.ext x2).ext x3) j e3)
        exact ⟨a, vs, n, j, rfl, rfl, e2, by rw [← e3.length]; exact qj, p3 α3 _ σ x4 R4 ((((hE.ext x1).ext x2).ext x3).ext x4)⟩
      · exact p3.elim
    · exact p3.elim
  · exact p3.elim
end

/-! ### methods of lists and texts -/
def eBMl (g : R → List R → Sto → Out R) (mo : EM) (ms : EMs) : EM := fun ρ S => (mo ρ S).bind fun x S1 => match lv S1 x with
  | some _ => (ms ρ S1).bind fun xs S2 => g x xs S2
  | none => .stuck
def eBMs (g : R → List R → Sto → Out R) (mo : EM) (ms : EMs) : EM := fun ρ S => (mo ρ S).bind fun x S1 => match x with
  | .dat (.str _) => (ms ρ S1).bind fun xs S2 => g x xs S2
  | _ => .stuck
def SndM (T : Tb) (r : V → List V → Hp → VK → Prop) (g : R → List R → Sto → Out R) : Prop :=
  ∀ (β : List Addr) (W : WX) (σ : L2.St) (α : List (Option Addr)) (S : Sto) (H : Hp) (x : R) (xs : List R) (v : V) (vs : List V) (Q : VK), Rl T β α S H → Vr T β α H x v → Vrs T β α H xs vs →
    PostG T β W (Vr T β) σ (g x xs S) α H Q → r v vs H Q
section
variable {X : Cx} {T : Tb} {W : WX} {e o : Expr} {es : List Expr} {mo : EM} {ms : EMs} {name : Str} {apos cpos : Pos} {id : String} {r : V → List V → Hp → VK → Prop} {g : R → List R → Sto → Out R}
theorem bml_le (hs : SndM T r g) {σ : L2.St} {H : Hp} {Q : VK} (h : tE T W (eBMl g mo ms) σ H Q) : tE T W mo σ H fun x H1 => tyV T.K "list" x H1 ∧ tA T W ms σ H1 fun xs H2 => r x xs H2 Q := by
  obtain ⟨β, α, S, ρ, hR, hE, h⟩ := h
  refine ⟨β, α, S, ρ, hR, hE, ?_⟩
  have h1 := PostG.bind (rel := Vr T β) h
  cases q : mo ρ S with
  | stuck => rw [q] at h1; exact h1.elim
  | exc k f S1 => rw [q] at h1; exact h1
  | ok x S1 =>
    rw [q] at h1
    intro α1 H1 v e1 R1 V1
    obtain ⟨α1', S1', x', ex, e1', R1', V1', h2⟩ := h1 α1 H1 v e1 R1 V1
    cases ex
    split at h2
    · rename_i rs ql
      obtain ⟨a, vs, rfl, z1, z2⟩ := lv_ok R1' V1' ql
      refine ⟨.inl ⟨rfl, vs, z1⟩, β, α1', S1, ρ, R1', hE.ext e1', ?_⟩
      have h3 := PostG.bind (rel := Vrs T β) h2
      cases q2 : ms ρ S1 with
      | stuck => rw [q2] at h3; exact h3.elim
      | exc k f S2 => rw [q2] at h3; exact h3
      | ok xs S2 =>
        rw [q2] at h3
        intro α2 H2 w e2 R2 V2
        obtain ⟨α2', S2', y', ey, e2', R2', V2', h4⟩ := h3 α2 H2 w e2 R2 V2
        cases ey
        exact hs β W σ α2' S2 H2 x xs _ w Q R2' (V1'.ext e2') V2' h4
    · exact h2.elim
theorem bms_le (hs : SndM T r g) {σ : L2.St} {H : Hp} {Q : VK} (h : tE T W (eBMs g mo ms) σ H Q) : tE T W mo σ H fun x H1 => tyV T.K "str" x H1 ∧ tA T W ms σ H1 fun xs H2 => r x xs H2 Q := by
  obtain ⟨β, α, S, ρ, hR, hE, h⟩ := h
  refine ⟨β, α, S, ρ, hR, hE, ?_⟩
  have h1 := PostG.bind (rel := Vr T β) h
  cases q : mo ρ S with
  | stuck => rw [q] at h1; exact h1.elim
  | exc k f S1 => rw [q] at h1; exact h1
  | ok x S1 =>
    rw [q] at h1
    intro α1 H1 v e1 R1 V1
    obtain ⟨α1', S1', x', ex, e1', R1', V1', h2⟩ := h1 α1 H1 v e1 R1 V1
    cases ex
    split at h2
    · cases vr_str V1'
      refine ⟨rfl, β, α1', S1, ρ, R1', hE.ext e1', ?_⟩
      have h3 := PostG.bind (rel := Vrs T β) h2
      cases q2 : ms ρ S1 with
      | stuck => rw [q2] at h3; exact h3.elim
      | exc k f S2 => rw [q2] at h3; exact h3
      | ok xs S2 =>
        rw [q2] at h3
        intro α2 H2 w e2 R2 V2
        obtain ⟨α2', S2', y', ey, e2', R2', V2', h4⟩ := h3 α2 H2 w e2 R2 V2
        cases ey
        exact hs β W σ α2' S2 H2 _ xs _ w Q R2' (V1'.ext e2') V2' h4
    · exact h2.elim
theorem tr_bml (hK : X.K = T.K) (slot : Slot "list" name id) (hty : typeOf (.builtin id) = pure (.type "method_descriptor")) (hm : MtR X id r) (hs : SndM T r g) (ho : PE X o (tE T W mo)) (ha : PA X (e :: es) (tA T W ms))
    (hbase : attributeBase o name X.env (eval o X.env) = eval o X.env := by rfl)
    (hfew : ((backTo cpos (starEach (e :: es) X.env)).all (fun x => !x.1) && (backToKw cpos (keywordEach [] X.env)).all (fun x => x.1.isSome)
      && decide ((e :: es).length + ([] : List Keyword).length + (if ([] : List Keyword).isEmpty then 0 else 1) < 30)) = true := by rfl)
    (hline : (apos.endLine == cpos.line) = true := by rfl) (hst : starEach (e :: es) X.env = (false, eval e X.env) :: starEach es X.env := by rfl) (hplain : (backTo cpos (starEach es X.env)).any (·.1) = false := by rfl) :
    PE X (.Call (.Attribute o name apos) (e :: es) [] cpos) (tE T W (eBMl g mo ms)) := pe_le (pe_bm PySem.F.plainAttrs_list slot hty hm ho ha hbase hfew hline hst hplain) fun _ _ _ h => by
  unfold tBM
  rw [hK]
  exact bml_le hs h
theorem tr_bms (hK : X.K = T.K) (pa : PlainAttrs "str") (slot : Slot "str" name id) (hty : typeOf (.builtin id) = pure (.type "method_descriptor")) (hm : MtR X id r) (hs : SndM T r g) (ho : PE X o (tE T W mo)) (ha : PA X (e :: es) (tA T W ms))
    (hbase : attributeBase o name X.env (eval o X.env) = eval o X.env := by rfl)
    (hfew : ((backTo cpos (starEach (e :: es) X.env)).all (fun x => !x.1) && (backToKw cpos (keywordEach [] X.env)).all (fun x => x.1.isSome)
      && decide ((e :: es).length + ([] : List Keyword).length + (if ([] : List Keyword).isEmpty then 0 else 1) < 30)) = true := by rfl)
    (hline : (apos.endLine == cpos.line) = true := by rfl) (hst : starEach (e :: es) X.env = (false, eval e X.env) :: starEach es X.env := by rfl) (hplain : (backTo cpos (starEach es X.env)).any (·.1) = false := by rfl) :
    PE X (.Call (.Attribute o name apos) (e :: es) [] cpos) (tE T W (eBMs g mo ms)) := pe_le (pe_bm pa slot hty hm ho ha hbase hfew hline hst hplain) fun _ _ _ h => by
  unfold tBM
  rw [hK]
  exact bms_le hs h
end
section
variable {T : Tb}
/-- the list at a place of the store -/
def cellOf (S : Sto) : R → Option (Nat × List R)
  | .obj k => match S[k]? with
    | some (.lst rs) => some (k, rs)
    | _ => none
  | _ => none
theorem cellOf_ok {K : Tb} {β : List Addr} {α : List (Option Addr)} {H : Hp} {S : Sto} (Rr : Rl K β α S H) {x : R} {v : V} {k : Nat} {rs : List R} (hx : Vr K β α H x v) (e : cellOf S x = some (k, rs)) :
    S[k]? = some (.lst rs) ∧ ∃ a vs, v = .ref a ∧ α[k]? = some (some a) ∧ H a = some (.lst vs) ∧ Vrs K β α H rs vs := by
  cases x with
  | obj j =>
    unfold cellOf at e
    dsimp only at e
    split at e
    · rename_i qs q
      cases e
      obtain ⟨a, vs, e1, e2, e3⟩ := Rr.cell _ _ q
      exact ⟨q, a, vs, hx.2 a e1, e1, e2, e3⟩
    · cases e
  | _ => cases e
def gAppend (x : R) (xs : List R) (S : Sto) : Out R := match cellOf S x, xs with
  | some (k, rs), [y] => if rs.length < sizeLine then .ok (.dat .none) (S.set k (.lst (rs ++ [y]))) else .stuck
  | _, _ => .stuck
theorem snd_append : SndM T rAppend gAppend := by
  intro β W σ α S H x xs v vs Q Rr hx hxs h
  unfold gAppend at h
  split at h
  · rename_i k rs y e
    split at h
    · rename_i hz
      obtain ⟨q, a, us, rfl, e1, e2, e3⟩ := cellOf_ok Rr hx e
      obtain ⟨w, rfl, hw⟩ := vrs1 hxs
      obtain ⟨R4, x4⟩ := Rr.write q e1 (Vrs.append e3 (.cons hw .nil))
      exact ⟨a, us, w, rfl, rfl, e2, by rw [← e3.length]; exact hz, h α _ .non x4 R4 .non⟩
    · exact h.elim
  · exact h.elim
def gPop (x : R) (xs : List R) (S : Sto) : Out R := match cellOf S x, xs with
  | some (k, rs), [] => match rs[rs.length - 1]? with
    | some y => .ok y (S.set k (.lst rs.dropLast))
    | none => .stuck
  | _, _ => .stuck
def gExtend (x : R) (xs : List R) (S : Sto) : Out R := match cellOf S x, xs with
  | some (k, rs), [y] => match lvt S y with
    | some qs => if rs.length + qs.length ≤ sizeLine then .ok (.dat .none) (S.set k (.lst (rs ++ qs))) else .stuck
    | none => .stuck
  | _, _ => .stuck
end

/-! ### a, b = x, y -/
def sPar2 (i j : Nat) (ms : EMs) : SM := fun ρ S => (ms ρ S).toS ρ fun xs S1 => match xs with
  | [x, y] => .nx ((ρ.set i (some x)).set j (some y)) S1
  | _ => .stuck
def sPar3 (i j l : Nat) (ms : EMs) : SM := fun ρ S => (ms ρ S).toS ρ fun xs S1 => match xs with
  | [x, y, z] => .nx (((ρ.set i (some x)).set j (some y)).set l (some z)) S1
  | _ => .stuck
section
variable {X : Cx} {T : Tb} {W : WX} {a b c : Expr} {ms : EMs} {pos px py pz pt pt2 : Pos} {kt k2 : Nat} {x y z : Str}
theorem args_then {k : Rho → List R → Sto → OutS} {D : Ends} {σ : L2.St} {H : Hp} {Q : List V → Hp → Prop} (h : tS T W (fun ρ S => (ms ρ S).toS ρ (k ρ)) D σ H) (kQ : ∀ β α S ρ r v H1, Rl T β α S H1 → Er T β α H1 σ ρ → Vrs T β α H1 r v → PostS T β W (k ρ r S) α H1 D → Q v H1) : tA T W ms σ H Q := by
  obtain ⟨β, α, S, ρ, hR, hE, h⟩ := h
  refine ⟨β, α, S, ρ, hR, hE, ?_⟩
  have h1 := PostS.bind (rel := Vrs T β) hE h
  cases q : ms ρ S with
  | stuck => rw [q] at h1; exact h1.elim
  | exc c f S1 => rw [q] at h1; exact h1
  | ok x S1 =>
    rw [q] at h1
    intro α1 H1 v e1 R1 V1
    obtain ⟨α1', S1', x', ex, e1', R1', V1', h2⟩ := h1 α1 H1 v e1 R1 V1
    cases ex
    exact kQ β α1' S1 ρ x v H1 R1' (hE.ext e1') V1' h2
theorem ts_par2 (i j : Nat) (hc : X.calm = true) (hN : X.N.Nodup) (hi : X.N[i]? = some x) (hj : X.N[j]? = some y) (hij : i ≠ j) (hx : X.env.scope.names.lookup x = some .local) (hy : X.env.scope.names.lookup y = some .local) (ha : PA X [a, b] (tA T W ms))
    (hw : swappedStores [.Tuple [.Name x px, .Name y py] kt pt] (.Tuple [a, b] k2 pt2) X.env = pure (some [x, y])) (hs : swapsWithSole [.Tuple [.Name x px, .Name y py] kt pt] (.Tuple [a, b] k2 pt2) pos.line X.env = pure false := by rfl) :
    PS X (.Assign [.Tuple [.Name x px, .Name y py] kt pt] (.Tuple [a, b] k2 pt2) pos) (tS T W (sPar2 i j ms)) := ps_le (ps_par hc hN hi hj hij hx hy ha hw hs) fun D σ H h =>
  args_then (k := fun ρ xs S1 => match xs with
    | [x, y] => .nx ((ρ.set i (some x)).set j (some y)) S1
    | _ => .stuck) h fun β α S ρ r v H1 R1 E1 V1 p => by
    split at p
    · obtain ⟨v1, v2, rfl, h1, h2⟩ := vrs2 V1
      exact ⟨v1, v2, rfl, p α H1 _ Ext.refl R1 ((E1.set h1).set h2)⟩
    · exact p.elim
end

/-! ### y = [.. for ..] -/
section
variable {X : Cx} {T : Tb} {W : WX}
end
end Pev
/-! Pev, eleventh part: defs and calls. -/
namespace Pev
open PySem PySem.Spec PyProof.Rows L2

/-- what a def promises whose mirror is m -/
def spF (T : Tb) (n : Nat) (m : FM) : Sp := fun vs H Q E => vs.length = n ∧ ∃ β α S rs, Rl T β α S H ∧ Vrs T β α H rs vs ∧ PostG T β (fun cls d _ H' => E cls d H') (Vr T β) [] (m rs S) α H Q
def OutS.toF : OutS → Out R
  | .nx _ S => .ok (.dat .none) S
  | .rt r S => .ok r S
  | .exc c f _ S => .exc c f S
  | _ => .stuck
/-- a def with N names -/
def fnB (N : Nat) (b : SM) : FM := fun rs S => (b (rs.map some ++ List.replicate (N - rs.length) none) S).toF

theorem er_start {T : Tb} {β : List Addr} {α : List (Option Addr)} {H : Hp} {N : List Str} {rs : List R} {vs : List V} (h : Vrs T β α H rs vs) :
    Er T β α H (L2.start N vs) (rs.map some ++ List.replicate (N.length - rs.length) none) := by
  unfold L2.start
  refine ⟨by simp [h.length], fun i r q => ?_⟩
  by_cases z : i < rs.length
  · rw [List.getElem?_append_left (by simpa using z), List.getElem?_map] at q
    cases e : rs[i]? with
    | none => rw [e] at q; cases q
    | some x =>
      rw [e] at q
      cases q
      obtain ⟨v, e1, e2⟩ := h.get e
      refine .of ⟨v, ?_, e2⟩
      rw [List.getElem?_append_left (by simpa [← h.length] using z), List.getElem?_map, e1]
      rfl
  · rw [List.getElem?_append_right (by simpa using Nat.le_of_not_lt z), List.getElem?_replicate] at q
    split at q <;> cases q

/-! ### rooms in which no repr is under way -/
structure RoomG (k : Nat) (A : Around) : Prop extends Room k A where
  gd : A.guards = some []
theorem RoomG.mono {j k : Nat} {A : Around} (r : RoomG k A) (h : j ≤ k) : RoomG j A := ⟨r.toRoom.mono h, r.gd⟩
theorem RoomG.deeper {k : Nat} {A : Around} (r : RoomG (k + 1) A) (env : Env) : RoomG k (A.deeper env) := ⟨r.toRoom.deeper env, r.gd⟩
/-- a def's promise, called where no repr is under way -/
structure FnG (P : Program) (w : World) (K : PySem.W.Frag) (mg : Str → Option Value) (base : Heap) (k : Nat) (f : Addr) (fd : FuncData) (ps : List Str) (sp : Sp) : Prop where
  len : ∀ vs H Q E, sp vs H Q E → vs.length = ps.length
  go : ∀ (A : Around) (fs : List Env) (s : Shared) (H : Hp) (args : Args) (us : List Value) (vs : List V) (Q : VK) (E : XK), RoomG k A → Env0 P w K mg base A fs s H → BindsTo s fd args (ps.zip us) → Vals vs us → sp vs H Q E →
    codeAny (model P w) A (.call (.ref f) args) (CR (L2.CX P w) fs P w H s Q E) s
theorem FnG.imp {P : Program} {w : World} {K : PySem.W.Frag} {mg : Str → Option Value} {base : Heap} {k : Nat} {f : Addr} {fd : FuncData} {ps : List Str} {sp sp2 : Sp} (F : FnG P w K mg base k f fd ps sp) (h : ∀ vs H Q E, sp2 vs H Q E → sp vs H Q E) : FnG P w K mg base k f fd ps sp2 :=
  ⟨fun vs H Q E q => F.len vs H Q E (h _ _ _ _ q), fun A fs s H args us vs Q E hr he hb hv hs => F.go A fs s H args us vs Q E hr he hb hv (h _ _ _ _ hs)⟩
/-- how a def's flow ends its call -/
theorem flow_end {P : Program} {w : World} {K : PySem.W.Frag} {mg : Str → Option Value} {base : Heap} {N : List Str} {qual : Str} {sc : Scope} {f : Addr} {cdv : Value} {A : Around} {fs : List Env} {s : Shared} {H : Hp} {Q : VK} {E : XK} {fl : Flow} {s2 : Shared}
    (h : SP (cxOf (L2.CX P w) P w K mg base N qual sc f cdv A fs s H E) [] { nx := fun _ H' => Q .non H', rt := Q } fl s2) : (match fl with | .ret u => CE fs P w H s Q u s2 | .next => CE fs P w H s Q .none s2 | _ => False) := by
  cases fl with
  | ret u =>
    obtain ⟨v, _, H2, J, rv, q⟩ := h
    exact ⟨v, H2, J.os, J.bare, J.base, J.hok, rv, q⟩
  | next =>
    obtain ⟨_, H2, J, q⟩ := h
    exact ⟨.non, H2, J.os, J.bare, J.base, J.hok, rfl, q⟩
  | brk =>
    obtain ⟨_, _, _, q⟩ := h
    exact q.elim
  | cont =>
    obtain ⟨_, _, _, q⟩ := h
    exact q.elim
theorem fnG_ofC {P : Program} {w : World} {K : PySem.W.Frag} {mg : Str → Option Value} {base : Heap} {x qual : Str} {st : Stmt} {f : Addr} {fd : FuncData} {N ps : List Str} {k : Nat} {sp : Sp} (F : L2.Fun K x qual st f fd) (S : FnScope N ps (defScope st)) (len : ∀ vs H Q E, sp vs H Q E → vs.length = ps.length)
    (hbody : ∀ (cdv : Value) (_ : fd.code = cdv) (A : Around) (fs : List Env) (s : Shared) (H : Hp) (vs : List V) (Q : VK) (E : XK), RoomG k (A.deeper (envOfC qual (defScope st) s.heap.objs.size f cdv)) → sp vs H Q E →
      ∃ t, PSs (cxOf (L2.CX P w) P w K mg base N qual (defScope st) f cdv A fs s H E) (defBody st) t ∧ t { nx := fun _ H' => Q .non H', rt := Q } (L2.start N vs) H) : FnG P w K mg base (k + 1) f fd ps sp := by
  obtain ⟨c1, c2, kV, doc, pm, an, cdv, ct, sl, rfl, lk, hcode⟩ := F.ex
  refine ⟨len, fun A fs s H args us vs Q E hr e0 hb rv hsp => ?_⟩
  have up : ∀ b o, base.get? b = some o → s.heap.get? b = some o := fun b o e => (e0.bs b o e).1
  have KX : K.In s.heap := e0.mod.kin.keeps up
  have par : ∀ y ∈ ps.zip us, (defScope st).names.lookup y.1 = some .local ∨ ((defScope st).names.lookup y.1 = some .cell ∧ ((cellsFrom (s.heap.objs.size + 1) (defScope st).names []).lookup y.1).isSome = true) := fun y hy =>
    (S.par y.1 (List.of_mem_zip hy).1).imp id fun q => ⟨q, PySem.W.cellsFrom_some _ _ _ (.inl q)⟩
  refine codeAny_call_function hr.toRoom.depth (KX _ _ lk) rfl S.co S.gen rfl (PySem.W.codeRec_of KX hcode) (hb _ _ _ _ (wpAny_newFunctionEnv_cells S.kind par fun env he s1 z => ?_))
  subst he
  obtain ⟨t, ht, hq⟩ := hbody cdv rfl A fs s H vs Q E (hr.deeper _) hsp
  refine ⟨(e0.mod.nolimit.keeps up).keeps z.toInCall.keep, codeAny_func (wpAny_mono (ht.run [] s1 (L2.start N vs) H _ (inv_start S hr.hd e0 (len _ _ _ _ hsp) rv z) hq) (fun fl s2 hs => ?_) fun _ _ hs => hs)⟩
  have q := flow_end hs
  cases fl with
  | ret u => exact q
  | next => exact q
  | brk => exact q.elim
  | cont => exact q.elim
theorem fnG_of {P : Program} {w : World} {K : PySem.W.Frag} {mg : Str → Option Value} {base : Heap} {x qual : Str} {st : Stmt} {f : Addr} {fd : FuncData} {N ps : List Str} {k : Nat} {sp : Sp} (F : L2.Fun K x qual st f fd) (S : FnScope N ps (defScope st)) (len : ∀ vs H Q E, sp vs H Q E → vs.length = ps.length)
    (hbody : ∀ (cdv : Value) (A : Around) (fs : List Env) (s : Shared) (H : Hp) (vs : List V) (Q : VK) (E : XK), RoomG k (A.deeper (envOfC qual (defScope st) s.heap.objs.size f cdv)) → sp vs H Q E →
      ∃ t, PSs (cxOf (L2.CX P w) P w K mg base N qual (defScope st) f cdv A fs s H E) (defBody st) t ∧ t { nx := fun _ H' => Q .non H', rt := Q } (L2.start N vs) H) : FnG P w K mg base (k + 1) f fd ps sp :=
  fnG_ofC F S len fun cdv _ => hbody cdv
/-- a call of it -/
theorem run_G {X : Cx} {W : WX} {k : Nat} {f : Addr} {fd : FuncData} {ps : List Str} {sp : Sp} {pins : List (Addr × Obj)} {σ : L2.St} {H : Hp} {s : Shared} {Q : VK} {args : Args} {us : List Value} {vs : List V} (F : FnG X.prog X.w X.K X.mg X.base k f fd ps sp) (hr : RoomG k X.A) (tk : Takes X W)
    (I : Inv X pins σ H s) (b : BindsTo s fd args (ps.zip us)) (rv : Vals vs us) (h : sp vs H Q (WE W σ)) : wpAny (model X.prog X.w) X.A (call (.ref f) args.pos args.kw) (EP X pins σ Q) X.xe s := by
  refine wpAny_call (codeAny_mono (F.go X.A X.stack s H args us vs Q (WE W σ) hr I.env0 b rv h) fun r s2 hq => ?_)
  cases r with
  | error e => exact passAt tk σ pins H s e s2 I hq
  | ok fl =>
    cases fl with
    | ret u => exact I.after hq
    | next => exact hq.elim
    | brk => exact hq.elim
    | cont => exact hq.elim
section
variable {P : Program} {w : World} {T : Tb} {mg : Str → Option Value} {base : Heap}
/-- THE RULE for a def -/
theorem fn_ok {x qual : Str} {st : Stmt} {f : Addr} {fd : FuncData} {N ps : List Str} {k nN np : Nat} {b : SM} (F : L2.Fun T.K x qual st f fd) (S : FnScope N ps (defScope st)) (eN : N.length = nN) (ep : ps.length = np)
    (hb : ∀ (cdv : Value) (A : Around) (outer : List Env) (s : Shared) (H : Hp) (E : XK), RoomG k (A.deeper (envOfC qual (defScope st) s.heap.objs.size f cdv)) →
      PSs (cxOf (L2.CX P w) P w T.K mg base N qual (defScope st) f cdv A outer s H E) (defBody st) (tS T (fun cls d _ H' => E cls d H') b)) :
    FnG P w T.K mg base (k + 1) f fd ps (spF T np (fnB nN b)) := by
  subst eN ep
  refine fnG_of F S (fun vs H Q E h => h.1) fun cdv A outer s H vs Q E hr h => ⟨_, hb cdv A outer s H E hr, ?_⟩
  obtain ⟨_, β, α, S0, rs, hR, hV, h⟩ := h
  refine ⟨β, α, S0, _, hR, er_start hV, ?_⟩
  unfold fnB at h
  generalize hq : b (rs.map some ++ List.replicate (N.length - rs.length) none) S0 = o at h ⊢
  cases o with
  | nx ρ S => exact fun α' H' σ' e r _ => h α' H' .non e r .non
  | rt r S => exact h
  | bk ρ S => exact h.elim
  | ct ρ S => exact h.elim
  | exc c f ρ S => exact fun α' H' σ' cls d e r _ q => h α' H' cls d e r q
  | stuck => exact h.elim
/-- .. that makes lambdas -/
theorem fn_okC {x qual : Str} {st : Stmt} {f : Addr} {fd : FuncData} {N ps : List Str} {k nN np : Nat} {b : SM} (F : L2.Fun T.K x qual st f fd) (S : FnScope N ps (defScope st)) (eN : N.length = nN) (ep : ps.length = np)
    (hb : ∀ (cdv : Value) (_ : fd.code = cdv) (A : Around) (outer : List Env) (s : Shared) (H : Hp) (E : XK), RoomG k (A.deeper (envOfC qual (defScope st) s.heap.objs.size f cdv)) →
      PSs (cxOf (L2.CX P w) P w T.K mg base N qual (defScope st) f cdv A outer s H E) (defBody st) (tS T (fun cls d _ H' => E cls d H') b)) :
    FnG P w T.K mg base (k + 1) f fd ps (spF T np (fnB nN b)) := by
  subst eN ep
  refine fnG_ofC F S (fun vs H Q E h => h.1) fun cdv hc A outer s H vs Q E hr h => ⟨_, hb cdv hc A outer s H E hr, ?_⟩
  obtain ⟨_, β, α, S0, rs, hR, hV, h⟩ := h
  refine ⟨β, α, S0, _, hR, er_start hV, ?_⟩
  unfold fnB at h
  generalize hq : b (rs.map some ++ List.replicate (N.length - rs.length) none) S0 = o at h ⊢
  cases o with
  | nx ρ S => exact fun α' H' σ' e r _ => h α' H' .non e r .non
  | rt r S => exact h
  | bk ρ S => exact h.elim
  | ct ρ S => exact h.elim
  | exc c f ρ S => exact fun α' H' σ' cls d e r _ q => h α' H' cls d e r q
  | stuck => exact h.elim
end

theorem post_turn {T : Tb} {W : WX} {β : List Addr} {σ : L2.St} {α : List (Option Addr)} {H : Hp} {Q : VK} {o : Out R} (h : PostG T β W (Vr T β) σ o α H Q) : PostG T β (fun cls d _ H' => WE W σ cls d H') (Vr T β) [] o α H Q := by
  cases o <;> exact h

/-! ### a call that looks at its arguments as data -/
mutual
/-- no list inside -/
def free : PyData → Bool
  | .list _ => false
  | .tuple ds => freeAll ds
  | _ => true
def freeAll : List PyData → Bool
  | [] => true
  | d :: ds => free d && freeAll ds
end
section
variable {T : Tb} {β : List Addr} {α : List (Option Addr)} {H : Hp} {S : Sto}
theorem not_live (Rr : Rl T β α S H) {a : Addr} (h : ¬ Mut (H a)) : a ∉ live α := fun z => h (Rr.mt a z).mut
theorem hid_of (Rr : Rl T β α S H) {a : Addr} {o : HO} (h : hid β H a = some o) (n : ¬ Mut (some o)) : hid (blk β α) H a = some o := by
  obtain ⟨h1, h2⟩ := hid_some.mp h
  refine hid_some.mpr ⟨fun z => ?_, h2⟩
  rcases List.mem_append.mp z with z | z
  · exact h1 z
  · exact not_live Rr (by rw [h2.1]; exact n) z
theorem sqT_hid (Rr : Rl T β α S H) {a : Addr} {xs : List V} (h : SqT T.K (hid β H) a xs) : SqT T.K (hid (blk β α) H) a xs := by
  rcases h with (h | ⟨o, h⟩) | h
  · exact .inl (.inl (hid_of Rr h (fun z => z)))
  · exact .inl (.inr ⟨o, hid_of Rr h (fun z => z)⟩)
  · exact .inr h
mutual
theorem Dq.free (Rr : Rl T β α S H) : ∀ {v : V} {d : PyData}, Dq T.K (hid β H) v d → Pev.free d = true → Dq T.K (hid (blk β α) H) v d
  | _, _, .non, _ => .non
  | _, _, .bl b, _ => .bl b
  | _, _, .int i, _ => .int i
  | _, _, .str x, _ => .str x
  | _, _, .lst _ _, e => by unfold Pev.free at e; cases e
  | _, _, .tup h hs, e => .tup (sqT_hid Rr h) (DqAll.free Rr hs (by unfold Pev.free at e; exact e))
theorem DqAll.free (Rr : Rl T β α S H) : ∀ {vs : List V} {ds : List PyData}, DqAll T.K (hid β H) vs ds → Pev.freeAll ds = true → DqAll T.K (hid (blk β α) H) vs ds
  | _, _, .nil, _ => .nil
  | _, _, .cons h t, e => by
    unfold Pev.freeAll at e
    rw [Bool.and_eq_true] at e
    exact .cons (Dq.free Rr h e.1) (DqAll.free Rr t e.2)
end
end
def freeO : Option PyData → Bool
  | none => true
  | some d => free d
def allD : List R → Bool
  | [] => true
  | .dat _ :: rs => allD rs
  | _ => false
def depS : Nat := 8
/-- a call whose arguments are seen as data -/
def pureF (m : FM) (rs : List R) (S : Sto) : Out R := match rs.mapM (snap S depS) with
  | none => .stuck
  | some ds => match m (ds.map .dat) [] with
    | .ok r S' => match snap S' depS r with
      | some d => if (allD rs || free d) = true then .ok (.dat d) S else .stuck
      | none => .stuck
    | .exc c f _ => if (allD rs || freeO f) = true then .exc c f S else .stuck
    | .stuck => .stuck
section
variable {T : Tb} {β : List Addr} {α : List (Option Addr)} {H : Hp} {S : Sto} {W : WX} {σ : L2.St}
theorem allD_eq : ∀ {rs : List R} {ds : List PyData} {n : Nat}, allD rs = true → rs.mapM (snap S n) = some ds → rs = ds.map .dat
  | [], ds, n, _, e => by rw [List.mapM_nil] at e; cases e; rfl
  | .dat d :: rs, ds, n, h, e => by
    rw [List.mapM_cons] at e
    have e1 : snap S n (.dat d) = some d := by unfold snap; rfl
    rw [e1] at e
    cases e2 : rs.mapM (snap S n) with
    | none => rw [e2] at e; cases e
    | some ds' =>
      rw [e2] at e
      cases e
      rw [allD_eq (rs := rs) h e2]
      rfl
  | .obj _ :: _, _, _, h, _ => by cases h
  | .ro _ :: _, _, _, h, _ => by cases h
  | .err _ _ :: _, _, _, h, _ => by cases h
  | .lam _ _ :: _, _, _, h, _ => by cases h
theorem blk_nil (β : List Addr) : blk β [] = β := by unfold blk live; simp
theorem Rl.nil (hb : ∀ b ∈ β, Bd (H b)) (ht : LamX.Tabs T.tabs H) : Rl T β [] [] H where
  len := rfl
  inj := fun k j a h => by simp at h
  off := fun a h => by unfold live at h; simp at h
  bt := hb
  mt := fun a h => by unfold live at h; simp at h
  cell := fun k rs h => by simp at h
  tab := ht
theorem Ext.fromNil {α' : List (Option Addr)} {H' : Hp} (e : Ext [] H α' H') : SmN H H' := ⟨fun b o nt h => e.keep b o (by unfold live; simp) nt h, e.stay⟩
theorem xd_not {f : Str} {v : V} : ¬ Mut (some (.xd [(f, v)])) := fun z => z
/-- soundness -/
theorem pure_ok {m : FM} {rs : List R} {vs : List V} {Q : VK} (Rr : Rl T β α S H) (hv : Vrs T β α H rs vs) (h : PostG T β W (Vr T β) σ (pureF m rs S) α H Q) :
    ∃ (β' : List Addr) (ds : List PyData), Rl T β' [] [] H ∧ Vrs T β' [] H (ds.map .dat) vs ∧ PostG T β' (fun cls d _ H' => WE W σ cls d H') (Vr T β') [] (m (ds.map .dat) []) [] H Q := by
  unfold pureF at h
  cases e : rs.mapM (snap S depS) with
  | none => rw [e] at h; exact h.elim
  | some ds =>
    rw [e] at h
    dsimp only at h
    by_cases hall : allD rs = true
    · have er := allD_eq hall e
      subst er
      have hR : Rl T (blk β α) [] [] H := .nil (fun b q => by
        rcases List.mem_append.mp q with z | z
        · exact Rr.bt b z
        · exact (Rr.mt b z).bd) Rr.tab
      have hD : DqAll T.K (hid (blk (blk β α) []) H) vs ds := by rw [blk_nil]; exact Vrs.dq hv
      refine ⟨blk β α, ds, hR, DqAll.vrs hD, ?_⟩
      cases q : m (ds.map .dat) [] with
      | stuck => rw [q] at h; exact h.elim
      | exc c f S' =>
        rw [q] at h
        dsimp only at h
        rw [hall, Bool.true_or, if_pos rfl] at h
        intro α' H' cls d ex R' hx
        have sm := ex.fromNil
        refine h α H' cls d (Ext.sm sm) (Rr.sm sm R'.tab) ⟨hx.1, fun z ez => ?_⟩
        obtain ⟨dd, v, e1, e2, e3⟩ := hx.2 z ez
        have sub : Same (hid (blk (blk β α) α') H') (hid (blk β α) H') := fun a o h => by
          obtain ⟨n, q, nt⟩ := hid_some.mp h
          exact hid_some.mpr ⟨fun z => n (List.mem_append_left _ z), q, nt⟩
        exact ⟨dd, v, e1, sub _ _ e2, Dq.same sub e3⟩
      | ok r S' =>
        rw [q] at h
        dsimp only at h
        cases e2 : snap S' depS r with
        | none => rw [e2] at h; exact h.elim
        | some d =>
          rw [e2] at h
          dsimp only at h
          rw [hall, Bool.true_or, if_pos rfl] at h
          intro α' H' v ex R' hx
          have sm := ex.fromNil
          exact h α H' v (Ext.sm sm) (Rr.sm sm R'.tab) (snap_dq R' _ _ _ _ hx e2)
    · have hn : allD rs = false := by
        cases z : allD rs with
        | true => exact absurd z hall
        | false => rfl
      have hD : DqAll T.K (hid (blk β []) H) vs ds := by rw [blk_nil]; exact mapM_all (fun r v d => snap_dq Rr _ r v d) hv e
      refine ⟨β, ds, .nil Rr.bt Rr.tab, DqAll.vrs hD, ?_⟩
      cases q : m (ds.map .dat) [] with
      | stuck => rw [q] at h; exact h.elim
      | exc c f S' =>
        rw [q] at h
        dsimp only at h
        rw [hn, Bool.false_or] at h
        split at h
        · rename_i hf
          intro α' H' cls d ex R' hx
          have sm := ex.fromNil
          refine h α H' cls d (Ext.sm sm) (Rr.sm sm R'.tab) ⟨hx.1, fun z ez => ?_⟩
          obtain ⟨dd, v, e1, e2, e3⟩ := hx.2 z ez
          have sub : Same (hid (blk β α') H') (hid β H') := fun a o h => by
            obtain ⟨n, q, nt⟩ := hid_some.mp h
            exact hid_some.mpr ⟨fun z => n (List.mem_append_left _ z), q, nt⟩
          subst ez
          exact ⟨dd, v, e1, hid_of (Rr.sm sm R'.tab) (sub _ _ e2) xd_not, Dq.free (Rr.sm sm R'.tab) (Dq.same sub e3) hf⟩
        · exact h.elim
      | ok r S' =>
        rw [q] at h
        dsimp only at h
        cases e2 : snap S' depS r with
        | none => rw [e2] at h; exact h.elim
        | some d =>
          rw [e2] at h
          dsimp only at h
          rw [hn, Bool.false_or] at h
          split at h
          · rename_i hf
            intro α' H' v ex R' hx
            have sm := ex.fromNil
            exact h α H' v (Ext.sm sm) (Rr.sm sm R'.tab) (Dq.free (Rr.sm sm R'.tab) (snap_dq R' _ _ _ _ hx e2) hf)
          · exact h.elim
end
section
variable {X : Cx} {T : Tb} {W : WX} {k : Nat} {f : Addr} {fd : FuncData} {ps : List Str} {x : Str} {p pos : Pos} {e : Expr} {es : List Expr} {ms : EMs} {m : FM}
theorem args_go {g : List R → Sto → Out R} {σ : L2.St} {H : Hp} {Q : VK} {P : List V → Hp → Prop} (h : tE T W (eArgs g ms) σ H Q)
    (k : ∀ β α S rs vs H1, Rl T β α S H1 → Vrs T β α H1 rs vs → PostG T β W (Vr T β) σ (g rs S) α H1 Q → P vs H1) : tA T W ms σ H P := by
  obtain ⟨β, α, S, ρ, hR, hE, h⟩ := h
  refine ⟨β, α, S, ρ, hR, hE, ?_⟩
  have h1 := PostG.bind (rel := Vrs T β) (show PostG T β W (Vr T β) σ ((ms ρ S).bind fun x S1 => g x S1) α H Q from h)
  cases q : ms ρ S with
  | stuck => rw [q] at h1; exact h1.elim
  | exc k f S1 => rw [q] at h1; exact h1
  | ok x S1 =>
    rw [q] at h1
    intro α1 H1 v e1 R1 V1
    obtain ⟨α1', S1', x', ex, e1', R1', V1', h2⟩ := h1 α1 H1 v e1 R1 V1
    cases ex
    exact k β α1' S1 x v H1 R1' V1' h2
def needN (n : Nat) (g : List R → Sto → Out R) (rs : List R) (S : Sto) : Out R := if rs.length = n then g rs S else .stuck
theorem need_of {n : Nat} {β : List Addr} {σ : L2.St} {α : List (Option Addr)} {H : Hp} {S : Sto} {g : List R → Sto → Out R} {rs : List R} {Q : VK} (h : PostG T β W (Vr T β) σ (needN n g rs S) α H Q) : rs.length = n ∧ PostG T β W (Vr T β) σ (g rs S) α H Q := by
  unfold needN at h
  split at h
  · rename_i hl
    exact ⟨hl, h⟩
  · exact h.elim
end
/-- g is a way to call m -/
def Via (T : Tb) (g m : FM) : Prop := ∀ (W : WX) (σ : L2.St) (Q : VK) (β : List Addr) (α : List (Option Addr)) (S : Sto) (rs : List R) (vs : List V) (H : Hp), Rl T β α S H → Vrs T β α H rs vs → PostG T β W (Vr T β) σ (g rs S) α H Q →
  ∃ β' α' S' rs', Rl T β' α' S' H ∧ Vrs T β' α' H rs' vs ∧ PostG T β' (fun cls d _ H' => WE W σ cls d H') (Vr T β') [] (m rs' S') α' H Q
theorem via_ref {T : Tb} {m : FM} : Via T m m := fun W σ Q β α S rs vs H hR hV h => ⟨β, α, S, rs, hR, hV, post_turn h⟩
theorem via_pure {T : Tb} {m : FM} : Via T (pureF m) m := fun W σ Q β α S rs vs H hR hV h => by
  obtain ⟨β', ds, R', V', h3⟩ := pure_ok hR hV h
  exact ⟨β', [], [], _, R', V', h3⟩

/-- by these places -/
def permL {α : Type} (π : List Nat) (xs : List α) : List α := π.filterMap (xs[·]?)
theorem perm_pair {α β : Type} {P : α → β → Prop} {xs : List α} {ys : List β} (h : Paired P xs ys) (g : ∀ {i : Nat} {x : α}, xs[i]? = some x → ∃ y, ys[i]? = some y ∧ P x y) (hn : xs.length = ys.length) : ∀ π : List Nat, Paired P (permL π xs) (permL π ys)
  | [] => .nil
  | i :: π => by
    unfold permL
    rw [List.filterMap_cons, List.filterMap_cons]
    cases e : xs[i]? with
    | none =>
      have e2 : ys[i]? = none := by
        rw [List.getElem?_eq_none_iff] at e ⊢
        omega
      rw [e2]
      exact perm_pair h g hn π
    | some x =>
      obtain ⟨y, e1, e2⟩ := g e
      rw [e1]
      exact .cons e2 (perm_pair h g hn π)
theorem perm_vals {vs : List V} {us : List Value} (h : Vals vs us) (π : List Nat) : Vals (permL π vs) (permL π us) := by
  induction π with
  | nil => exact .nil
  | cons i π ih =>
    unfold permL
    rw [List.filterMap_cons, List.filterMap_cons]
    cases e : vs[i]? with
    | none =>
      have e2 : us[i]? = none := by
        rw [List.getElem?_eq_none_iff] at e ⊢
        rw [← h.length]
        exact e
      rw [e2]
      exact ih
    | some x =>
      obtain ⟨y, e1, e2⟩ := h.get e
      rw [e1]
      exact .cons e2 ih

section
variable {X : Cx} {T : Tb} {W : WX} {k : Nat} {f : Addr} {fd : FuncData} {ps : List Str} {x : Str} {p pos kpos : Pos} {e : Expr} {es : List Expr} {kws : List Keyword} {ms : EMs} {me : EM} {m g : FM} {n : Nat} {nm : Option Str}
/-- f(e, ..) -/
theorem tr_call (v : Via T g m) (F : FnG X.prog X.w X.K X.mg X.base k f fd ps (spF T n m)) (hr : RoomG k X.A) (hg : Gl X x) (hm : X.mg x = some (.ref f)) (hk : PySem.W.keepIn X.K (.ref f) = true) (hb : Binds X.K fd ps []) (tk : Takes X W)
    (ha : PA X (e :: es) (tA T W ms)) (hdb : (x == ("__debug__" : Str)) = false := by decide) (he : starEach (e :: es) X.env = (false, eval e X.env) :: starEach es X.env := by rfl) (hpl : (backTo pos (starEach es X.env)).any (·.1) = false := by rfl) :
    PE X (.Call (.Name x p) (e :: es) [] pos) (tE T W (eArgs (needN n g) ms)) :=
by
  refine ⟨fun pins s σ H Q I h => wpAny_Call_Name_kw (ld_glob I hg hm ?_ hdb)⟩
  have h2 : tA T W ms σ H fun vs H1 => spF T n m vs H1 Q (WE W σ) := args_go h fun β α S rs vs H1 hR hV h1 => by
    obtain ⟨hl, h3⟩ := need_of h1
    exact ⟨by rw [← hV.length]; exact hl, v W σ Q β α S rs vs H1 hR hV h3⟩
  refine PySem.W.callWith_K (h₀ := X.base) I.ok.mod.kin hk (thn (ha.run pos pins s σ H _ I h2) fun us s1 ⟨vs, H1, I1, rv, q⟩ => ⟨I1.kIn, ?_⟩) he hpl
  have hl : us.length = ps.length := by rw [← rv.length]; exact F.len _ _ _ _ q
  have b := hb s1 us I1.kIn (by rw [List.append_nil]; exact hl)
  rw [List.append_nil] at b
  exact run_G (args := ⟨us, []⟩) F hr tk I1 b rv q
def dataV (T : Tb) (vs : List V) (ds : List PyData) : Prop := ∀ H, DqAll T.K H vs ds
/-- .. and what lacks has a default -/
theorem tr_callD {dvs : List V} {us : List Value} {dd : List PyData} (v : Via T g m) (F : FnG X.prog X.w X.K X.mg X.base k f fd ps (spF T n m)) (hr : RoomG k X.A) (hg : Gl X x) (hm : X.mg x = some (.ref f)) (hk : PySem.W.keepIn X.K (.ref f) = true) (hb : Binds X.K fd ps us) (hd : Vals dvs us)
    (hdd : dataV T dvs dd) (tk : Takes X W)
    (ha : PA X (e :: es) (tA T W ms)) (hdb : (x == ("__debug__" : Str)) = false := by decide) (he : starEach (e :: es) X.env = (false, eval e X.env) :: starEach es X.env := by rfl) (hpl : (backTo pos (starEach es X.env)).any (·.1) = false := by rfl) :
    PE X (.Call (.Name x p) (e :: es) [] pos) (tE T W (eArgs (fun rs => needN n g (rs ++ dd.map .dat)) ms)) :=
by
  refine ⟨fun pins s σ H Q I h => wpAny_Call_Name_kw (ld_glob I hg hm ?_ hdb)⟩
  have h2 : tA T W ms σ H fun vs H1 => spF T n m (vs ++ dvs) H1 Q (WE W σ) := args_go h fun β α S rs vs H1 hR hV h1 => by
    obtain ⟨hl, h3⟩ := need_of h1
    have hV2 : Vrs T β α H1 (rs ++ dd.map .dat) (vs ++ dvs) := hV.append (DqAll.vrs (hdd _))
    exact ⟨by rw [← hV2.length]; exact hl, v W σ Q β α S _ _ H1 hR hV2 h3⟩
  refine PySem.W.callWith_K (h₀ := X.base) I.ok.mod.kin hk (thn (ha.run pos pins s σ H _ I h2) fun ws s1 ⟨vs, H1, I1, rv, q⟩ => ⟨I1.kIn, ?_⟩) he hpl
  have rv2 := rv.append hd
  have hl : (ws ++ us).length = ps.length := by rw [← rv2.length]; exact F.len _ _ _ _ q
  exact run_G (args := ⟨ws, []⟩) F hr tk I1 (hb s1 ws I1.kIn hl) rv2 q
/-! ### by names -/
theorem acons_le {σ : L2.St} {H : Hp} {Q : List V → Hp → Prop} (h : tA T W (aCons me ms) σ H Q) : tCons (tE T W me) (tA T W ms) σ H Q := by
  obtain ⟨β, α, S, ρ, hR, hE, h⟩ := h
  refine ⟨β, α, S, ρ, hR, hE, ?_⟩
  have h1 := PostG.bind (rel := Vr T β) (show PostG T β W (Vrs T β) σ ((me ρ S).bind fun x S1 => (ms ρ S1).bind fun xs S2 => .ok (x :: xs) S2) α H Q from h)
  cases q : me ρ S with
  | stuck => rw [q] at h1; exact h1.elim
  | exc k f S1 => rw [q] at h1; exact h1
  | ok x S1 =>
    rw [q] at h1
    intro α1 H1 v e1 R1 V1
    obtain ⟨α1', S1', x', ex, e1', R1', V1', h2⟩ := h1 α1 H1 v e1 R1 V1
    cases ex
    refine ⟨β, α1', S1, ρ, R1', hE.ext e1', ?_⟩
    have h3 := PostG.bind (rel := Vrs T β) h2
    cases q2 : ms ρ S1 with
    | stuck => rw [q2] at h3; exact h3.elim
    | exc k f S2 => rw [q2] at h3; exact h3
    | ok y S2 =>
      rw [q2] at h3
      intro α2 H2 w e2 R2 V2
      obtain ⟨α2', S2', y', ey, e2', R2', V2', h4⟩ := h3 α2 H2 w e2 R2 V2
      cases ey
      exact h4 α2' H2 (v :: w) Ext.refl R2' (.cons (V1'.ext e2') V2')
theorem tk_nil : PK X [] (tA T W aNil) := ⟨fun pos pins s σ H Q I ⟨_, _, _, _, hR, _, h⟩ => pk_nil.run pos pins s σ H Q I (h _ H [] Ext.refl hR .nil)⟩
theorem tk_cons (ha : PE X e (tE T W me)) (hr : PK X kws (tA T W ms)) : PK X (⟨nm, e, kpos⟩ :: kws) (tA T W (aCons me ms)) :=
  ⟨fun pos pins s σ H Q I h => (pk_cons ha hr).run pos pins s σ H Q I (acons_le h)⟩
/-- how names bind: ks the names in the call's order, π where the parameters stand in it -/
def BindsK (K : PySem.W.Frag) (fd : FuncData) (ps ks : List Str) (π : List Nat) : Prop := ∀ (s : Shared) (ws : List Value), K.In s.heap → ws.length = ks.length → BindsTo s fd ⟨[], ks.zip ws⟩ (ps.zip (permL π ws))
/-- f(k = e, ..) -/
theorem tr_callK (ks : List Str) (π : List Nat) (v : Via T g m) (F : FnG X.prog X.w X.K X.mg X.base k f fd ps (spF T n m)) (hr : RoomG k X.A) (hg : Gl X x) (hm : X.mg x = some (.ref f)) (hk : PySem.W.keepIn X.K (.ref f) = true) (hb : BindsK X.K fd ps ks π) (tk : Takes X W) (hn : ks.length = n)
    (hkw : PK X kws (tA T W ms)) (hall : (backToKw pos (keywordEach kws X.env)).all (·.1.isSome) = true := by rfl) (hks : (backToKw pos (keywordEach kws X.env)).filterMap (·.1) = ks := by rfl)
    (hdb : (x == ("__debug__" : Str)) = false := by decide)
    (hpl : ((backTo pos (starEach [] X.env)).any (·.1) || (backToKw pos (keywordEach kws X.env)).any (·.1.isNone)) = false := by rfl) :
    PE X (.Call (.Name x p) [] kws pos) (tE T W (eArgs (needN n fun rs => needN n g (permL π rs)) ms)) := by
  refine ⟨fun pins s σ H Q I h => ?_⟩
  refine wpAny_Call_Name_kw (ld_glob I hg hm ?_ hdb)
  have h2 : tA T W ms σ H fun vs H1 => vs.length = n ∧ spF T n m (permL π vs) H1 Q (WE W σ) := args_go h fun β α S rs vs H1 hR hV h1 => by
    obtain ⟨hl, h2⟩ := need_of h1
    obtain ⟨hl2, h3⟩ := need_of h2
    have hV2 : Vrs T β α H1 (permL π rs) (permL π vs) := perm_pair hV (fun q => hV.get q) hV.length π
    exact ⟨by rw [← hV.length]; exact hl, by rw [← hV2.length]; exact hl2, v W σ Q β α S _ _ H1 hR hV2 h3⟩
  refine PySem.W.callWith_KW0 (h₀ := X.base) I.ok.mod.kin hk hall (thn (hkw.run pos pins s σ H _ I h2) fun ws s2 ⟨zs, H2, I2, rz, hz, q2⟩ => ⟨I2.kIn, ?_⟩) hpl
  rw [hks]
  have r2 := perm_vals rz π
  exact run_G (args := ⟨[], ks.zip ws⟩) F hr tk I2 (hb s2 ws I2.kIn (by rw [← rz.length, hn]; exact hz)) r2 q2
end
end Pev
/-! Pev, twelfth part: own errors whose __init__ begins with super().__init__("..") and keeps a field. -/
namespace Pev
open PySem PySem.Spec PyProof.Rows PySem.W PySem.Calls PySem.ESX PySem.HandSPX

/-! ### the text of such an __init__ -/
def bodyE (Fd msg : Str) (p : Nat → Pos) : List Stmt :=
  [.Expr (.Call (.Attribute (.Call (.Name "super" (p 0)) [] [] (p 1)) "__init__" (p 2)) [.Constant (.str msg) 0 (p 3)] [] (p 4)) (p 5),
   .Assign [.Attribute (.Name "self" (p 6)) Fd (p 7)] (.Name Fd (p 8)) (p 9)]
/-- how the call super().__init__("..") is done: the places stand on one line -/
def OneLine (msg : Str) (p : Nat → Pos) : Prop := ∀ env : Env, ∃ pl : Sem Bool, eval (.Call (.Attribute (.Call (.Name "super" (p 0)) [] [] (p 1)) "__init__" (p 2)) [.Constant (.str msg) 0 (p 3)] [] (p 4)) env =
  attributeBase (.Call (.Name "super" (p 0)) [] [] (p 1)) "__init__" env (eval (.Call (.Name "super" (p 0)) [] [] (p 1)) env) >>= fun ov => standAt (p 2).atName >>= fun _ => holding [ov] (getMethod ov "__init__" pl) >>= fun fx =>
    callWith (p 4) fx.1 fx.2 (backTo (p 4) (starEach [.Constant (.str msg) 0 (p 3)] env)) []
/-- what the written part says of the error class at C, whose base is at B, whose __init__ is at fI and keeps the field Fd -/
structure ErrTxt (K : Frag) (P : Program) (mg : Str → Option Value) (C B fI : Addr) (Fd : Str) : Prop where
  cls : ∃ nm q N bs sn sub ab col dd k0 k1 k2 k3 k5, K.lookup C = some (excClassObj nm q C N bs (.ref B :: exTail) true sn sub ab col dd k0 k1 k2 k3 k5 "Exception.__new__")
  sa : findIn K (.ref C) "__setattr__" = some (some (.builtin "object.__setattr__"))
  ga : findIn K (.ref C) "__getattribute__" = some (some (.builtin "BaseException.__getattribute__"))
  gg : findIn K (.ref C) "__getattr__" = some none
  noN : findIn K (.ref C) Fd = some none
  iC : findIn K (.ref C) "__init__" = some (some (.ref fI))
  tC : typeIn K (.ref fI) = some (.type "function")
  kC : keepIn K (.ref C) = true
  exC : subIn K (.ref C) (.type "BaseException") = some true
  tyC : typeIn K (.ref C) = some (.type "type")
  hdC : hasDictIn K C = true
  su : mg "super" = none
  op : nsIn K cStatics "thirdparty.any" = some none
  top : (P.main.scope.names.lookup ("super" : Str)).isSome = false
  ne : (Fd == ("self" : Str)) = false
  nd : (Fd == ("__debug__" : Str)) = false
  sI : ks_superIn K C C "__init__" = some (some (.builtin "Exception.__init__"))
  fn : ∃ (oc : Value) (od : Option Addr) (osl : Array (Option Value)) (fd : FuncData) (msg : Str) (p : Nat → Pos) (cda cc : Addr) (vs : Array Value) (file : Str) (tf : Tok) (ccl cl : Value) (cdd cld : Option Addr) (ccs csl : Array (Option Value)) (ar : Arg),
    K.lookup fI = some ⟨oc, od, .func fd, osl⟩ ∧ codeIn K fd.code fd.qualname = true ∧ fd.body = .stmts (bodyE Fd msg p) ∧ fd.scope.kind = .function ∧ fd.scope.isCoroutine = false ∧ fd.scope.isGenerator = false ∧
    (∀ x ∈ fd.scope.names, x.2 ≠ .cell) ∧ fd.scope.names.lookup ("self" : Str) = some .local ∧ fd.scope.names.lookup Fd = some .local ∧ fd.scope.names.lookup ("super" : Str) = some .globalImplicit ∧ fd.scope.names.lookup ("__class__" : Str) = some .free ∧
    fd.globals = mainGlobals ∧ fd.builtins = builtinsNs ∧ fd.closure = [(("__class__" : Str), cc)] ∧ fd.code = .ref cda ∧ (fd.params.posonlyargs ++ fd.params.args).head? = some ar ∧ ar.arg = "self" ∧
    K.lookup cda = some ⟨ccl, cdd, .fields vs, ccs⟩ ∧ vs[2]? = some (.str file tf) ∧ ((P.main.file : Str) == file) = true ∧ K.lookup cc = some ⟨cl, cld, .cell (some (.ref C)), csl⟩ ∧
    OneLine msg p ∧ (∀ x v : Value, bindArgs fd ⟨[x, v], []⟩ = pure [(("self" : Str), x), (Fd, v)]) ∧ (∀ x v : Value, bindArgs fd ⟨[x], [(Fd, v)]⟩ = pure [(("self" : Str), x), (Fd, v)])
theorem tail_typ (B : Addr) (X : String) : (Value.ref B :: exTail).contains (.type X) = exTail.contains (.type X) := rfl
theorem lead2 {C B : Addr} (b : Value) (h : exTail.contains b = true) : (Value.ref C :: Value.ref B :: exTail).contains b = true := by
  rw [List.contains_cons, List.contains_cons, h, Bool.or_true, Bool.or_true]
theorem mro2 {K : Frag} {C B : Addr} {cd : ClassData} (hcd : clsIn K C = some cd) (hm : cd.mro = .ref C :: .ref B :: exTail) {b : Value} (h : (Value.ref C :: Value.ref B :: exTail).contains b = true) : mroIn K C b = some true := by
  unfold mroIn
  rw [hcd, Option.bind_some, hm]
  rw [if_neg (show ¬ ((Value.ref C :: Value.ref B :: exTail).isEmpty = true) from fun z => Bool.false_ne_true z), h]
section
open Builtin Builtin.ObjectAttr
variable {prog : Program} {w : World} {A : Around} {R : Result → Shared → Prop} {hp : Heap} {g : Array GenState} {d : Drawn} {t : Nat} {os : OsState}
/-- a field is laid on an exception that has none yet -/
theorem osa2 {K : Frag} {name : Str} {tk : Tok} {v : Value} {x C B : Addr} {fv : Array Value} {cd : ClassData}
    (X : K.In hp) (hx : hp.get? x = some { cls := .ref C, data := .fields fv }) (hcd : clsIn K C = some cd) (hm : cd.mro = .ref C :: .ref B :: exTail) (hh : cd.hasDict = true) (ha : findIn K (.ref C) name = some none)
    (hq : ∀ h' tk' dx, (∀ b o, b ≠ x → hp.get? b = some o → h'.get? b = some o) → hp.objs.size ≤ dx → dx ≠ x → h'.get? x = some { cls := .ref C, dict := some dx, data := .fields fv } →
      h'.Ns1 dx (fun y => if y = name then some v else none) → R (.ok (.ret .none)) ⟨h', g, d, tk', os⟩) :
    codeAny (model prog w) A (.call (.builtin "object.__setattr__") ⟨[.ref x, .str name tk, v], []⟩) R ⟨hp, g, d, t, os⟩ := by
  have I : InstAt hp x { cls := .ref C, data := .fields fv } C none := ⟨hx, rfl, rfl, trivial⟩
  have SF := F.store_object
  have xs : x ≠ hp.objs.size := Nat.ne_of_lt (Heap.lt_size hx)
  have ob : Looks (model prog w) hp (isInstance (.ref x) (.type "object")) true := I.type.andThen (looks_mroIn X (mro2 hcd hm (lead2 _ (by decide +kernel))))
  refine codeAny_call_builtin SF.slot.plain SF.entry
    (@check_slot (model prog w) _ _ ⟨hp, g, d, t, os⟩ "object.__setattr__" "object" "__setattr__" (.ref x) [.str name tk, v] [] _ SF.kind SF.split ob (SF.args (.ref x) (.str name tk) v) ?_)
  have mr : Looks (model prog w) hp (mroOf (.ref C)) cd.mro := (looks_clsIn X hcd).andThen .now
  have st : Looks (model prog w) hp (storeTaker? none) none := .now
  have pas : refuseLoop (.ref x) "__setattr__" cd.mro = pure () := by
    rw [hm, refuseLoop_ref]
    rw [refuseLoop_ref]
    exact F.store_Exception.passes _
  rw [osa_eq, refuse_eq]
  refine wpAny_bind (wpAny_bind (I.type.at (wpAny_bind (mr.at ?_))))
  rw [pas]
  refine wpAny_pure (wpAny_bind (I.type.at (wpAny_bind ((looks_findIn X ha).at (wpAny_bind (st.at ?_))))))
  have cl : Looks (model prog w) hp (classData C) cd := looks_clsIn X hcd
  obtain ⟨nm, bs, mro, ns, qn, hd, sn, sb, ab, col, del⟩ := cd
  dsimp only at hh
  subst hh
  unfold storeInOwnDict ownDictForStores
  repeat (first | with_reducible refine store_in_new ?_ ?_ | with_reducible refine wpAny_loadPart_at hx ?_ | with_reducible refine cl.at ?_ | wp_step)
  · exact ⟨_, #[], _, (Heap.get?_update_ne _ _ _ _ xs.symm).trans (Heap.get?_push_at rfl rfl), rfl, fun e he => absurd he (by simp), fun _ => rfl⟩
  · intro h' tk' hn' hs
    have hx₁ : (hp.push { cls := .type "dict", data := .dict #[] }).get? x = some { cls := .ref C, data := .fields fv } := Heap.get?_push_of_some _ hx
    refine hq h' tk' hp.objs.size (fun b o hb ho => (hs.2 b (Nat.ne_of_lt (Heap.lt_size ho))).trans ((Heap.get?_update_ne _ _ _ _ hb).trans (Heap.get?_push_of_some _ ho))) (Nat.le_refl _) xs.symm ?_ hn'
    exact (hs.2 x xs).trans (Heap.get?_update_self _ hx₁ rfl)
end
/-- what __init__ leaves of a fresh exception at x -/
structure Inited (h h' : Heap) (x C dx : Addr) (Fd : Str) (v : Value) : Prop where
  keep : ∀ b o, b ≠ x → h.get? b = some o → h'.get? b = some o
  obj : ∃ t1 : Addr, h'.get? x = some { cls := .ref C, dict := some dx, data := .fields #[.ref t1, .none, .none, .none, .bool false, .none] }
  dbig : h.objs.size ≤ dx
  dne : dx ≠ x
  ns : h'.Ns1 dx (fun y => if y = Fd then some v else none)
section
variable {prog : Program} {w : World} {A : Around} {R : Result → Shared → Prop} {s : Shared} {K : Frag} {mg : Str → Option Value} {C B fI : Addr} {Fd : Str}
theorem err_init (T : ErrTxt K prog mg C B fI Fd) {x t0 : Addr} {v : Value} {args : Args} (hargs : args = ⟨[.ref x, v], []⟩ ∨ args = ⟨[.ref x], [(Fd, v)]⟩) (X : K.In s.heap) (hlim : s.heap.NoLimit) (hG : s.heap.Ns mainGlobals mg) (hB : ∃ mb, s.heap.Ns builtinsNs mb ∧ mb "super" = some (.type "super"))
    (hx : s.heap.get? x = some (excO C t0)) (hnx : K.lookup x = none) (hroom : A.depth < recursionLimit) (hq : ∀ h' tk dx, Inited s.heap h' x C dx Fd v → R (.ok (.ret .none)) { s with heap := h', toks := tk }) :
    codeAny (model prog w) A (.call (.ref fI) args) R s := by
  obtain ⟨oc, od, osl, fd, msg, p, cda, cc, vs, file, tf, ccl, cl, cdd, cld, ccs, csl, ar, ho, hcd, hbody, hk, hco, hge, hnc, hself, hF, hsu, hcls, hgl, hbl, hclo, hco2, har, hars, hcode, hvs, hfile, hcell, hone, hbind1, hbind2⟩ := T.fn
  have hbind : bindArgs fd args = pure [(("self" : Str), .ref x), (Fd, v)] := by
    rcases hargs with rfl | rfl
    · exact hbind1 _ _
    · exact hbind2 _ _
  obtain ⟨nm, q, N, bs, sn, sub, ab, col, dd, k0, k1, k2, k3, k5, hC⟩ := T.cls
  have hcl : clsIn K C = some { name := nm, bases := bs, mro := .ref C :: .ref B :: exTail, ns := N, qualname := q, hasDict := true, slotNames := sn, subclasses := sub, abstract := ab, collection := col, hasDel := false } := by unfold clsIn; rw [hC] <;> rfl
  refine ks_codeAny_call_defAt (fd := fd) (binds := [(("self" : Str), .ref x), (Fd, v)]) hroom (X _ _ ho) rfl hlim (codeRec_of X hcd) hbody (BindsTo.of_eq hbind) hnc ?_ (fun h₁ hns hk₁ => ?_) hco hge hk
  · intro y hy
    rcases List.mem_cons.mp hy with e | hy
    · subst e; exact hself
    · rcases List.mem_cons.mp hy with e | hy
      · subst e; exact hF
      · cases hy
  have nf : Fd ≠ ("self" : Str) := fun e => by have := T.ne; rw [e] at this; simp at this
  have b1 : (([(("self" : Str), Value.ref x), (Fd, v)] : List (Str × Value)).reverse.lookup ("self" : Str)) = some (.ref x) := by
    have q : (("self" : Str) == Fd) = false := by simpa using fun e => nf e.symm
    simp [List.lookup, q]
  have b2 : (([(("self" : Str), Value.ref x), (Fd, v)] : List (Str × Value)).reverse.lookup Fd) = some v := by simp [List.lookup]
  have X₁ : K.In h₁ := X.keeps hk₁
  have hx₁ := hk₁ _ _ hx
  have ek : ∀ y, (callEnv fd s.heap.objs.size fI).kindOf y = fd.scope.names.lookup y := fun _ => rfl
  have hL : s.heap.objs.size ≠ x := Nat.ne_of_gt (Heap.lt_size hx)
  -- super().__init__(..)
  have hint : interactive (callEnv fd s.heap.objs.size fI) = false := by
    show (fd.scope.kind == .module && _) = false
    rw [hk]
    rfl
  obtain ⟨pl, he⟩ := hone (callEnv fd s.heap.objs.size fI)
  refine ks_wpAt_execs_cons (ks_wpAt_Expr_any (ks_wpAt_MethodCall (pl := pl) ?_ he) hint (by rfl))
  obtain ⟨mb, hB1, hB2⟩ := hB
  refine ks_wpAt_super_base (env := callEnv fd s.heap.objs.size fI) ((ek _).trans hsu) ((ek _).trans hcls) rfl rfl (X₁ _ _ ho) rfl har (show (callEnv fd s.heap.objs.size fI).code = _ from hco2) (X₁ _ _ hcode) rfl hvs hfile T.top ?_
  refine ks_loadName_global hk ((ek _).trans hsu) (loadGlobal_builtin (env := callEnv fd s.heap.objs.size fI) (mg := mg) (mb := mb) ?_ T.su ?_ hB2 ⟨rfl, ?_⟩)
  · show h₁.Ns fd.globals mg
    rw [hgl]; exact hG.keeps hk₁
  · show h₁.Ns fd.builtins mb
    rw [hbl]; exact hB1.keeps hk₁
  have hcc : (callEnv fd s.heap.objs.size fI).cells.lookup ("__class__" : Str) = some cc := by
    show fd.closure.lookup ("__class__" : Str) = some cc
    rw [hclo]
    rfl
  refine wpAny_loadName_free hk ((ek _).trans hcls) hcc ⟨_, X₁ _ _ hcell, rfl⟩ ?_
  rw [hars]
  refine wpAny_loadName_local hk ((ek _).trans hself) hns b1 ?_
  refine ks_wpAny_isType_cls (X₁ _ _ hC) rfl ⟨rfl, ?_⟩
  refine ks_wpAny_call_super (X₁ _ _ hC) rfl hx₁ rfl (fun c e => by cases e) (looks_mroIn X₁ (mro2 hcl rfl (by rw [List.contains_cons]; simp))) (fun h₂ e₂ k₂ => ?_)
  have X₂ : K.In h₂ := X₁.keeps k₂
  have hx₂ := k₂ _ _ hx₁
  have I₂ : InstAt h₂ x (excO C t0) C none := ⟨hx₂, rfl, rfl, trivial⟩
  have xC : x ≠ C := ks_ne X₂ I₂ hcl
  have sI := T.sI
  unfold ks_superIn at sI
  rw [hcl] at sI
  refine getMethod_super e₂ (looks_opaque X₂ T.op) (l₀ := .ref C :: .ref B :: exTail) ((looks_clsIn X₂ hcl).andThen .now) rfl X₂ sI xC rfl (I₂.type.andThen (looks_mroIn X₂ (mro2 hcl rfl (lead2 _ (by decide +kernel))))) ?_
  have k₃ : ∀ b o, h₁.get? b = some o → (h₂.push (bw x)).get? b = some o := fun b o e => Heap.get?_push_of_some _ (k₂ b o e)
  refine callWith_bound (x := x) ?_
  refine spliced_more (wpAny_Constant_str (spliced_none ?_))
  refine ⟨Heap.get?_push_at rfl rfl, ?_⟩
  refine call_bw (t0 := t0) (k₃ _ _ (X₁ _ _ hC)) (k₃ _ _ hx₁) (Heap.get?_push_at rfl rfl) (by rw [sizeLine_eq]; exact (by decide : 1 ≤ 16777216)) (fun h₄ t1 k₄ e₄ => ?_)
  -- self.F = Fd
  have k₅ : ∀ b o, b ≠ x → h₁.get? b = some o → h₄.get? b = some o := fun b o hb e => k₄ b o hb (k₃ b o e)
  have X₄ : K.In h₄ := fun a o e => k₅ a o (fun z => by rw [z, hnx] at e; cases e) (X₁ a o e)
  have n₄ : h₄.Ns s.heap.objs.size fun y => ([(("self" : Str), Value.ref x), (Fd, v)] : List (Str × Value)).reverse.lookup y := hns.at fun o q => k₅ _ _ hL q
  have hca : K.lookup C = some _ := hC
  show PySem.wpAt _ _ _ (execs _ _) _ _ _
  refine PySem.wpAt_of_wpAny (wpAny_execs_cons (plainObj_wpAny_Assign_Attribute ?_))
  refine ldL (env := callEnv fd s.heap.objs.size fI) (v := v) n₄ b2 (ldL (env := callEnv fd s.heap.objs.size fI) (v := .ref x) n₄ b1 ?_ hk ((ek _).trans hself)) hk ((ek _).trans hF) T.nd
  refine set_plain X₄ (ox := excO C t1) (od := none) ⟨e₄, rfl, rfl, trivial⟩ T.sa ?_
  refine osa2 X₄ e₄ hcl rfl rfl T.noN (fun h₆ tk₆ dx k₆ dn dne hx₆ hn₆ => ?_)
  show wpAny _ _ (execs _ _) _ _ _
  have z : s.heap.objs.size < h₄.objs.size := n₄.lt
  exact wpAny_execs_nil (hq h₆ tk₆ dx ⟨fun b o hb e => k₆ b o hb (k₅ b o hb (hk₁ b o e)), ⟨t1, hx₆⟩, Nat.le_of_lt (Nat.lt_of_lt_of_le z dn), dne, hn₆⟩)
/-- a made one -/
structure Made (h h' : Heap) (e C d : Addr) (Fd : Str) (v : Value) : Prop where
  keep : ∀ b o, h.get? b = some o → h'.get? b = some o
  new : h.objs.size ≤ e
  obj : ∃ oe vs, h'.get? e = some oe ∧ oe.cls = .ref C ∧ oe.dict = some d ∧ oe.data = .fields vs ∧ vs[1]? = some .none
  dbig : h.objs.size ≤ d
  dne : d ≠ e
  ns : h'.Ns1 d (fun y => if y = Fd then some v else none)
theorem err_made (T : ErrTxt K prog mg C B fI Fd) {v : Value} (X : K.In s.heap) (hlim : s.heap.NoLimit) (hG : s.heap.Ns mainGlobals mg) (hB : ∃ mb, s.heap.Ns builtinsNs mb ∧ mb "super" = some (.type "super")) (hroom : A.depth + 1 < recursionLimit)
    (hq : ∀ h' tk e d, Made s.heap h' e C d Fd v → R (.ok (.ret (.ref e))) { s with heap := h', toks := tk }) :
    codeAny (model prog w) A (.call (.ref C) ⟨[v], []⟩) R s := by
  obtain ⟨nm, q, N, bs, sn, sub, ab, col, dd, k0, k1, k2, k3, k5, hC⟩ := T.cls
  obtain ⟨hp, g, dr, tk, os⟩ := s
  have up : ∀ b o, hp.get? b = some o → ((hp.push (kdv_tup [v])).push (excO C hp.objs.size)).get? b = some o := fun b o e => Heap.get?_push_of_some _ (Heap.get?_push_of_some _ e)
  have atx : ((hp.push (kdv_tup [v])).push (excO C hp.objs.size)).get? (hp.objs.size + 1) = some (excO C hp.objs.size) := by heap_get
  have notK : K.lookup (hp.objs.size + 1) = none := by
    cases e : K.lookup (hp.objs.size + 1) with
    | none => rfl
    | some o => exact absurd (Nat.lt_of_succ_lt (Heap.lt_size (show hp.get? (hp.objs.size + 1) = some o from X _ _ e))) (Nat.lt_irrefl _)
  refine call_own F.excBase_Exception (tail_typ B) (X _ _ hC) (looks_findIn X T.iC) (fun self => bind_fn X self T.tC) (by rw [sizeLine_eq]; exact (by decide : 1 ≤ 16777216)) ?_
  obtain ⟨mb, hB1, hB2⟩ := hB
  refine err_init (s := ⟨(hp.push (kdv_tup [v])).push (excO C hp.objs.size), g, dr, tk, os⟩) T (.inl rfl) (X.keeps up) (hlim.keeps up) (hG.keeps up) ⟨mb, hB1.keeps up, hB2⟩ atx notK (show A.depth + 1 < recursionLimit from hroom) fun h' tk' dx M => ?_
  have old : ∀ b o, hp.get? b = some o → h'.get? b = some o := fun b o e => M.keep b o (Nat.ne_of_lt (Nat.lt_succ_of_lt (Heap.lt_size e))) (up b o e)
  have z : hp.objs.size + 1 + 1 ≤ dx := by
    have q := M.dbig
    first
      | exact q
      | (rw [Heap.size_push, Heap.size_push] at q; exact q)
      | (simpa only [Heap.size_push] using q)
  obtain ⟨t1, ho⟩ := M.obj
  exact ⟨rfl, hq h' tk' (hp.objs.size + 1) dx ⟨old, Nat.le_succ _, ⟨_, _, ho, rfl, rfl, rfl, rfl⟩, Nat.le_trans (Nat.le_trans (Nat.le_succ _) (Nat.le_succ _)) z, M.dne, M.ns⟩⟩
end
end Pev
/-! Pev, thirteenth part: raise, try. -/
namespace Pev
open PySem PySem.Spec PyProof.Rows L2

theorem boot_super : bootBuiltins "super" = some (.type "super") := by first | rfl | decide +kernel | kernel_rfl
theorem relO_fld {Fd : Str} {v : V} {u : Value} (r : RelV v u) (f : Str) : RelO (List.lookup f [(Fd, v)]) (if f = Fd then some u else none) := by
  by_cases h : f = Fd
  · subst h
    rw [if_pos rfl]
    have q : List.lookup f [(f, v)] = some v := by simp [List.lookup]
    rw [q]
    exact r
  · rw [if_neg h]
    have w : (f == Fd) = false := by simpa using h
    have q : List.lookup f [(Fd, v)] = none := by simp [List.lookup, w]
    rw [q]
    trivial
section
variable {X : Cx} {C B fI : Addr} {Fd : Str}
def tMkE (C : Addr) (Fd : Str) (te : TE) : L2.St → Hp → XK → Prop := fun σ H Q => te σ H fun v H1 => ∀ d, H1 d = none → Q (.ref C) (some d) (upd H1 d (.xd [(Fd, v)]))
/-- C(e) -/
theorem pmk_err {x : Str} {a : Expr} {te : TE} {p pos : Pos} {k : Nat} (E : ErrTxt X.K X.prog X.mg C B fI Fd) (hr : RoomG k X.A) (ha : PE X a te) (hg : Gl X x) (hm : X.mg x = some (.ref C)) (hdb : (x == ("__debug__" : Str)) = false := by decide)
    (he : starEach (a :: []) X.env = (false, eval a X.env) :: starEach [] X.env := by rfl) (hpl : (backTo pos (starEach [] X.env)).any (·.1) = false := by rfl) : PMk X (.Call (.Name x p) [a] [] pos) (tMkE C Fd te) := by
  intro pins s σ H Q I h
  refine wpAny_Call_Name_kw (ld_glob I hg hm ?_ hdb)
  have h2 : tCons te tNil σ H fun vs H1 => ∃ v, vs = [v] ∧ ∀ d, H1 d = none → Q (.ref C) (some d) (upd H1 d (.xd [(Fd, v)])) := by
    show te σ H fun v H1 => _
    have e : (fun (v : V) (H1 : Hp) => tNil σ H1 fun vs H2 => ∃ w, v :: vs = [w] ∧ ∀ d, H2 d = none → Q (.ref C) (some d) (upd H2 d (.xd [(Fd, w)]))) = fun v H1 => ∀ d, H1 d = none → Q (.ref C) (some d) (upd H1 d (.xd [(Fd, v)])) := by
      funext v H1
      refine propext ⟨fun z => ?_, fun z => ⟨v, rfl, z⟩⟩
      obtain ⟨w, e, z⟩ := z
      cases e
      exact z
    rw [e]
    exact h
  refine PySem.W.callWith_K (h₀ := X.base) I.ok.mod.kin E.kC (thn ((pa_cons ha pa_nil he).run pos pins s σ H _ I h2) fun us s1 hh => ?_) he hpl
  obtain ⟨vs, H1, I1, r1, v, ev, q1⟩ := hh
  subst ev
  refine ⟨I1.kIn, ?_⟩
  cases r1 with
  | cons rv rn =>
    rename_i v' us'
    cases rn
    show wpAny _ _ (call (.ref C) [v']) _ _ _
    have hlim := I1.nolimit
    have hG := I1.mod.glob.keeps I1.bk
    obtain ⟨mb, hB1, hB2⟩ := I1.mod.blt
    have hB := hB1.keeps I1.bk
    obtain ⟨hp, g, dr, tk, os⟩ := s1
    refine wpAny_call (err_made E I1.kIn hlim hG ⟨mb, hB, (hB2 _ (by decide)).trans boot_super⟩ (by have := hr.dp; omega) fun h' tk' e d M => ?_)
    show MkP X pins σ Q (.ref e) ⟨h', g, dr, tk', os⟩
    obtain ⟨oe, fv, hoe, hc, hd, hdat, h1⟩ := M.obj
    have hns := M.ns
    obtain ⟨G, g1, g2⟩ := restrict h' fun b => decide (b ≠ e)
    have gk : ∀ b, b ≠ e → G.get? b = h'.get? b := fun b hb => g1 b (decide_eq_true hb)
    have ge : G.get? e = none := g2 e (by simp)
    have old : ∀ b o, hp.get? b = some o → G.get? b = some o := fun b o q => (gk b (Nat.ne_of_lt (Nat.lt_of_lt_of_le (Heap.lt_size q) M.new))).trans (M.keep b o q)
    have ob : ObjOk X.prog X.w (upd H1 d (.xd [(Fd, v)])) G d (.xd [(Fd, v)]) := ⟨_, hns.at (fun o q => (gk d M.dne).trans q), fun f => relO_fld rv f⟩
    have J : Inv X pins σ (upd H1 d (.xd [(Fd, v)])) ⟨G, g, dr, tk', os⟩ := I1.laid (t' := tk') old M.dbig ob
    refine ⟨e, oe, fv, ⟨G, g, dr, tk', os⟩, _, .ref C, some d, rfl, J, fun b o q => ?_, ge, hoe, ⟨hc, hd⟩, hdat, h1, ?_, rfl, I1.bare, raises_own E.exC E.tyC, q1 d (I1.hok.fresh M.dbig)⟩
    · by_cases hb : b = e
      · have z : G.get? b = some o := q
        rw [hb, ge] at z; cases z
      · exact (gk b hb).symm.trans q
    · rw [upd_ne (Ne.symm M.dne)]
      exact I1.hok.fresh M.new
end
def sRaise (c : Nat) (m : EM) : SM := fun ρ S => (m ρ S).toS ρ fun r S1 => match r with
  | .dat d => .exc c (some d) ρ S1
  | _ => .stuck
section
variable {X : Cx} {T : Tb} {W : WX} {m : EM}
theorem ts_raise (c : Nat) {B fI : Addr} {x : Str} {a : Expr} {p pos pos2 : Pos} {k : Nat} (hc : X.calm = true) (E : ErrTxt X.K X.prog X.mg (T.cls c) B fI (T.fld c)) (hr : RoomG k X.A) (tk : Takes X W) (hg : Gl X x) (hm : X.mg x = some (.ref (T.cls c))) (ha : PE X a (tE T W m))
    (hdb : (x == ("__debug__" : Str)) = false := by decide) (he : starEach (a :: []) X.env = (false, eval a X.env) :: starEach [] X.env := by rfl) (hpl : (backTo pos (starEach [] X.env)).any (·.1) = false := by rfl) :
    PS X (.Raise (some (.Call (.Name x p) [a] [] pos)) none pos2) (tS T W (sRaise c m)) :=
  ps_le (ps_raise hc tk (pmk_err E hr ha hg hm hdb he hpl)) fun D σ H h => then_le' (k := fun ρ r S1 => match r with
    | .dat d => .exc c (some d) ρ S1
    | _ => .stuck) h fun β α S ρ r v H1 hR hE hV hp => by
      cases r with
      | dat z =>
        intro d hd
        have sm : Same H1 (upd H1 d (.xd [(T.fld c, v)])) := same_new hd
        exact hp α _ σ _ _ (Ext.same sm) (hR.same sm) (hE.ext (Ext.same sm)) ⟨rfl, fun y ey => ⟨d, v, rfl, hR.hidNew hd, by cases ey; exact Dq.same (Ext.same (α := α) sm).hid hV⟩⟩
      | _ => exact hp.elim
end

/-! ### try: body / except ..: .., with and without names -/
abbrev Ts := Addr → Value → Option Addr → TS
def Ends.clear (D : Ends) (i : Nat) : Ends := { nx := fun σ H => D.nx (σ.set i none) H, rt := D.rt, bk := fun σ H => D.bk (σ.set i none) H, ct := fun σ H => D.ct (σ.set i none) H }
/-- what the clauses wish of an exception of the body -/
def wHd (K : PySem.W.Frag) (Wo : WX) (D : Ends) : List (Value × Option Nat × Ts) → WX
  | [] => Wo
  | (c, o, ts) :: l => fun cls d σ H => ∃ b, PySem.W.exmOne K cls c = some b ∧
      (b = true → ∀ a, H a = none → match o with | none => ts a cls d D σ H | some i => ts a cls d (Ends.clear D i) (σ.set i (some (.ref a))) H) ∧ (b = false → wHd K Wo D l cls d σ H)
inductive Hds (X : Cx) : List ExceptHandler → List (Value × Option Nat × Ts) → Prop
  | nil : Hds X [] []
  | bare {x : Str} {c : Value} {ts : Ts} {st : Stmt} {sts : List Stmt} {p p' : Pos} {hds : List ExceptHandler} {l : List (Value × Option Nat × Ts)} (hc : Names X x c)
      (su : ∀ (a : Addr) (oe : Obj) (cls : Value) (d : Option Addr) (pn : List (Addr × Obj)), Zc cls d oe → (∃ vs, oe.data = .fields vs) → PSs (X.suite a ((a, oe) :: pn)) (st :: sts) (ts a cls d)) (r : Hds X hds l) :
      Hds X (.ExceptHandler (some (.Name x p)) none (st :: sts) p' :: hds) ((c, none, ts) :: l)
  | named {x n : Str} {i : Nat} {c : Value} {ts : Ts} {st : Stmt} {sts : List Stmt} {p p' : Pos} {hds : List ExceptHandler} {l : List (Value × Option Nat × Ts)} (hN : X.N.Nodup) (hi : X.N[i]? = some n) (hl : X.env.kindOf n = some .local) (hc : Names X x c)
      (su : ∀ (a : Addr) (oe : Obj) (cls : Value) (d : Option Addr) (pn : List (Addr × Obj)), Zc cls d oe → (∃ vs, oe.data = .fields vs) → PSs (X.suite a ((a, oe) :: pn)) (st :: sts) (ts a cls d)) (r : Hds X hds l) :
      Hds X (.ExceptHandler (some (.Name x p)) (some n) (st :: sts) p' :: hds) ((c, some i, ts) :: l)
section
variable {X : Cx} {body : List Stmt} {h₀ : ExceptHandler} {hds : List ExceptHandler} {l : List (Value × Option Nat × Ts)} {pos : Pos} {tb : WX → TS} {Wo : WX}
/-- an object that is no frame -/
theorem no_frame {B h : Heap} {fs : List Env} {a : Addr} {o : Obj} {vs : Array Value} (ff : h.FunFrames B fs) (e : h.get? a = some o) (hd : o.data = .fields vs) : a ∉ frs fs := fun m => by
  obtain ⟨_, o', e', nf⟩ := ff.mem m
  have : o' = o := Option.some.inj (e'.symm.trans e)
  subst this
  exact nf _ hd
theorem ps_clauses (hs : X.stack = X.env :: X.outer) (hf : X.env.frame = some X.env.locals) (tk : Takes X Wo)
    (hb : ∀ (W : WX) (pn : List (Addr × Obj)) (xe : Value → Shared → Prop), Takes (X.tr pn xe) W → PassesOwn (model X.prog X.w) X.A X.env xe → PSs (X.tr pn xe) body (tb W)) (hh : Hds X (h₀ :: hds) l) :
    PS X (.Try body (h₀ :: hds) [] [] pos) (fun D σ H => tb (wHd X.K Wo D l) D σ H) := by
  constructor
  intro pins s σ H D I h
  have okX := I.ok
  have frX : X.A.frames = some (X.env :: X.outer) := okX.frames.trans (congrArg some hs)
  refine wpAny_Try_except ?_
  have hbody := hb (wHd X.K Wo D l) (X.pn ++ pins) (fun e s₁ => wpAny (model X.prog X.w) X.A (noteFrame e X.env) (fun _ s₂ => wpAny (model X.prog X.w) X.A (setFlight e none)
    (fun _ s₃ => wpAny (model X.prog X.w) X.A (handleBy e X.env (h₀ :: hds)) (SP X pins D) X.xe s₃) X.xe s₂) X.xe s₁)
  refine wpAny_mono ((hbody ?caught PassesOwn.looking).run [] s σ H D (I.toTry _) h) ?thru (fun _ _ q => q)
  case thru =>
    intro f s1 q
    cases f with
    | ret u =>
      obtain ⟨v, σ1, H1, J, r, w⟩ := q
      exact ⟨v, σ1, H1, J.ofTry okX, r, w⟩
    | next =>
      obtain ⟨σ1, H1, J, w⟩ := q
      exact wpAny_execs_nil ⟨σ1, H1, J.ofTry okX, w⟩
    | brk =>
      obtain ⟨σ1, H1, J, w⟩ := q
      exact ⟨σ1, H1, J.ofTry okX, w⟩
    | cont =>
      obtain ⟨σ1, H1, J, w⟩ := q
      exact ⟨σ1, H1, J.ofTry okX, w⟩
  case caught =>
    intro u s' flown
    obtain ⟨a, B, sI, pins', σ', H', cls, d, rfl, J0, nb, up, sky0, na, os, ag, wish⟩ := flown
    have J : Inv X pins σ' H' sI := J0.ofTry okX
    have sky : Sky B (X.env :: X.outer) a (Zc cls d) X.env.locals s'.heap := hs ▸ sky0
    show wpAny (model X.prog X.w) X.A (noteFrame (.ref a) X.env) _ _ _
    refine Sky.land Zc.steady frX hf sky fun h3 fl up3 => ?_
    have J3 : Inv X pins σ' H' { s' with heap := h3 } := J.landed nb fl.1 (up.trans up3) os ag
    obtain ⟨oe, fv, he, hz, hd⟩ := fl.there
    have nfr := no_frame fl.2.2.1 he hd
    have nL : a ≠ X.env.locals := fun z => nfr (List.mem_filterMap.mpr ⟨X.env, .head _, by rw [hf, z]⟩)
    have nF : a ∉ X.fs := fun m => by
      obtain ⟨e, he, q⟩ := List.mem_filterMap.mp m
      exact nfr (List.mem_filterMap.mpr ⟨e, .tail _ he, q⟩)
    have JS := J3.suite he hd na nL nF
    -- a clause's name
    have named : ∀ {x : Str} {c : Value} {p : Pos}, Names X x c → ∀ {Q : Value → Shared → Prop} {E : Value → Shared → Prop}, Q c { s' with heap := h3 } →
        wpAny (model X.prog X.w) (X.A.mark (some (.ref a))) (eval (.Name x p) X.env) Q E { s' with heap := h3 } := by
      intro x c p hc Q E q
      rcases hc with ⟨g, db, m | ⟨m, v, nn⟩⟩
      · exact ld_glob (X := X.suite a ((a, oe) :: (X.pn ++ pins))) JS g m q db
      · exact ld_blt (X := X.suite a ((a, oe) :: (X.pn ++ pins))) JS g m v q nn db
    have LT : PySem.W.Looks (model X.prog X.w) h3 (typeOf (.ref a)) cls := fun A Q E s k q => wpAny_typeOf_ref (k _ _ he) (hz.1.symm ▸ q)
    -- a suite's ways out
    suffices go : ∀ {hds' : List ExceptHandler} {l' : List (Value × Option Nat × Ts)}, Hds X hds' l' → wHd X.K Wo D l' cls d σ' H' →
        wpAny (model X.prog X.w) X.A (handleBy (.ref a) X.env hds') (SP X pins D) X.xe { s' with heap := h3 } from go hh wish
    intro hds' l' ok
    induction ok with
    | nil =>
      intro w
      refine wpAny_handleBy_nil ?_
      obtain ⟨k1, k2, k3, o2, fs, t2, ot, ts', e2, z2, d2, at1, tb2⟩ := id fl
      unfold PySem.passOn
      refine wpAny_bind (wpAny_field e2 d2 at1 ?_)
      rw [if_neg (fun z => by simp at z)]
      have on : wpAny (model X.prog X.w) X.A (setFlight (.ref a) X.env.frame) (fun _ s4 => wpAny (model X.prog X.w) X.A (throw (.ref a) : Sem Flow) (SP X pins D) X.xe s4) X.xe { s' with heap := h3 } := by
        rw [hf]
        refine HandSPX.setFlight_upZ fl fun h4 held up4 => wpAny_throw (tk _ _ ⟨a, B, sI, pins, σ', H', cls, d, rfl, J, nb, (up.trans up3).trans up4, .inr (.inr (hs.symm ▸ held)), na, os, ag, w⟩)
      first
        | exact wpAny_bind on
        | exact wpAny_bind (wpAny_pure (wpAny_bind on))
    | bare hc su r ih =>
      intro w
      obtain ⟨b, eb, yes, no⟩ := w
      refine wpAny_handleBy_cons (codeAny_handlers_test (named hc ((PySem.W.exm_one J3.kIn LT eb).here ?_))) (fun z => by cases z)
      cases b with
      | false => exact ih (no rfl)
      | true =>
        refine codeAny_handlers_suite (HandSPX.lands_againZ fl fun h4 fl4 up4 => ?_)
        have J4 : Inv X pins σ' H' { s' with heap := h4 } := J.landed nb fl4.1 ((up.trans up3).trans up4) os ag
        obtain ⟨o4, v4, e4, z4, d4⟩ := fl4.there
        refine wpAny_mono ((su a o4 cls d (X.pn ++ pins) z4 ⟨_, d4⟩).run [] _ _ H' _ (J4.suite e4 d4 na nL nF) (yes rfl a na)) (fun f s6 out => ?_) (fun _ _ z => z.elim)
        cases f with
        | ret u =>
          obtain ⟨v6, σ6, H6, J6, r6, q6⟩ := out
          exact ⟨_, _, _, J6.unsuite okX, r6, q6⟩
        | next =>
          obtain ⟨σ6, H6, J6, q6⟩ := out
          exact ⟨_, _, J6.unsuite okX, q6⟩
        | brk =>
          obtain ⟨σ6, H6, J6, q6⟩ := out
          exact ⟨_, _, J6.unsuite okX, q6⟩
        | cont =>
          obtain ⟨σ6, H6, J6, q6⟩ := out
          exact ⟨_, _, J6.unsuite okX, q6⟩
    | named hN hi hl hc su r ih =>
      rename_i x n i c ts st sts p p' hds2 l2
      intro w
      obtain ⟨b, eb, yes, no⟩ := w
      refine wpAny_handleBy_cons (codeAny_handlers_test (named hc ((PySem.W.exm_one J3.kIn LT eb).here ?_))) (fun z => by cases z)
      cases b with
      | false => exact ih (no rfl)
      | true =>
        refine codeAny_handlers_suite_as (HandSPX.lands_againZ fl fun h4 fl4 up4 => ?_)
        have J4 : Inv X pins σ' H' { s' with heap := h4 } := J.landed nb fl4.1 ((up.trans up3).trans up4) os ag
        obtain ⟨o4, v4, e4, z4, d4⟩ := fl4.there
        refine store_ok (X := X.suite a ((a, o4) :: (X.pn ++ pins))) (v := .ref a) (J4.suite e4 d4 na nL nF) hN hi (.inl hl) rfl (fun s5 J5 => ?_) (.inr hl)
        refine wpAny_mono ((su a o4 cls d (X.pn ++ pins) z4 ⟨_, d4⟩).run [] s5 _ H' _ J5 (yes rfl a na)) (fun f s6 out => ?_) (fun _ _ z => z.elim)
        have fin : ∀ {σ6 : L2.St} {H6 : Hp} {Q : Shared → Prop}, Inv (X.suite a ((a, o4) :: (X.pn ++ pins))) [] σ6 H6 s6 → (∀ s7, Inv X pins (σ6.set i none) H6 s7 → Q s7) →
            wpAny (model X.prog X.w) X.A (do bindName X.env n .none; unbindBehindTheSuite X.env n p') (fun _ s7 => Q s7) X.xe s6 := fun J6 hq => gone_ok (J6.unsuite okX) hN hi hl hq
        cases f with
        | ret u =>
          obtain ⟨v6, σ6, H6, J6, r6, q6⟩ := out
          exact fin J6 fun s7 J7 => ⟨_, _, _, J7, r6, q6⟩
        | next =>
          obtain ⟨σ6, H6, J6, q6⟩ := out
          exact fin J6 fun s7 J7 => ⟨_, _, J7, q6⟩
        | brk =>
          obtain ⟨σ6, H6, J6, q6⟩ := out
          exact fin J6 fun s7 J7 => ⟨_, _, J7, q6⟩
        | cont =>
          obtain ⟨σ6, H6, J6, q6⟩ := out
          exact fin J6 fun s7 J7 => ⟨_, _, J7, q6⟩
end

/-! ### its mirror -/
structure Hd where
  hits : List Bool
  slot : Option Nat
  suite : SM
/-- no exception leaves a suite -/
def OutS.calm : OutS → OutS
  | .exc _ _ _ _ => .stuck
  | o => o
/-- .. and the name goes -/
def OutS.fade (i : Nat) : OutS → OutS
  | .nx ρ S => .nx (ρ.set i none) S
  | .bk ρ S => .bk (ρ.set i none) S
  | .ct ρ S => .ct (ρ.set i none) S
  | .rt r S => .rt r S
  | _ => .stuck
def hRun : List Hd → Nat → Option PyData → Rho → Sto → OutS
  | [], c, f, ρ, S => .exc c f ρ S
  | h :: hs, c, f, ρ, S => match h.hits[c]? with
    | some true => match h.slot with
      | none => (h.suite ρ S).calm
      | some i => (h.suite (ρ.set i (some (.err c f))) S).fade i
    | some false => hRun hs c f ρ S
    | none => .stuck
def sTry (b : SM) (hs : List Hd) : SM := fun ρ S => match b ρ S with
  | .exc c f ρ1 S1 => hRun hs c f ρ1 S1
  | o => o
def Tb.hold (T : Tb) (a : Addr) (cls : Value) (d : Option Addr) (i : Nat) : Tb := { T with cur := some (a, cls, d, i) }
section
variable {T : Tb} {β : List Addr} {α : List (Option Addr)} {H : Hp} {S : Sto} {a : Addr} {cls : Value} {d : Option Addr} {i : Nat} {σ : L2.St} {ρ : Rho}
theorem Rl.hold (h : Rl T β α S H) : Rl (T.hold a cls d i) β α S H := ⟨h.len, h.inj, h.off, h.bt, h.mt, fun k rs q => h.cell k rs q, h.tab⟩
theorem Rl.free (h : Rl (T.hold a cls d i) β α S H) : Rl T β α S H := ⟨h.len, h.inj, h.off, h.bt, h.mt, fun k rs q => h.cell k rs q, h.tab⟩
theorem Er.hold {c : Nat} {f : Option PyData} (h : Er T β α H σ ρ) (x : ExcR T β α H c f cls d) : Er (T.hold a cls d i) β α H (σ.set i (some (.ref a))) (ρ.set i (some (.err c f))) := by
  refine ⟨by rw [List.length_set, List.length_set]; exact h.1, fun j q e => ?_⟩
  by_cases z : i = j
  · subst z
    by_cases hl : i < ρ.length
    · rw [List.getElem?_set_self hl] at e
      cases e
      intro a' cls' d' q
      cases q
      exact ⟨List.getElem?_set_self (by rw [h.1]; exact hl), x⟩
    · rw [List.getElem?_eq_none (by rw [List.length_set]; omega)] at e; cases e
  · rw [List.getElem?_set_ne z] at e
    have w := h.2 j q e
    cases q with
    | err c f =>
      intro a' cls' d' y
      cases y
      exact absurd rfl z
    | dat _ => obtain ⟨u, h1, h2⟩ := w; exact ⟨u, (List.getElem?_set_ne z).trans h1, h2⟩
    | obj _ => obtain ⟨u, h1, h2⟩ := w; exact ⟨u, (List.getElem?_set_ne z).trans h1, h2⟩
    | ro _ => obtain ⟨u, h1, h2⟩ := w; exact ⟨u, (List.getElem?_set_ne z).trans h1, h2⟩
    | lam _ _ => obtain ⟨u, h1, h2⟩ := w; exact ⟨u, (List.getElem?_set_ne z).trans h1, h2⟩
theorem Er.free (hc : T.cur = none) (h : Er (T.hold a cls d i) β α H σ ρ) : Er T β α H σ ρ := ⟨h.1, fun j q e => by
  have w := h.2 j q e
  cases q with
  | err c f =>
    intro a' cls' d' y
    rw [hc] at y
    cases y
  | dat _ => exact w
  | obj _ => exact w
  | ro _ => exact w
  | lam _ _ => exact w⟩
/-- a suite's wish -/
theorem post_calm {W : WX} {o : OutS} {D : Ends} (h : PostS T β W o.calm α H D) : PostS T β W0 o α H D := by
  cases o with
  | exc c f ρ S => exact h.elim
  | _ => exact h
theorem post_fade {W : WX} {o : OutS} {D : Ends} (hc : T.cur = none) (h : PostS T β W (o.fade i) α H D) : PostS (T.hold a cls d i) β W0 o α H (Ends.clear D i) := by
  cases o with
  | nx ρ S => exact fun α' H' σ' e r q => h α' H' _ e r.free ((q.free hc).unset i)
  | bk ρ S => exact fun α' H' σ' e r q => h α' H' _ e r.free ((q.free hc).unset i)
  | ct ρ S => exact fun α' H' σ' e r q => h α' H' _ e r.free ((q.free hc).unset i)
  | rt r S => exact fun α' H' v e r q => h α' H' v e r.free q
  | exc c f ρ S => exact h.elim
  | stuck => exact h.elim
end
inductive HdsM (X : Cx) (T : Tb) : List ExceptHandler → List Hd → Prop
  | nil : HdsM X T [] []
  | bare {x : Str} {c : Value} {hits : List Bool} {m : SM} {st : Stmt} {sts : List Stmt} {p p' : Pos} {hds : List ExceptHandler} {l : List Hd} (hc : Names X x c) (ht : ∀ k b, hits[k]? = some b → PySem.W.exmOne X.K (.ref (T.cls k)) c = some b)
      (su : ∀ (a : Addr) (oe : Obj) (cls : Value) (d : Option Addr) (pn : List (Addr × Obj)), Zc cls d oe → (∃ vs, oe.data = .fields vs) → PSs (X.suite a ((a, oe) :: pn)) (st :: sts) (tS T W0 m)) (r : HdsM X T hds l) :
      HdsM X T (.ExceptHandler (some (.Name x p)) none (st :: sts) p' :: hds) (⟨hits, none, m⟩ :: l)
  | named {x n : Str} (i : Nat) {c : Value} {hits : List Bool} {m : SM} {st : Stmt} {sts : List Stmt} {p p' : Pos} {hds : List ExceptHandler} {l : List Hd} (hN : X.N.Nodup) (hi : X.N[i]? = some n) (hl : X.env.kindOf n = some .local) (hc : Names X x c)
      (ht : ∀ k b, hits[k]? = some b → PySem.W.exmOne X.K (.ref (T.cls k)) c = some b)
      (su : ∀ (a : Addr) (oe : Obj) (cls : Value) (d : Option Addr) (pn : List (Addr × Obj)), Zc cls d oe → (∃ vs, oe.data = .fields vs) → PSs (X.suite a ((a, oe) :: pn)) (st :: sts) (tS (T.hold a cls d i) W0 m)) (r : HdsM X T hds l) :
      HdsM X T (.ExceptHandler (some (.Name x p)) (some n) (st :: sts) p' :: hds) (⟨hits, some i, m⟩ :: l)
section
variable {X : Cx} {T : Tb} {Wo : WX}
theorem hds_of (hcu : T.cur = none) {hds : List ExceptHandler} {ms : List Hd} (h : HdsM X T hds ms) : ∃ l, Hds X hds l ∧ ∀ (β : List Addr) (α : List (Option Addr)) (S : Sto) (ρ : Rho) (σ : L2.St) (H : Hp) (D : Ends) (c : Nat) (f : Option PyData) (cls : Value) (d : Option Addr),
    Rl T β α S H → Er T β α H σ ρ → ExcR T β α H c f cls d → PostS T β Wo (hRun ms c f ρ S) α H D → wHd X.K Wo D l cls d σ H := by
  induction h with
  | nil => exact ⟨[], .nil, fun β α S ρ σ H D c f cls d r e x p => p α H σ cls d Ext.refl r e x⟩
  | bare hc ht su r ih =>
    rename_i x c hits m st sts p p' hds l
    obtain ⟨l', h1, h2⟩ := ih
    refine ⟨(c, none, fun _ _ _ => tS T W0 m) :: l', .bare hc su h1, fun β α S ρ σ H D k f cls d r e x p => ?_⟩
    cases q : hits[k]? with
    | none =>
      unfold hRun at p
      rw [q] at p
      exact p.elim
    | some b =>
      refine ⟨b, by rw [x.1]; exact ht k b q, fun hb a na => ?_, fun hb => ?_⟩
      · subst hb
        unfold hRun at p
        rw [q] at p
        exact ⟨β, α, S, ρ, r, e, post_calm p⟩
      · subst hb
        unfold hRun at p
        rw [q] at p
        exact h2 β α S ρ σ H D k f cls d r e x p
  | named i hN hi hl hc ht su r ih =>
    rename_i x n c hits m st sts p p' hds l
    obtain ⟨l', h1, h2⟩ := ih
    refine ⟨(c, some i, fun a cls d => tS (T.hold a cls d i) W0 m) :: l', .named hN hi hl hc su h1, fun β α S ρ σ H D k f cls d r e x p => ?_⟩
    cases q : hits[k]? with
    | none =>
      unfold hRun at p
      rw [q] at p
      exact p.elim
    | some b =>
      refine ⟨b, by rw [x.1]; exact ht k b q, fun hb a na => ?_, fun hb => ?_⟩
      · subst hb
        unfold hRun at p
        rw [q] at p
        exact ⟨β, α, S, _, r.hold, e.hold x, post_fade hcu p⟩
      · subst hb
        unfold hRun at p
        rw [q] at p
        exact h2 β α S ρ σ H D k f cls d r e x p
theorem ts_try {body : List Stmt} {h₀ : ExceptHandler} {hds : List ExceptHandler} {pos : Pos} {b : SM} {ms : List Hd} (hcu : T.cur = none) (hs : X.stack = X.env :: X.outer) (hf : X.env.frame = some X.env.locals) (tk : Takes X Wo)
    (hb : ∀ (W : WX) (pn : List (Addr × Obj)) (xe : Value → Shared → Prop), Takes (X.tr pn xe) W → PassesOwn (model X.prog X.w) X.A X.env xe → PSs (X.tr pn xe) body (tS T W b)) (hh : HdsM X T (h₀ :: hds) ms) :
    PS X (.Try body (h₀ :: hds) [] [] pos) (tS T Wo (sTry b ms)) := by
  obtain ⟨l, h1, h2⟩ := hds_of (Wo := Wo) hcu hh
  refine ps_le (ps_clauses hs hf tk hb h1) fun D σ H ⟨β, α, S, ρ, hR, hE, h⟩ => ⟨β, α, S, ρ, hR, hE, ?_⟩
  unfold sTry at h
  cases q : b ρ S with
  | exc c f ρ1 S1 =>
    rw [q] at h
    exact fun α' H' σ' cls d x r e y => h2 β α' S1 ρ1 σ' H' D c f cls d r e y (PostS.on x h)
  | nx ρ1 S1 => rw [q] at h; exact h
  | rt r S1 => rw [q] at h; exact h
  | bk ρ1 S1 => rw [q] at h; exact h
  | ct ρ1 S1 => rw [q] at h; exact h
  | stuck => rw [q] at h; exact h.elim
end

/-! ### the field of what a suite holds -/
def eFld (ok : List Nat) (i : Nat) : EM := fun ρ S => match ρ[i]? with
  | some (some (.err c (some z))) => if ok.contains c = true then .ok (.dat z) S else .stuck
  | _ => .stuck
/-- what is read of the class at C -/
structure FldC (K : PySem.W.Frag) (C : Addr) (n : Str) : Prop where
  ga : PySem.W.findIn K (.ref C) "__getattribute__" = some (some (.builtin "BaseException.__getattribute__"))
  gg : PySem.W.findIn K (.ref C) "__getattr__" = some none
  exC : PySem.W.subIn K (.ref C) (.type "BaseException") = some true
  hdC : PySem.W.hasDictIn K C = true
  no : PySem.W.findIn K (.ref C) n = some none
theorem ErrTxt.fld {K : PySem.W.Frag} {P : Program} {mg : Str → Option Value} {C B fI : Addr} {Fd : Str} (E : ErrTxt K P mg C B fI Fd) : FldC K C Fd := ⟨E.ga, E.gg, E.exC, E.hdC, E.noN⟩
theorem tr_fld (ok : List Nat) (i : Nat) {X : Cx} {T : Tb} {W : WX} {a : Addr} {oe : Obj} {cls : Value} {d : Option Addr} {pn : List (Addr × Obj)} {x n : Str} {p pos : Pos} (hz : Zc cls d oe) (hf : ∃ vs, oe.data = .fields vs) (ht : ∀ k ∈ ok, FldC X.K (T.cls k) n ∧ T.fld k = n)
    (hN : X.N[i]? = some x := by rfl) (hv : Vis X.env.scope x := by first | exact Or.inl rfl | exact Or.inr (Or.inl rfl) | exact Or.inr (Or.inr rfl)) (hd : (x == ("__debug__" : Str)) = false := by decide) (hcd : (x == ("__classdict__" : Str)) = false := by decide)
    (hb : attributeBase (.Name x p) n X.env (eval (.Name x p) X.env) = eval (.Name x p) X.env := by rfl) : PE (X.suite a ((a, oe) :: pn)) (.Attribute (.Name x p) n pos) (tE (T.hold a cls d i) W (eFld ok i)) := by
  refine ⟨fun pins s σ H Q I h => ?_⟩
  obtain ⟨β, α, S, ρ, hR, hE, h⟩ := h
  unfold eFld at h
  split at h
  · rename_i c z q
    split at h
    · rename_i hc
      obtain ⟨F, hn⟩ := ht c (by simpa using hc)
      obtain ⟨e1, e2, e3⟩ := hE.2 i _ q a cls d rfl
      obtain ⟨dd, v, e4, e5, e6⟩ := e3 z rfl
      have e5' : hid (blk β α) H dd = some (.xd [(n, v)]) := by rw [← hn]; exact e5
      refine (pe_xf (te := tVar i) (C := T.cls c) ⟨F.ga, F.gg, F.exC, F.hdC⟩ F.no hz hf (pv i hN hv hd hcd) hb).run pins s σ H Q I ?_
      exact ⟨.ref a, e1, rfl, e2, dd, _, v, e4, (hid_some.mp e5').2.1, by simp [List.lookup], old_ok hR h e6⟩
    · exact h.elim
  · exact h.elim
end Pev
/-! Pev, fourteenth part: enumerate of a list or a tuple. -/
namespace PySem
open Sem (wp)
set_option maxHeartbeats 1000000 in
theorem pev_enum_new {v : Value} {o : Obj} {H : Heap → Prop} (B : Begins v o H) :
    Meets (Builtin.«enumerate.__new__» ⟨[.type "enumerate", v], []⟩) (fun _ R s => H s.heap ∧
      R (.ok (.ret (.ref (s.heap.push o).objs.size))) { s with heap := (s.heap.push o).push { cls := .type "enumerate", data := .fields #[.none, .bool false, .ref s.heap.objs.size, rawInt 0, .none, .none] } }) :=
  .of_wp fun prog w A R s h => by
    obtain ⟨hp, g, d, tk, os⟩ := s; obtain ⟨h1, h⟩ := h
    have hsub := sub_enumerate
    have go : ∀ {A' : Around} {E : Value → Shared → Prop} {Q : Value → Shared → Prop}, Q (.ref hp.objs.size) ⟨hp.push o, g, d, tk, os⟩ → wpAny (model prog w) A' (pyIter v) Q E ⟨hp, g, d, tk, os⟩ := fun q => B.iter prog w _ _ ⟨hp, g, d, tk, os⟩ _ h1 q
    wp_walk using go
    refine wpAny_stack_any fun st => wpAny_pure ?_
    split
    · rename_i c _ _ _ _ _
      cases (c == Value.type "enumerate") <;> (wp_walk using go; exact ⟨_, rfl, h⟩)
    · wp_walk using go
      exact ⟨_, rfl, h⟩
theorem pev_enum_call {prog : Program} {w : World} {A : Around} {E : Value → Shared → Prop} {s : Shared} {v : Value} {o : Obj} {H : Heap → Prop} {Q : Value → Shared → Prop} (B : Begins v o H) (h1 : H s.heap)
    (h : ∀ h', IsEnum h' (s.heap.objs.size + 1) s.heap.objs.size 0 .none → h'.get? s.heap.objs.size = some o → (∀ b o, s.heap.get? b = some o → h'.get? b = some o) → Q (.ref (s.heap.objs.size + 1)) { s with heap := h' }) :
    wpAny (model prog w) A (call (.type "enumerate") [v]) Q E s := by
  refine callType_new F.called_enumerate (by decide) (F.typeCall_enumerate_1 _) (F.newCall_enumerate_1 _) (fun obj => F.args_object_init_2 obj _) F.entry_enumerate_new (pev_enum_new B) ⟨h1, ?_⟩
  have hz : (s.heap.push o).objs.size = s.heap.objs.size + 1 := Heap.size_push ..
  show _ ∧ _
  rw [hz]
  have he := Heap.get?_push_size (s.heap.push o) (o := { cls := .type "enumerate", data := .fields #[.none, .bool false, .ref s.heap.objs.size, rawInt 0, .none, .none] }) rfl
  rw [hz] at he
  exact ⟨⟨_, he, rfl⟩, h _ he (Heap.get?_push_of_some _ (Heap.get?_push_size _ B.free)) fun b o x => Heap.get?_push_of_some _ (Heap.get?_push_of_some _ x)⟩
end PySem
namespace Pev
open PySem PySem.Spec PyProof.Rows L2

/-- the items of the tuple at a, in new pairs -/
def ItP (K : PySem.W.Frag) (a : Addr) : It :=
  ⟨fun i H => ∃ (xs : List V) (x : V), SqT K H a xs ∧ xs[i]? = some x, fun i H v H' => ∃ T x, v = .ref T ∧ H T = none ∧ H' = upd H T (.tup [.int (i : Nat), x]) ∧ ∀ xs, SqT K H a xs → xs[i]? = some x, fun i H => ∃ xs : List V, SqT K H a xs ∧ xs.length = i⟩
theorem turn_pairs {P : Program} {w : World} {K : PySem.W.Frag} {elts : List Expr} {kk : Nat} {tpos : Pos} (a e it : Addr) :
    Turn P w K (.Tuple elts kk tpos) (ItP K a) [e, it] e (fun i h => (∃ old, IsEnum h e it ((i : Nat) : Int) old) ∧ h.IsTupleIter it a i ∧ e ≠ it) where
  mem := by simp
  obj := fun i h st b hb => by
    obtain ⟨⟨old, he⟩, ⟨o, ho, hc, hd⟩, _⟩ := st
    rcases (by simpa using hb : b = e ∨ b = it) with z | z
    · rw [z]; exact ⟨_, he, fun v q => nomatch q⟩
    · rw [z]; exact ⟨o, ho, fun v q => by rw [hd] at q; cases q⟩
  keep := fun i h h' st k => let ⟨⟨old, he⟩, hi, hne⟩ := st; ⟨⟨old, k e (by simp) _ he⟩, hi.at fun o q => k it (by simp) o q, hne⟩
  item := by
    intro X hP hw hK hc i pins s σ H E I hf st hg
    subst hP hw hK
    obtain ⟨⟨old, he⟩, hit, hne⟩ := st
    obtain ⟨xs, x, hq, hx⟩ := hg
    obtain ⟨its, rv, p, hz⟩ := I.tuple hq
    obtain ⟨u, hu, ru⟩ := rv.get hx
    have hel : e < s.heap.objs.size := Heap.lt_size he
    have hil : it < s.heap.objs.size := by obtain ⟨_, q, _⟩ := hit; exact Heap.lt_size q
    have hai : a ≠ it := fun z => by
      obtain ⟨o1, q1, c1, _⟩ := hit
      obtain ⟨o2, q2, c2, _⟩ := p
      rw [z, q1] at q2
      cases q2
      exact absurd (c1.symm.trans c2) (by decide)
    have lt : i < its.toArray.size := by
      have := (List.getElem?_eq_some_iff.mp hu).1
      simpa using this
    have hea : e ≠ a := fun z => by
      obtain ⟨o2, q2, c2, _⟩ := p
      rw [← z, he] at q2
      cases q2
      exact absurd (show Value.type "enumerate" = Value.type "tuple" from c2) (by decide)
    refine wpAny_pyNext_enum_itemC (Draws.tuple (A := X.A.in1) (by exact I.ok.hd hc) it a hai its.toArray) he ⟨hit, p⟩ lt hne (by simp [hne, hea]) fun y h' tk hP ho hst hT hsz hk => ?_
    have ey : y = u := by
      have h1 : its.toArray[i]? = some u := by simpa using hu
      rw [h1] at hP
      exact (Option.some.inj hP).symm
    subst ey
    refine ⟨_, rfl, wpAny_letOwnedTupleGo_enum (s := { s with heap := h', toks := tk + 1 }) ho fun h'' he' sb => ?_⟩
    have hT2 : h''.get? s.heap.objs.size = some { cls := .type "tuple", data := .seq #[.int i tk, y] } := (sb.2 _ (Nat.ne_of_gt hel)).trans hT
    have new : ObjOk X.prog X.w (upd H s.heap.objs.size (.tup [.int (i : Nat), x])) h'' s.heap.objs.size (.tup [.int (i : Nat), x]) :=
      ⟨by show 2 ≤ sizeLine; decide, [.int i tk, y], .cons ⟨_, rfl⟩ (.cons ru .nil), ⟨_, hT2, rfl, _, rfl⟩⟩
    have I1 : Inv X pins σ (upd H s.heap.objs.size (.tup [.int (i : Nat), x])) { s with heap := h'', toks := tk + 1 } :=
      I.turnedNew (ch := [e, it]) (fun b ob hb q => (sb.2 b (fun z => hb (by simp [z]))).trans (hk b ob (fun z => hb (by simp [z])) (fun z => hb (by simp [z])) q)) hf (Nat.le_refl _) new
    refine ⟨.ref s.heap.objs.size, _, I1, rfl, ⟨_, x, rfl, I.hok.fresh (Nat.le_refl _), rfl, fun ys hy => by rw [I.tuple_inj hy hq]; exact hx⟩, ⟨⟨y, ?_⟩, hst.1.at fun o q => (sb.2 it (Ne.symm hne)).trans q, hne⟩, fun b hb => ?_⟩
    · have e1 : ((i + 1 : Nat) : Int) = (i : Int) + 1 := by omega
      rw [e1]; exact he'
    · have lb : b < s.heap.objs.size := by
        rcases (by simpa using hb : b = e ∨ b = it) with z | z
        · rw [z]; exact hel
        · rw [z]; exact hil
      rw [upd_ne (Nat.ne_of_lt lb)]
      exact (hf b hb).1
  done := by
    intro X hP hw hK hc i pins s σ H E I hf st hg
    subst hP hw hK
    obtain ⟨⟨old, he⟩, hit, hne⟩ := st
    obtain ⟨xs, hq, hx⟩ := hg
    obtain ⟨its, rv, p, hz⟩ := I.tuple hq
    obtain ⟨f0, f1, f2, f3, f4, f5⟩ := hf it (by simp)
    have hl := rv.length
    have hai : a ≠ it := fun z => by
      obtain ⟨o1, q1, c1, _⟩ := hit
      obtain ⟨o2, q2, c2, _⟩ := p
      rw [z, q1] at q2
      cases q2
      exact absurd (c1.symm.trans c2) (by decide)
    have en : its.toArray.size = i := by simp; omega
    exact wpAny_pyNext_enum_endD (Draws.tuple (A := X.A.in1) (by exact I.ok.hd hc) it a hai its.toArray) he (by rw [en]; exact ⟨hit, p⟩) fun h' eb => ⟨rfl, I.turned (t' := s.toks) (fun b o hb q => eb b o hb q) f0 f1 f3 f4 f5⟩
  self := fun A i s Q E st h => let ⟨⟨_, he⟩, _⟩ := st; wpAny_pyIter_enum he h
/-- the walk: a pair of the turn and what f gives -/
def iPairs (K : PySem.W.Frag) (ta : TA) : TI := fun σ H R => ta σ H fun vs H1 => ∃ a xs, vs = [.ref a] ∧ SqT K H1 a xs ∧ R (ItP K a) H1
theorem pi_pairs {X : Cx} {e : Expr} {ta : TA} {p pos tpos : Pos} {elts : List Expr} {kk : Nat} (hg : Gl X "enumerate") (hm : X.mg "enumerate" = none) (ha : PA X [e] ta) (hs : starEach [e] X.env = [(false, eval e X.env)] := by rfl) :
    PI X (.Tuple elts kk tpos) (.Call (.Name "enumerate" p) [e] [] pos) (iPairs X.K ta) := by
  refine ⟨fun pins s σ H R I h => ?_⟩
  refine Call_ (ld_blt I hg hm boot_enumerate (PyProof.Rows.callWith_type1 (thn (ha.run pos pins s σ H _ I h) fun us s1 hh => ?_) hs rfl))
  obtain ⟨vs, H1, I1, r1, a, xs, ex, hq, q⟩ := hh
  subst ex
  cases r1 with
  | cons r rr =>
    cases rr
    cases r
    obtain ⟨its, rv, p', hz⟩ := I1.tuple hq
    refine pev_enum_call (begins_tuple a its.toArray) p' fun h' he hit hk => wpAny_pyIter_enum he ?_
    have I2 : Inv X pins σ H1 { s1 with heap := h' } := I1.kept (t' := s1.toks) hk
    refine ⟨s1.heap.objs.size + 1, [s1.heap.objs.size + 1, s1.heap.objs.size], _, _, H1, rfl, I2, turn_pairs a (s1.heap.objs.size + 1) s1.heap.objs.size, ⟨⟨.none, he⟩, ⟨_, hit, rfl, rfl⟩, Nat.succ_ne_self _⟩, fun b hb => ?_, q⟩
    have hle : s1.heap.objs.size ≤ b := by
      rcases (by simpa using hb : b = s1.heap.objs.size + 1 ∨ b = s1.heap.objs.size) with z | z <;> rw [z]
      · exact Nat.le_succ _
      · exact Nat.le_refl _
    exact I1.fpOk hle (I1.hok.fresh hle)
/-- one of them, in a new pair -/
def YNew (f : Nat → Hp → V → Prop) : Nat → Hp → V → Hp → Prop := fun i H v H' => ∃ T x, v = .ref T ∧ H T = none ∧ H' = upd H T (.tup [.int (i : Nat), x]) ∧ f i H x
theorem walk_pairsT {K : PySem.W.Frag} {a : Addr} {xs : List V} : Walk (ItP K a) xs.length (fun H => SqT K H a xs) (YNew fun i _ x => xs[i]? = some x) :=
  ⟨fun i _ hi q => ⟨xs, xs[i], q, by simp [hi]⟩, fun _ q => ⟨xs, q, rfl⟩, fun i H v H' _ q ⟨T, x, h1, h2, h3, h4⟩ => ⟨T, x, h1, h2, h3, h4 xs q⟩⟩
theorem walk_pairsL {K : PySem.W.Frag} {a : Addr} {n : Nat} : Walk (Ite K a) n (fun H => ∃ vs, SqL K H a vs ∧ vs.length = n) (YNew fun i H x => ∀ vs, SqL K H a vs → vs[i]? = some x) :=
  ⟨fun i _ hi ⟨vs, q, e⟩ => ⟨vs, vs[i]'(by omega), q, by simp [show i < vs.length by omega]⟩, fun _ ⟨vs, q, e⟩ => ⟨vs, q, Nat.le_of_eq e⟩, fun i H v H' _ _ ⟨T, x, h1, h2, h3, h4⟩ => ⟨T, x, h1, h2, h3, h4⟩⟩
def pairsF (i : Nat) : List PyData → List PyData
  | [] => []
  | d :: ds => .tuple [.int (i : Nat), d] :: pairsF (i + 1) ds
theorem pairsF_get : ∀ (ds : List PyData) (k i : Nat) (d : PyData), ds[i]? = some d → (pairsF k ds)[i]? = some (.tuple [.int ((k + i : Nat)), d])
  | [], _, _, _, h => by simp at h
  | d :: ds, k, 0, e, h => by simp at h; subst h; rfl
  | d :: ds, k, i + 1, e, h => by
    have h' := pairsF_get ds (k + 1) i e (by simpa using h)
    unfold pairsF
    rw [List.getElem?_cons_succ, h', Nat.add_assoc, Nat.add_comm 1 i]
theorem pairsF_len : ∀ (ds : List PyData) (k : Nat), (pairsF k ds).length = ds.length
  | [], _ => rfl
  | d :: ds, k => by unfold pairsF; rw [List.length_cons, List.length_cons, pairsF_len]
/-- enumerate(x): all of x's items are data -/
def gEnum (xs : List R) (S : Sto) : Out Items := match xs with
  | [.dat (.tuple ds)] => .ok ⟨(pairsF 0 ds).map .dat, []⟩ S
  | [.dat (.list ds)] => .ok ⟨(pairsF 0 ds).map .dat, []⟩ S
  | [.ro ds] => .ok ⟨(pairsF 0 ds).map .dat, []⟩ S
  | [.obj k] => match S[k]? with
    | some (.lst rs) => match datAll rs with
      | some ds => .ok ⟨(pairsF 0 ds).map .dat, [(k, rs)]⟩ S
      | none => .stuck
    | _ => .stuck
  | _ => .stuck
section
variable {K : Tb} {β : List Addr} {α : List (Option Addr)} {H : Hp} {S : Sto}
/-- a new pair of data -/
theorem new_pair {β' : List Addr} {α' : List (Option Addr)} {H' H'' : Hp} {S' : Sto} {i : Nat} {v : V} {T0 : Addr} {x : V} {ds : List PyData} (R' : Rl K β' α' S' H') (hv : v = .ref T0) (hT : H' T0 = none) (hH : H'' = upd H' T0 (.tup [.int (i : Nat), x]))
    (hx : ∀ d, ds[i]? = some d → Dq K (hid (blk β' α') H') x d) : Same H' H'' ∧ ∀ r, ((pairsF 0 ds).map R.dat)[i]? = some r → Vr K β' α' H'' r v := by
  subst hH hv
  refine ⟨same_new hT, fun r hr => ?_⟩
  rw [List.getElem?_map] at hr
  cases e : ds[i]? with
  | none =>
    rw [List.getElem?_eq_none (by rw [pairsF_len]; exact List.getElem?_eq_none_iff.mp e)] at hr
    cases hr
  | some d =>
    rw [pairsF_get ds 0 i d e, Nat.zero_add] at hr
    cases hr
    refine .tup (.inl (.inl (R'.hidNew hT))) (.cons (.int _) (.cons (Dq.same (Ext.same (α := α') (same_new hT)).hid (hx d e)) .nil))
theorem walkR_enumT {a : Addr} {vs : List V} {ds : List PyData} (h : SqT K (hid (blk β α) H) a vs) (hs : DqAll K (hid (blk β α) H) vs ds) : WalkR K β α H ⟨(pairsF 0 ds).map .dat, []⟩ (ItP K a) := by
  refine ⟨_, _, walk_pairsT (xs := vs) |> (by rw [List.length_map, pairsF_len, ← DqAll.length hs]; exact ·), fun β' α' S' H' l R' _ => ?_⟩
  refine ⟨sqT_same hid_le (sqT_same l.hid h), fun i x H'' yy => ?_⟩
  obtain ⟨T0, y, e1, e2, e3, e4⟩ := yy
  refine new_pair R' e1 e2 e3 fun d hd => ?_
  obtain ⟨v, z1, z2⟩ := hs.get hd
  rw [e4] at z1
  cases z1
  exact Dq.same l.hid z2
theorem walkR_enumL {a : Addr} {vs : List V} {ds : List PyData} (h : SqL K (hid (blk β α) H) a vs) (hs : DqAll K (hid (blk β α) H) vs ds) : WalkR K β α H ⟨(pairsF 0 ds).map .dat, []⟩ (Ite K a) := by
  refine ⟨_, _, walk_pairsL, fun β' α' S' H' l R' _ => ?_⟩
  refine ⟨⟨vs, hid_le.seq (l.hid.seq h), by rw [List.length_map, pairsF_len]; exact DqAll.length hs⟩, fun i x H'' yy => ?_⟩
  obtain ⟨T0, y, e1, e2, e3, e4⟩ := yy
  refine new_pair R' e1 e2 e3 fun d hd => ?_
  obtain ⟨v, z1, z2⟩ := hs.get hd
  rw [e4 vs (hid_le.seq (l.hid.seq h))] at z1
  cases z1
  exact Dq.same l.hid z2
theorem walkR_enumO (Rr : Rl K β α S H) {k : Nat} {rs : List R} {ds : List PyData} {a : Addr} (q : S[k]? = some (.lst rs)) (hd : datAll rs = some ds) (ha : α[k]? = some (some a)) : WalkR K β α H ⟨(pairsF 0 ds).map .dat, [(k, rs)]⟩ (Ite K a) := by
  refine ⟨_, _, walk_pairsL, fun β' α' S' H' l R' st => ?_⟩
  obtain ⟨b, vs, e1, e2, e3⟩ := R'.cell k rs (st (k, rs) (by simp))
  have e4 := l.old k b (List.getElem?_eq_some_iff.mp ha).1 e1
  rw [ha] at e4
  cases e4
  have er := datAll_eq hd
  subst er
  have hs : DqAll K (hid (blk β' α') H') vs ds := Vrs.dq e3
  refine ⟨⟨vs, SqL.of e2, by rw [List.length_map, pairsF_len]; exact DqAll.length hs⟩, fun i x H'' ⟨T0, y, e1, e2', e3', e4⟩ => ?_⟩
  refine new_pair R' e1 e2' e3' fun d hd => ?_
  obtain ⟨v, z1, z2⟩ := hs.get hd
  rw [e4 vs (SqL.of e2)] at z1
  cases z1
  exact z2
end
section
variable {X : Cx} {T : Tb} {W : WX}
theorem ti_enum (hK : X.K = T.K) {e : Expr} {ms : EMs} {p pos tpos : Pos} {elts : List Expr} {kk : Nat} (hg : Gl X "enumerate") (hm : X.mg "enumerate" = none) (ha : PA X [e] (tA T W ms)) (hs : starEach [e] X.env = [(false, eval e X.env)] := by rfl) :
    PI X (.Tuple elts kk tpos) (.Call (.Name "enumerate" p) [e] [] pos) (tI T W (iArgs gEnum ms)) := by
  refine pi_le (pi_or (pi_enum hg hm ha hs) (pi_pairs hg hm ha hs)) fun σ H Rk h => ?_
  rw [hK]
  have keyT : ∀ (σ : L2.St) (β : List Addr) (α : List (Option Addr)) (S : Sto) (H : Hp) (ds : List PyData) (vs : List V), Rl T β α S H → Vrs T β α H [.dat (.tuple ds)] vs → PostG T β W (WalkR T β) σ (gEnum [.dat (.tuple ds)] S) α H Rk →
      ∃ a us, vs = [.ref a] ∧ SqT T.K H a us ∧ Rk (ItP T.K a) H := by
    intro σ β α S H ds vs Rr hx h
    obtain ⟨v, rfl, hv⟩ := vrs1 hx
    cases hv with
    | @tup a us _ z1 z2 => exact ⟨a, us, rfl, sqT_same hid_le z1, h α H _ Ext.refl Rr (walkR_enumT z1 z2)⟩
  have keyL : ∀ (σ : L2.St) (β : List Addr) (α : List (Option Addr)) (S : Sto) (H : Hp) (xs : List R) (vs : List V), (∀ ds, xs ≠ [.dat (.tuple ds)]) → Rl T β α S H → Vrs T β α H xs vs → PostG T β W (WalkR T β) σ (gEnum xs S) α H Rk →
      ∃ a us, vs = [.ref a] ∧ SqL T.K H a us ∧ Rk (Ite T.K a) H := by
    intro σ β α S H xs vs nt Rr hx h
    unfold gEnum at h
    split at h
    · exact absurd rfl (nt _)
    · obtain ⟨v, rfl, hv⟩ := vrs1 hx
      cases hv with
      | @lst a us _ z1 z2 => exact ⟨a, us, rfl, SqL.of (hid_some.mp z1).2.1, h α H _ Ext.refl Rr (walkR_enumL (SqL.of z1) z2)⟩
    · obtain ⟨v, rfl, a, us, rfl, z1, z2⟩ := vrs1 hx
      exact ⟨a, us, rfl, hid_le.seq z1, h α H _ Ext.refl Rr (walkR_enumL z1 z2)⟩
    · obtain ⟨v, rfl, hv⟩ := vrs1 hx
      split at h
      · rename_i rs qk
        split at h
        · rename_i ds qd
          obtain ⟨a, us, z1, z2, z3⟩ := Rr.cell _ rs qk
          cases hv.2 a z1
          exact ⟨a, us, rfl, SqL.of z2, h α H _ Ext.refl Rr (walkR_enumO Rr qk qd z1)⟩
        · exact h.elim
      · exact h.elim
    · exact h.elim
  obtain ⟨β, α, S, ρ, hR, hE, hp⟩ := h
  have h1 := PostG.bind (rel := Vrs T β) (show PostG T β W (WalkR T β) σ ((ms ρ S).bind gEnum) α H Rk from hp)
  cases q : ms ρ S with
  | stuck => rw [q] at h1; exact h1.elim
  | exc k f S1 => rw [q] at h1; exact .inl ⟨β, α, S, ρ, hR, hE, by rw [q]; exact h1⟩
  | ok x S1 =>
    rw [q] at h1
    by_cases ht : ∃ ds, x = [.dat (.tuple ds)]
    · obtain ⟨ds, rfl⟩ := ht
      refine .inr ⟨β, α, S, ρ, hR, hE, ?_⟩
      rw [q]
      intro α1 H1 v e1 R1 V1
      obtain ⟨α1', S1', x', ex, e1', R1', V1', h2⟩ := h1 α1 H1 v e1 R1 V1
      cases ex
      exact keyT σ β α1' S1 H1 ds v R1' V1' h2
    · refine .inl ⟨β, α, S, ρ, hR, hE, ?_⟩
      rw [q]
      intro α1 H1 v e1 R1 V1
      obtain ⟨α1', S1', x', ex, e1', R1', V1', h2⟩ := h1 α1 H1 v e1 R1 V1
      cases ex
      exact keyL σ β α1' S1 H1 x v (fun ds z => ht ⟨ds, z⟩) R1' V1' h2
end
end Pev
/-! Pev, fifteenth part: comprehensions with two clauses. -/
namespace Pev
open PySem PySem.Spec PyProof.Rows L2

def fin (own : Bool) (rs : List R) (S : Sto) : Out R := if rs.length ≤ sizeLine then newL own rs S else .stuck
section
variable {keep : List (Nat × List R)} {g g1 : GM} {t t1 : TM} {im1 : IM} {elt : EM} {vs1 : List Nat} {ρ : Rho}
end
section
variable {T : Tb} {W : WX}
/-- the outer loop's state -/
def I2 (T : Tb) (W : WX) (β : List Addr) (σ : L2.St) (D : Addr) (α1 : List (Option Addr)) (H1 : Hp) (own : Bool) (vs : List Nat) (ρ : Rho) (Q : VK) (rest : Sto → Out (List R)) (H : Hp) : Prop :=
  ∃ α2 S2 ars avs, Ext α1 H1 α2 H ∧ Lt β α1 H1 (D :: β) α2 H ∧ Rl T (D :: β) α2 S2 H ∧ H D = some (.lst avs) ∧ Vrs T (D :: β) α2 H ars avs ∧ Er T (D :: β) α2 H (wipe σ vs) (wipeR ρ vs) ∧
    PostG T β W (Vr T β) σ ((rest S2).bind fun rs S3 => fin own (ars ++ rs) S3) α1 H1 Q
/-- the inner loop's state -/
def I1 (T : Tb) (W : WX) (β : List Addr) (σ : L2.St) (D : Addr) (α1 : List (Option Addr)) (H1 : Hp) (own : Bool) (vs : List Nat) (ρ : Rho) (Q : VK) (rest : Sto → Out (List R)) (σ2 : L2.St) (vs1 : List Nat) (ρ1 : Rho) (α5 : List (Option Addr)) (H5 : Hp) (inner : Sto → Out (List R)) (H : Hp) : Prop :=
  ∃ α2 S2 ars avs, Ext α1 H1 α2 H ∧ Lt β α1 H1 (D :: β) α2 H ∧ Rl T (D :: β) α2 S2 H ∧ H D = some (.lst avs) ∧ Vrs T (D :: β) α2 H ars avs ∧ Er T (D :: β) α2 H (wipe σ vs) (wipeR ρ vs) ∧
    Lt (D :: β) α5 H5 (D :: β) α2 H ∧ Er T (D :: β) α2 H (wipe σ2 vs1) (wipeR ρ1 vs1) ∧
    PostG T β W (Vr T β) σ ((inner S2).bind fun ys S4 => (rest S4).bind fun zs S5 => fin own (ars ++ (ys ++ zs)) S5) α1 H1 Q
section
variable {X : Cx} {T : Tb} {W : WX} {elt tg iter tg1 iter1 : Expr} {ifs ifs1 : List Expr} {scope : Scope} {pos spos : Pos} {im im1 : IM} {g g1 : GM} {t t1 : TM} {m : EM}
end
end
end Pev
/-! Pev, sixteenth part: what the printed derivations use. -/
namespace Pev
open PySem PySem.Spec PyProof.Rows L2

theorem hu1 {k : Nat} {A : Around} (h : RoomG k A) : A.units + 64 < cLine := by have := h.un; omega
theorem hu65 {k : Nat} {A : Around} (h : RoomG k A) : A.units + 65 < cLine := by have := h.un; omega
def blkB (N : List Str) (sc scope : Scope) (own : List (Str × Nat)) : Bool :=
  decide (scope.kind = .function) && (scope.names.all (fun y => decide (scope.names.lookup y.1 = some y.2)) && (own.all (fun p => decide (N[p.2]? = some p.1)) &&
    (scope.names.all (fun y => decide (y.2 ≠ .free) || (decide (sc.names.lookup y.1 = some .cell) || decide (sc.names.lookup y.1 = some .free))) &&
      scope.names.all (fun y => decide (y.2 ≠ .local ∧ y.2 ≠ .cell) || (decide (y.1 ∈ own.map (·.1)) || decide (y.1 ∉ N))))))
theorem blk_mk {N : List Str} {sc scope : Scope} {own : List (Str × Nat)} (h : blkB N sc scope own = true) : BlkOk N sc scope own := by
  unfold blkB at h
  obtain ⟨h1, h⟩ := Bool.and_eq_true_iff.mp h
  obtain ⟨h2, h⟩ := Bool.and_eq_true_iff.mp h
  obtain ⟨h3, h⟩ := Bool.and_eq_true_iff.mp h
  obtain ⟨h4, h5⟩ := Bool.and_eq_true_iff.mp h
  refine ⟨of_decide_eq_true h1, fun y hy => of_decide_eq_true (List.all_eq_true.mp h2 y hy), fun p hp => of_decide_eq_true (List.all_eq_true.mp h3 p hp), fun y hy e => ?_, fun y hy e => ?_⟩
  · have q := List.all_eq_true.mp h4 y hy
    rw [Bool.or_eq_true, Bool.or_eq_true] at q
    rcases q with q | q | q
    · exact absurd e (of_decide_eq_true q)
    · exact .inl (of_decide_eq_true q)
    · exact .inr (of_decide_eq_true q)
  · have q := List.all_eq_true.mp h5 y hy
    rw [Bool.or_eq_true, Bool.or_eq_true] at q
    rcases q with q | q | q
    · obtain ⟨q1, q2⟩ := of_decide_eq_true q
      rcases e with e | e
      · exact absurd e q1
      · exact absurd e q2
    · exact .inl (of_decide_eq_true q)
    · exact .inr (of_decide_eq_true q)
/-- an own error's class against a clause's class -/
theorem exm_sub {K : PySem.W.Frag} {C D : Addr} {b : Bool} (h1 : PySem.W.subIn K (.ref D) (.type "BaseException") = some true) (h2 : PySem.W.isClsIn K D = true) (h3 : PySem.W.typeIn K (.ref D) = some (.type "type")) (h4 : PySem.W.subIn K (.ref C) (.ref D) = some b) :
    PySem.W.exmOne K (.ref C) (.ref D) = some b := by
  have e2 : ((PySem.W.clsIn K D).isSome && PySem.W.typeIn K (.ref D) == some (.type "type")) = true := by
    have q : (PySem.W.clsIn K D).isSome = true := h2
    rw [q, h3] <;> rfl
  unfold PySem.W.exmOne
  rw [h1]
  simp only [beq_self_eq_true, if_true]
  show (if ((PySem.W.clsIn K D).isSome && PySem.W.typeIn K (.ref D) == some (.type "type")) = true then PySem.W.subIn K (.ref C) (.ref D) else none) = some b
  rw [if_pos e2]
  exact h4

/-! ### the law -/
def spLaw (K : PySem.W.Frag) (tabs : List (Addr × Str) := []) : Sp := fun vs H Q _ => ∃ (a : Addr) (ns : List Int), vs = [.ref a] ∧ SqL K H a (ns.map V.int) ∧ ns.length ≤ 63 ∧ LamX.Tabs tabs H ∧ ∀ H', Q (.bl true) H'
theorem sqL_hid {K : PySem.W.Frag} {H : Hp} {a : Addr} {xs : List V} (h : SqL K H a xs) : SqL K (hid [] H) a xs := by
  have nb : a ∉ ([] : List Addr) := List.not_mem_nil
  rcases h with (h | ⟨o, h⟩) | h
  · exact .inl (.inl (hid_some.mpr ⟨nb, h, trivial⟩))
  · exact .inl (.inr ⟨o, hid_some.mpr ⟨nb, h, trivial⟩⟩)
  · exact .inr h
theorem ints_dq {K : PySem.W.Frag} {H : Hp} : ∀ ns : List Int, DqAll K H (ns.map V.int) (ns.map PyData.int)
  | [] => .nil
  | n :: ns => .cons (.int n) (ints_dq ns)
theorem law_sp {T : Tb} {m : FM} (h : ∀ ns : List Int, ns.length ≤ 63 → ∃ S, m [.ro (ns.map .int)] [] = .ok (.dat (.bool true)) S) : ∀ vs H Q E, spLaw T.K T.tabs vs H Q E → spF T 1 m vs H Q E := by
  intro vs H Q E ⟨a, ns, e, hS, hl, ht, q⟩
  subst e
  obtain ⟨S, hm⟩ := h ns hl
  refine ⟨rfl, [], [], [], [.ro (ns.map .int)], .nil (fun b hb => by cases hb) ht, .cons ⟨a, _, rfl, by rw [blk_nil]; exact sqL_hid hS, ints_dq ns⟩ .nil, ?_⟩
  rw [hm]
  intro α' H' v _ _ hv
  cases hv
  exact q H'
theorem law_fn {P : Program} {w : World} {T : Tb} {mg : Str → Option Value} {base : Heap} {k : Nat} {f : Addr} {fd : FuncData} {ps : List Str} {m : FM} (F : FnG P w T.K mg base k f fd ps (spF T 1 m)) (h : ∀ ns : List Int, ns.length ≤ 63 → ∃ S, m [.ro (ns.map .int)] [] = .ok (.dat (.bool true)) S) :
    FnG P w T.K mg base k f fd ps (spLaw T.K T.tabs) := F.imp (law_sp h)
end Pev
/-! Pev, seventeenth part: the ends of the printed texts. -/
namespace Pev
open PySem PySem.Spec PyProof.Rows L2

def posAt (l : List Pos) (i : Nat) : Pos := l.getD i ⟨0, 0, 0, 0⟩
/-- an __init__ as bodyE has it -/
structure ErrSt (st : Stmt) (q Fd : Str) : Prop where
  body : ∃ msg l, defBody st = bodyE Fd msg (posAt l) ∧ OneLine msg (posAt l)
  kind : (defScope st).kind = .function
  co : (defScope st).isCoroutine = false
  gen : (defScope st).isGenerator = false
  nocell : ∀ x ∈ (defScope st).names, x.2 ≠ .cell
  slf : (defScope st).names.lookup ("self" : Str) = some .local
  fld : (defScope st).names.lookup Fd = some .local
  sup : (defScope st).names.lookup ("super" : Str) = some .globalImplicit
  cls : (defScope st).names.lookup ("__class__" : Str) = some .free
  hd : ∃ ar, ((defArgs st).posonlyargs ++ (defArgs st).args).head? = some ar ∧ ar.arg = "self"
  bind : ∀ (cl : List (Str × Addr)) (kV doc pm : Value) (an : Option Addr) (cdv ct x v : Value), bindArgs (PySem.W.fnX "__init__" q (defArgs st) (defBody st) (defScope st) cl .none kV doc pm an cdv ct) ⟨[x, v], []⟩ = pure [(("self" : Str), x), (Fd, v)]
  bindK : ∀ (cl : List (Str × Addr)) (kV doc pm : Value) (an : Option Addr) (cdv ct x v : Value), bindArgs (PySem.W.fnX "__init__" q (defArgs st) (defBody st) (defScope st) cl .none kV doc pm an cdv ct) ⟨[x], [(Fd, v)]⟩ = pure [(("self" : Str), x), (Fd, v)]
  ne : (Fd == ("self" : Str)) = false
  nd : (Fd == ("__debug__" : Str)) = false
theorem err_mk {K : PySem.W.Frag} {P : Program} {mg : Str → Option Value} {C B fI cda cc : Addr} {Fd q : Str} {st : Stmt} (S : ErrSt st q Fd)
    {nm q2 : Str} {N : Addr} {bs : List Value} {sn : List Str} {sub : List Value} {ab : Bool} {col : Option Bool} {dd : Option Addr} {k0 k1 k2 k3 k5 : Option Value}
    {oc kV doc pm ct ccl cl : Value} {od an cdd cld : Option Addr} {osl ccs csl : Array (Option Value)} {vs : Array Value} {file : Str} {tf : Tok}
    (xL : K.lookup C = some (excClassObj nm q2 C N bs [.ref B, .type "Exception", .type "BaseException", .type "object"] true sn sub ab col dd k0 k1 k2 k3 k5 "Exception.__new__"))
    (sa : PySem.W.findIn K (.ref C) "__setattr__" = some (some (.builtin "object.__setattr__"))) (ga : PySem.W.findIn K (.ref C) "__getattribute__" = some (some (.builtin "BaseException.__getattribute__"))) (gg : PySem.W.findIn K (.ref C) "__getattr__" = some none)
    (nb : PySem.W.findIn K (.ref C) Fd = some none) (iC : PySem.W.findIn K (.ref C) "__init__" = some (some (.ref fI))) (tI : PySem.W.typeIn K (.ref fI) = some (.type "function"))
    (lI : K.lookup fI = some ⟨oc, od, .func (PySem.W.fnX "__init__" q (defArgs st) (defBody st) (defScope st) [(("__class__" : Str), cc)] .none kV doc pm an (.ref cda) ct), osl⟩) (cI : PySem.W.codeIn K (.ref cda) q = true)
    (lc : K.lookup cda = some ⟨ccl, cdd, .fields vs, ccs⟩) (vf : vs[2]? = some (.str file tf)) (ff : ((P.main.file : Str) == file) = true) (le : K.lookup cc = some ⟨cl, cld, .cell (some (.ref C)), csl⟩)
    (kC : PySem.W.keepIn K (.ref C) = true) (eC : PySem.W.subIn K (.ref C) (.type "BaseException") = some true) (tC : PySem.W.typeIn K (.ref C) = some (.type "type")) (hC : PySem.W.hasDictIn K C = true)
    (sI : PySem.W.ks_superIn K C C "__init__" = some (some (.builtin "Exception.__init__"))) (op : PySem.W.nsIn K cStatics "thirdparty.any" = some none) (su : mg "super" = none) (top : (P.main.scope.names.lookup ("super" : Str)).isSome = false) :
    ErrTxt K P mg C B fI Fd := by
  obtain ⟨msg, l, hb, ho⟩ := S.body
  obtain ⟨ar, h1, h2⟩ := S.hd
  have hb' : FuncBody.stmts (defBody st) = .stmts (bodyE Fd msg (posAt l)) := congrArg _ hb
  constructor
  · exact ⟨_, _, _, _, _, _, _, _, _, _, _, _, _, _, xL⟩
  · exact sa
  · exact ga
  · exact gg
  · exact nb
  · exact iC
  · exact tI
  · exact kC
  · exact eC
  · exact tC
  · exact hC
  · exact su
  · exact op
  · exact top
  · exact S.ne
  · exact S.nd
  · exact sI
  · exact ⟨oc, od, osl, _, msg, posAt l, cda, cc, vs, file, tf, ccl, cl, cdd, cld, ccs, csl, ar, lI, cI, hb', S.kind, S.co, S.gen, S.nocell, S.slf, S.fld, S.sup, S.cls, rfl, rfl, rfl, rfl, h1, h2, lc, vf, ff, le, ho, fun x v => S.bind _ _ _ _ _ _ _ x v, fun x v => S.bindK _ _ _ _ _ _ _ x v⟩
def tbOf (K : PySem.W.Frag) (cs : List Addr) (fs : List Str) : Tb := { K := K, cls := fun k => cs.getD k 0, fld := fun k => fs.getD k "" }
theorem cx_false {P : Program} {w : World} {H : Hp} {s : Shared} {e : Value} {s' : Shared} (h : L2.CX P w [] H s (fun _ _ _ => False) e s') : False := by
  obtain ⟨_, _, _, _, _, _, _, _, _, _, _, _, z⟩ := h
  exact z
end Pev
/-! Pev, eighteenth part: errors without a field, errors made by a keyword. -/
namespace Pev
open PySem PySem.Spec PyProof.Rows PySem.W PySem.Calls PySem.ESX PySem.HandSPX
section
variable {M : Model} {A : Around} {E : Value → Shared → Prop} {h : Heap} {g : Array GenState} {d : Drawn} {t : Nat} {os : OsState}
variable {nm q : Str} {C N : Addr} {bs bm bmB : List Value} {hdct : Bool} {sn : List Str} {sub : List Value} {ab : Bool} {col : Option Bool} {dd : Option Addr} {k0 k1 k2 k3 k5 : Option Value} {B newId initId : String}
end
section
variable {prog : Program} {w : World} {A : Around} {E : Value → Shared → Prop} {R : Result → Shared → Prop} {h : Heap} {g : Array GenState} {d : Drawn} {t : Nat} {os : OsState}
variable {nm q : Str} {C N : Addr} {bs bm bmB : List Value} {hdct : Bool} {sn : List Str} {sub : List Value} {ab : Bool} {col : Option Bool} {dd : Option Addr} {k0 k1 k2 k3 k5 : Option Value} {B newId initId : String}
end

/-! ### an __init__ without a field -/
def bodyE0 (msg : Str) (p : Nat → Pos) : List Stmt :=
  [.Expr (.Call (.Attribute (.Call (.Name "super" (p 0)) [] [] (p 1)) "__init__" (p 2)) [.Constant (.str msg) 0 (p 3)] [] (p 4)) (p 5)]
/-- as ErrTxt, for a class whose __init__ takes self alone -/
structure ErrTxt0 (K : Frag) (P : Program) (mg : Str → Option Value) (C B fI : Addr) : Prop where
  cls : ∃ nm q N bs sn sub ab col dd k0 k1 k2 k3 k5, K.lookup C = some (excClassObj nm q C N bs (.ref B :: exTail) true sn sub ab col dd k0 k1 k2 k3 k5 "Exception.__new__")
  iC : findIn K (.ref C) "__init__" = some (some (.ref fI))
  tC : typeIn K (.ref fI) = some (.type "function")
  kC : keepIn K (.ref C) = true
  exC : subIn K (.ref C) (.type "BaseException") = some true
  tyC : typeIn K (.ref C) = some (.type "type")
  su : mg "super" = none
  op : nsIn K cStatics "thirdparty.any" = some none
  top : (P.main.scope.names.lookup ("super" : Str)).isSome = false
  sI : ks_superIn K C C "__init__" = some (some (.builtin "Exception.__init__"))
  fn : ∃ (oc : Value) (od : Option Addr) (osl : Array (Option Value)) (fd : FuncData) (msg : Str) (p : Nat → Pos) (cda cc : Addr) (vs : Array Value) (file : Str) (tf : Tok) (ccl cl : Value) (cdd cld : Option Addr) (ccs csl : Array (Option Value)) (ar : Arg),
    K.lookup fI = some ⟨oc, od, .func fd, osl⟩ ∧ codeIn K fd.code fd.qualname = true ∧ fd.body = .stmts (bodyE0 msg p) ∧ fd.scope.kind = .function ∧ fd.scope.isCoroutine = false ∧ fd.scope.isGenerator = false ∧
    (∀ x ∈ fd.scope.names, x.2 ≠ .cell) ∧ fd.scope.names.lookup ("self" : Str) = some .local ∧ fd.scope.names.lookup ("super" : Str) = some .globalImplicit ∧ fd.scope.names.lookup ("__class__" : Str) = some .free ∧
    fd.globals = mainGlobals ∧ fd.builtins = builtinsNs ∧ fd.closure = [(("__class__" : Str), cc)] ∧ fd.code = .ref cda ∧ (fd.params.posonlyargs ++ fd.params.args).head? = some ar ∧ ar.arg = "self" ∧
    K.lookup cda = some ⟨ccl, cdd, .fields vs, ccs⟩ ∧ vs[2]? = some (.str file tf) ∧ ((P.main.file : Str) == file) = true ∧ K.lookup cc = some ⟨cl, cld, .cell (some (.ref C)), csl⟩ ∧
    OneLine msg p ∧ (∀ x : Value, bindArgs fd ⟨[x], []⟩ = pure [(("self" : Str), x)])
structure Inited0 (h h' : Heap) (x C : Addr) : Prop where
  keep : ∀ b o, b ≠ x → h.get? b = some o → h'.get? b = some o
  obj : ∃ t1 : Addr, h'.get? x = some { cls := .ref C, data := .fields #[.ref t1, .none, .none, .none, .bool false, .none] }
structure Made0 (h h' : Heap) (e C : Addr) : Prop where
  keep : ∀ b o, h.get? b = some o → h'.get? b = some o
  new : h.objs.size ≤ e
  obj : ∃ oe vs, h'.get? e = some oe ∧ oe.cls = .ref C ∧ oe.dict = none ∧ oe.data = .fields vs ∧ vs[1]? = some .none
section
variable {prog : Program} {w : World} {A : Around} {R : Result → Shared → Prop} {s : Shared} {K : Frag} {mg : Str → Option Value} {C B fI : Addr} {Fd : Str}
end
end Pev
/-! Pev, eighteenth part: reasoning about mirrors. -/
namespace Pev
open PySem L2

def outD : Out R → Option PyData
  | .ok r S => snap S depS r
  | _ => none
def outX : Out R → Option (Nat × Option PyData)
  | .exc c f _ => some (c, f)
  | _ => none
/-- m answers d for these data -/
def Gv (m : FM) (ds : List PyData) (d : PyData) : Prop := outD (m (ds.map .dat) []) = some d
def Tw (m : FM) (ds : List PyData) (c : Nat) (f : PyData) : Prop := outX (m (ds.map .dat) []) = some (c, some f)
theorem pure_gives {m : FM} {ds : List PyData} {d : PyData} (h : Gv m ds d) {rs : List R} {S : Sto} (e : rs.mapM (snap S depS) = some ds) (hf : (allD rs || free d) = true) : pureF m rs S = .ok (.dat d) S := by
  unfold Gv at h
  unfold pureF
  rw [e]
  dsimp only
  cases q : m (ds.map .dat) [] with
  | ok r S' =>
    rw [q] at h
    have h' : snap S' depS r = some d := h
    dsimp only
    rw [h']
    dsimp only
    rw [if_pos hf]
  | exc c f S' => rw [q] at h; cases h
  | stuck => rw [q] at h; cases h
theorem pure_throws {m : FM} {ds : List PyData} {c : Nat} {f : PyData} (h : Tw m ds c f) {rs : List R} {S : Sto} (e : rs.mapM (snap S depS) = some ds) (hf : (allD rs || free f) = true) : pureF m rs S = .exc c (some f) S := by
  unfold Tw at h
  unfold pureF
  rw [e]
  dsimp only
  cases q : m (ds.map .dat) [] with
  | ok r S' => rw [q] at h; cases h
  | exc c' f' S' =>
    rw [q] at h
    have h' : some (c', f') = some (c, some f) := h
    cases h'
    dsimp only
    rw [if_pos (show (allD rs || freeO (some f)) = true from hf)]
  | stuck => rw [q] at h; cases h
theorem snap_dat {S : Sto} {n : Nat} {d : PyData} : snap S n (.dat d) = some d := by unfold snap; rfl
theorem outD_dat {d : PyData} {S : Sto} : outD (.ok (.dat d) S) = some d := snap_dat
/-! ### loops -/
theorem for_rule {keep : List (Nat × List R)} {g : GM} {b : SM} {Q : OutS → Prop} (I : Nat → Rho → Sto → Prop) (rs : List R) {ρ : Rho} {S : Sto} (h0 : I 0 ρ S) (hst : ∀ i ρ S, i ≤ rs.length → I i ρ S → stands S keep = true)
    (step : ∀ i r ρ S, rs[i]? = some r → I i ρ S → ∃ ρ1, g r ρ = some ρ1 ∧ match b ρ1 S with
      | .nx ρ2 S2 => I (i + 1) ρ2 S2
      | .ct ρ2 S2 => I (i + 1) ρ2 S2
      | .bk ρ2 S2 => Q (.nx ρ2 S2)
      | .rt r S2 => Q (.rt r S2)
      | .exc c f ρ2 S2 => Q (.exc c f ρ2 S2)
      | .stuck => Q .stuck) (hd : ∀ ρ S, I rs.length ρ S → Q (.nx ρ S)) : Q (forLoop keep g b rs ρ S) := by
  suffices h : ∀ (qs : List R) (i : Nat) (ρ : Rho) (S : Sto), i + qs.length = rs.length → rs.drop i = qs → I i ρ S → Q (forLoop keep g b qs ρ S) from h rs 0 ρ S (by simp) rfl h0
  intro qs
  induction qs with
  | nil =>
    intro i ρ S e1 e2 hI
    have ei : i = rs.length := by simpa using e1
    unfold forLoop
    rw [if_pos (hst i ρ S (by omega) hI)]
    exact hd ρ S (ei ▸ hI)
  | cons r qs ih =>
    intro i ρ S e1 e2 hI
    have hlt : i < rs.length := by simp at e1; omega
    have hr : rs[i]? = some r := by
      have : (rs.drop i)[0]? = some r := by rw [e2]; rfl
      simpa using this
    have e3 : rs.drop (i + 1) = qs := by
      have : (rs.drop i).drop 1 = qs := by rw [e2]; rfl
      simpa [List.drop_drop, Nat.add_comm] using this
    obtain ⟨ρ1, hg, hb⟩ := step i r ρ S hr hI
    unfold forLoop
    rw [if_pos (hst i ρ S (by omega) hI), hg]
    dsimp only
    have e4 : i + 1 + qs.length = rs.length := by simp at e1; omega
    cases q : b ρ1 S with
    | nx ρ2 S2 => rw [q] at hb; exact ih (i + 1) ρ2 S2 e4 e3 hb
    | ct ρ2 S2 => rw [q] at hb; exact ih (i + 1) ρ2 S2 e4 e3 hb
    | bk ρ2 S2 => rw [q] at hb; exact hb
    | rt r S2 => rw [q] at hb; exact hb
    | exc c f ρ2 S2 => rw [q] at hb; exact hb
    | stuck => rw [q] at hb; exact hb
/-- a loop that goes through -/
theorem for_nx {keep : List (Nat × List R)} {g : GM} {b : SM} (I : Nat → Rho → Sto → Prop) (rs : List R) {ρ : Rho} {S : Sto} (h0 : I 0 ρ S) (hst : ∀ i ρ S, i ≤ rs.length → I i ρ S → stands S keep = true)
    (step : ∀ i r ρ S, rs[i]? = some r → I i ρ S → ∃ ρ1, g r ρ = some ρ1 ∧ ∃ ρ2 S2, b ρ1 S = .nx ρ2 S2 ∧ I (i + 1) ρ2 S2) : ∃ ρ' S', forLoop keep g b rs ρ S = .nx ρ' S' ∧ I rs.length ρ' S' := by
  refine for_rule (Q := fun o => ∃ ρ' S', o = .nx ρ' S' ∧ I rs.length ρ' S') I rs h0 hst (fun i r ρ S hr hI => ?_) fun ρ S hI => ⟨ρ, S, rfl, hI⟩
  obtain ⟨ρ1, hg, ρ2, S2, hb, h2⟩ := step i r ρ S hr hI
  exact ⟨ρ1, hg, by rw [hb]; exact h2⟩
/-- a comprehension whose test and value leave the store -/
theorem lc_pure {α : Type} {keep : List (Nat × List R)} {g : GM} {t : TM} {elt : EM} {ρ : Rho} {S : Sto} (enc : α → R) (p : α → Bool) (f : α → R) (hst : stands S keep = true) (xs : List α)
    (h : ∀ a ∈ xs, ∃ ρ1, g (enc a) ρ = some ρ1 ∧ t ρ1 S = .ok (p a) S ∧ (p a = true → elt ρ1 S = .ok (f a) S)) : lcLoop keep g t elt ρ (xs.map enc) S = .ok ((xs.filter p).map f) S := by
  induction xs with
  | nil => unfold lcLoop; rw [List.map_nil]; dsimp only; rw [if_pos hst]; rfl
  | cons a xs ih =>
    obtain ⟨ρ1, h1, h2, h3⟩ := h a List.mem_cons_self
    have ih' := ih fun a ha => h a (List.mem_cons_of_mem _ ha)
    rw [List.map_cons]
    unfold lcLoop
    rw [if_pos hst, h1]
    dsimp only
    rw [h2]
    cases q : p a with
    | false =>
      simp only [noX, Out.bind]
      rw [ih', List.filter_cons_of_neg (by simp [q])]
    | true =>
      simp only [noX, Out.bind]
      rw [h3 q]
      simp only []
      rw [ih', List.filter_cons_of_pos q]
      rfl
/-! ### data seen -/
theorem snaps_map {α : Type} {S : Sto} {n : Nat} (f : α → PyData) (xs : List α) : (xs.map fun a => R.dat (f a)).mapM (snap S n) = some (xs.map f) := by
  induction xs with
  | nil => rfl
  | cons a xs ih => rw [List.map_cons, List.mapM_cons, ih, snap_dat]; rfl
theorem snap_obj {α : Type} {S : Sto} {n k : Nat} (f : α → PyData) (xs : List α) (h : S[k]? = some (.lst (xs.map fun a => R.dat (f a)))) : snap S (n + 1) (.obj k) = some (.list (xs.map f)) := by
  unfold snap
  rw [h]
  dsimp only
  rw [snaps_map]
  rfl
theorem datAll_f {α : Type} (f : α → PyData) (xs : List α) : datAll (xs.map fun a => R.dat (f a)) = some (xs.map f) := by
  induction xs with
  | nil => rfl
  | cons a xs ih => rw [List.map_cons]; unfold datAll; rw [ih]; rfl
theorem ints_f (xs : List Int) : ints? (xs.map fun a => R.dat (.int a)) = some xs := by
  induction xs with
  | nil => rfl
  | cons a xs ih => rw [List.map_cons]; unfold ints?; rw [ih]; rfl
theorem bls_f {α : Type} (f : α → Bool) (xs : List α) : bls? (xs.map fun a => R.dat (.bool (f a))) = some (xs.map f) := by
  induction xs with
  | nil => rfl
  | cons a xs ih => rw [List.map_cons]; unfold bls?; rw [ih]; rfl
theorem stands_nil {S : Sto} : stands S [] = true := by unfold stands; rfl
theorem stands_one {S : Sto} {k : Nat} {rs : List R} (h : S[k]? = some (.lst rs)) (hs : sameRs rs rs = true) : stands S [(k, rs)] = true := by
  unfold stands
  rw [h]
  dsimp only
  rw [hs, stands_nil]
  rfl
theorem eqv_int (a b : Int) : PyData.eqv (.int a) (.int b) = decide (a = b) := by
  unfold PyData.eqv
  rw [Bool.eq_iff_iff]
  simp
theorem shaped_int {i : Int} : SeqAt.shaped (.int i) = true := rfl
theorem eq_ints {neg : Bool} {a b : Int} {S : Sto} : bEq neg (.dat (.int a)) (.dat (.int b)) S = .ok (.dat (.bool (if neg then !decide (a = b) else decide (a = b)))) S := by
  unfold bEq
  rw [snap_dat, snap_dat]
  dsimp only
  rw [shaped_int, shaped_int, eqv_int]
  rfl
theorem atI_of {α : Type} {xs : List α} {i : Int} (h0 : 0 ≤ i) (h : i < xs.length) : atI xs i = some (xs[i.toNat]'(by omega)) := by
  unfold atI ixN
  rw [if_pos h0, if_pos h]
  simp only [Option.bind_some]
  exact List.getElem?_eq_getElem (by omega)
theorem isa_self (t : Ty) : t.isa t = true := by cases t <;> rfl
theorem isa_bi : Ty.bl.isa .int = true := rfl
theorem isa_tl : Ty.tup.isa .lst = false := rfl
theorem isa_lt : Ty.lst.isa .tup = false := rfl
theorem isa_ti : Ty.tup.isa .int = false := rfl
theorem isa_li : Ty.lst.isa .int = false := rfl
theorem isa_it : Ty.int.isa .tup = false := rfl
theorem at0 {α : Type} {x : α} {xs : List α} : atI (x :: xs) 0 = some x := by rw [atI_of (Int.le_refl _) (by simp only [List.length_cons]; omega)]; rfl
theorem at1 {α : Type} {x y : α} {xs : List α} : atI (x :: y :: xs) 1 = some y := by rw [atI_of (by omega) (by simp only [List.length_cons]; omega)]; rfl
theorem at2 {α : Type} {x y z : α} {xs : List α} : atI (x :: y :: z :: xs) 2 = some z := by rw [atI_of (by omega) (by simp only [List.length_cons]; omega)]; rfl
theorem atLast {α : Type} {xs : List α} {x : α} : atI (xs ++ [x]) (-1) = some x := by
  unfold atI ixN
  rw [if_neg (by omega), List.length_append, List.length_singleton, if_pos (by omega)]
  simp only [Option.bind_some]
  rw [show (-1 + ((xs.length + 1 : Nat) : Int)).toNat = xs.length by omega]
  simp
theorem at_map {α β : Type} {f : α → β} {xs : List α} {i : Int} {x : α} (h0 : 0 ≤ i) (h : xs[i.toNat]? = some x) : atI (xs.map f) i = some (f x) := by
  have hl := (List.getElem?_eq_some_iff.mp h).1
  rw [atI_of h0 (by rw [List.length_map]; omega), List.getElem_map]
  rw [List.getElem?_eq_getElem hl] at h
  cases h
  rfl
theorem map_dat {α : Type} {f : α → PyData} {xs : List α} : List.map R.dat (List.map f xs) = xs.map fun a => R.dat (f a) := by rw [List.map_map]; rfl
theorem app_map {α β : Type} {f : α → β} {xs ys : List α} : List.map f xs ++ List.map f ys = (xs ++ ys).map f := List.map_append.symm
theorem two_small : (2 : Nat) ≤ sizeLine := by decide
theorem three_small : (3 : Nat) ≤ sizeLine := by decide
theorem one_small : (1 : Nat) ≤ sizeLine := by decide
theorem nil_small : (0 : Nat) ≤ sizeLine := by decide
theorem cutR_f {α β : Type} {f : α → β} {xs : List α} {lo hi : Option Int} : cutR (xs.map f) lo hi = (cutR xs lo hi).map f := by
  unfold cutR
  rw [List.length_map, ← List.map_drop, ← List.map_take]
theorem cut_first {α : Type} {xs : List α} {k : Nat} : cutR xs none (some (k : Int)) = xs.take k := by
  unfold cutR
  rw [HT.sIx_none, show HT.sIx xs.length xs.length (some (k : Int)) = min k xs.length from HT.sIx_nat xs.length xs.length k, List.drop_zero, Nat.sub_zero]
  rcases Nat.le_total k xs.length with h | h
  · rw [Nat.min_eq_left h]
  · rw [Nat.min_eq_right h, List.take_of_length_le (Nat.le_refl _), List.take_of_length_le h]
end Pev
/-! Pev, nineteenth part: raising errors without a field, reading the field of a made one. -/
namespace Pev
open PySem PySem.Spec PyProof.Rows L2
section
variable {X : Cx} {C B fI : Addr} {Fd : Str}
end
section
variable {X : Cx} {T : Tb} {W : WX} {m : EM}
end

/-! ### all errors of a text -/
def ErrsN (K : PySem.W.Frag) (P : Program) (mg : Str → Option Value) (cls : Nat → Addr) (eB : Addr) (ie : Nat → Addr) (fld : Nat → Str) (k : Nat) : List Bool → Prop
  | [] => True
  | true :: l => ErrTxt K P mg (cls k) eB (ie k) (fld k) ∧ ErrsN K P mg cls eB ie fld (k + 1) l
  | false :: l => ErrTxt0 K P mg (cls k) eB (ie k) ∧ ErrsN K P mg cls eB ie fld (k + 1) l
section
variable {K : PySem.W.Frag} {P : Program} {mg : Str → Option Value} {cls ie : Nat → Addr} {eB : Addr} {fld : Nat → Str}
theorem errs_at : ∀ {l : List Bool} {k : Nat} (h : ErrsN K P mg cls eB ie fld k l) (i : Nat) (b : Bool), l[i]? = some b → if b = true then ErrTxt K P mg (cls (k + i)) eB (ie (k + i)) (fld (k + i)) else ErrTxt0 K P mg (cls (k + i)) eB (ie (k + i))
  | [], _, _, i, b, e => by simp at e
  | true :: l, k, h, 0, b, e => by
    simp at e
    subst e
    exact h.1
  | false :: l, k, h, 0, b, e => by
    simp at e
    subst e
    exact h.1
  | true :: l, k, h, i + 1, b, e => by
    have q := errs_at h.2 i b (by simpa using e)
    rw [show k + (i + 1) = k + 1 + i by omega]
    exact q
  | false :: l, k, h, i + 1, b, e => by
    have q := errs_at h.2 i b (by simpa using e)
    rw [show k + (i + 1) = k + 1 + i by omega]
    exact q
theorem errs_1 {l : List Bool} (h : ErrsN K P mg cls eB ie fld 0 l) (i : Nat) (e : l[i]? = some true := by rfl) : ErrTxt K P mg (cls i) eB (ie i) (fld i) := by
  have q := errs_at h i true e
  rw [Nat.zero_add] at q
  exact q
theorem errs_0 {l : List Bool} (h : ErrsN K P mg cls eB ie fld 0 l) (i : Nat) (e : l[i]? = some false := by rfl) : ErrTxt0 K P mg (cls i) eB (ie i) := by
  have q := errs_at h i false e
  rw [Nat.zero_add] at q
  exact q
/-- what both kinds say of the class -/
theorem cls_sub {C D B : Addr} (h : ∃ nm q N bs sn sub ab col dd k0 k1 k2 k3 k5, K.lookup C = some (excClassObj nm q C N bs (.ref B :: PySem.ESX.exTail) true sn sub ab col dd k0 k1 k2 k3 k5 "Exception.__new__")) :
    PySem.W.subIn K (.ref C) (.ref D) = some (decide (D = C) || decide (D = B)) ∧ PySem.W.isClsIn K C = true := by
  obtain ⟨nm, q, N, bs, sn, sub, ab, col, dd, k0, k1, k2, k3, k5, hC⟩ := h
  have hcl : PySem.W.clsIn K C = some { name := nm, bases := bs, mro := .ref C :: .ref B :: PySem.ESX.exTail, ns := N, qualname := q, hasDict := true, slotNames := sn, subclasses := sub, abstract := ab, collection := col, hasDel := false } := by unfold PySem.W.clsIn; rw [hC] <;> rfl
  refine ⟨?_, by unfold PySem.W.isClsIn; rw [hcl]; rfl⟩
  show PySem.W.mroIn K C _ = _
  unfold PySem.W.mroIn
  rw [hcl, Option.bind_some]
  rw [if_neg (show ¬ ((Value.ref C :: Value.ref B :: PySem.ESX.exTail).isEmpty = true) from fun z => Bool.false_ne_true z)]
  have t : PySem.ESX.exTail.contains (Value.ref D) = false := rfl
  rw [List.contains_cons, List.contains_cons, t, Bool.or_false]
  have e1 : ∀ a b : Addr, ((Value.ref a : Value) == .ref b) = decide (a = b) := fun a b => by
    by_cases z : a = b
    · subst z; simp
    · rw [decide_eq_false z]
      exact beq_eq_false_iff_ne.mpr fun y => z (by cases y; rfl)
  rw [e1, e1]
theorem errs_cls {l : List Bool} (h : ErrsN K P mg cls eB ie fld 0 l) (i : Nat) (hi : i < l.length) : (∃ nm q N bs sn sub ab col dd k0 k1 k2 k3 k5, K.lookup (cls i) = some (excClassObj nm q (cls i) N bs (.ref eB :: PySem.ESX.exTail) true sn sub ab col dd k0 k1 k2 k3 k5 "Exception.__new__")) ∧
    PySem.W.subIn K (.ref (cls i)) (.type "BaseException") = some true ∧ PySem.W.typeIn K (.ref (cls i)) = some (.type "type") := by
  cases e : l[i]? with
  | none => exact absurd (List.getElem?_eq_none_iff.mp e) (by omega)
  | some b =>
    cases b with
    | true => exact ⟨(errs_1 h i e).cls, (errs_1 h i e).exC, (errs_1 h i e).tyC⟩
    | false => exact ⟨(errs_0 h i e).cls, (errs_0 h i e).exC, (errs_0 h i e).tyC⟩
/-- a clause that names the j-th class -/
theorem hits_row {l : List Bool} (h : ErrsN K P mg cls eB ie fld 0 l) (nd : ∀ i j, i < l.length → j < l.length → cls i = cls j → i = j) (nB : ∀ i, i < l.length → cls i ≠ eB) (j : Nat) (hits : List Bool) (hj : j < l.length := by decide) (hh : hits = (List.range l.length).map fun i => decide (i = j) := by decide)
    (k : Nat) (b : Bool) (e : hits[k]? = some b) : PySem.W.exmOne K (.ref (cls k)) (.ref (cls j)) = some b := by
  subst hh
  rw [List.getElem?_map] at e
  obtain ⟨i, e1, e2⟩ := Option.map_eq_some_iff.mp e
  have hk : k < l.length := by
    have := (List.getElem?_eq_some_iff.mp e1).1
    simpa using this
  rw [List.getElem?_range hk] at e1
  cases e1
  obtain ⟨c1, c2, c3⟩ := errs_cls h j hj
  refine exm_sub c2 (cls_sub (D := eB) c1).2 c3 ?_
  rw [(cls_sub (errs_cls h k hk).1).1, ← e2, decide_eq_false (nB j hj), Bool.or_false]
  by_cases z : k = j
  · subst z; simp
  · rw [decide_eq_false z, decide_eq_false fun y => z (nd _ _ hj hk y).symm]
end
def GlobsN (mg : Str → Option Value) (cls : Nat → Addr) (k : Nat) : List Str → Prop
  | [] => True
  | x :: l => mg x = some (.ref (cls k)) ∧ GlobsN mg cls (k + 1) l
theorem globs_at {mg : Str → Option Value} {cls : Nat → Addr} : ∀ {l : List Str} {k : Nat} (h : GlobsN mg cls k l) (i : Nat) (x : Str), l[i]? = some x → mg x = some (.ref (cls (k + i)))
  | [], _, _, i, x, e => by simp at e
  | y :: l, k, h, 0, x, e => by
    simp at e
    subst e
    exact h.1
  | y :: l, k, h, i + 1, x, e => by
    have q := globs_at h.2 i x (by simpa using e)
    rw [show k + (i + 1) = k + 1 + i by omega]
    exact q
theorem globs_0 {mg : Str → Option Value} {cls : Nat → Addr} {l : List Str} (h : GlobsN mg cls 0 l) (i : Nat) {x : Str} (e : l[i]? = some x := by rfl) : mg x = some (.ref (cls i)) := by
  have q := globs_at h i x e
  rw [Nat.zero_add] at q
  exact q
theorem fld_at {K : PySem.W.Frag} {P : Program} {mg : Str → Option Value} {cls ie : Nat → Addr} {eB : Addr} {fld : Nat → Str} {l : List Bool} {fs : List Str} (h : ErrsN K P mg cls eB ie fld 0 l) (fl : fld = fun k => fs.getD k "") (i : Nat) (n : Str) (e : l[i]? = some true := by rfl) (z : fs.getD i "" = n := by rfl) :
    FldC K (cls i) n ∧ fld i = n := by
  have q : fld i = n := by rw [fl]; exact z
  exact ⟨q ▸ (errs_1 h i e).fld, q⟩
/-- addresses that stand in a list, all unlike -/
theorem getD_nd {cs : List Addr} (h : cs.Nodup) (i j : Nat) (hi : i < cs.length) (hj : j < cs.length) (e : cs.getD i 0 = cs.getD j 0) : i = j := by
  rw [List.getD_eq_getElem?_getD, List.getD_eq_getElem?_getD, List.getElem?_eq_getElem hi, List.getElem?_eq_getElem hj] at e
  exact (List.getElem_inj h).mp e
theorem getD_ne {cs : List Addr} {B : Addr} (h : B ∉ cs) (i : Nat) (hi : i < cs.length) : cs.getD i 0 ≠ B := fun e => by
  rw [List.getD_eq_getElem?_getD, List.getElem?_eq_getElem hi] at e
  exact h (e ▸ List.getElem_mem hi)
/-- err_mk, the module's names last -/
theorem err_mkG {K : PySem.W.Frag} {P : Program} {C B fI cda cc : Addr} {Fd q : Str} {st : Stmt} (S : ErrSt st q Fd)
    {nm q2 : Str} {N : Addr} {bs : List Value} {sn : List Str} {sub : List Value} {ab : Bool} {col : Option Bool} {dd : Option Addr} {k0 k1 k2 k3 k5 : Option Value}
    {oc kV doc pm ct ccl cl : Value} {od an cdd cld : Option Addr} {osl ccs csl : Array (Option Value)} {vs : Array Value} {file : Str} {tf : Tok}
    (xL : K.lookup C = some (excClassObj nm q2 C N bs [.ref B, .type "Exception", .type "BaseException", .type "object"] true sn sub ab col dd k0 k1 k2 k3 k5 "Exception.__new__"))
    (sa : PySem.W.findIn K (.ref C) "__setattr__" = some (some (.builtin "object.__setattr__"))) (ga : PySem.W.findIn K (.ref C) "__getattribute__" = some (some (.builtin "BaseException.__getattribute__"))) (gg : PySem.W.findIn K (.ref C) "__getattr__" = some none)
    (nb : PySem.W.findIn K (.ref C) Fd = some none) (iC : PySem.W.findIn K (.ref C) "__init__" = some (some (.ref fI))) (tI : PySem.W.typeIn K (.ref fI) = some (.type "function"))
    (lI : K.lookup fI = some ⟨oc, od, .func (PySem.W.fnX "__init__" q (defArgs st) (defBody st) (defScope st) [(("__class__" : Str), cc)] .none kV doc pm an (.ref cda) ct), osl⟩) (cI : PySem.W.codeIn K (.ref cda) q = true)
    (lc : K.lookup cda = some ⟨ccl, cdd, .fields vs, ccs⟩) (vf : vs[2]? = some (.str file tf)) (ff : ((P.main.file : Str) == file) = true) (le : K.lookup cc = some ⟨cl, cld, .cell (some (.ref C)), csl⟩)
    (kC : PySem.W.keepIn K (.ref C) = true) (eC : PySem.W.subIn K (.ref C) (.type "BaseException") = some true) (tC : PySem.W.typeIn K (.ref C) = some (.type "type")) (hC : PySem.W.hasDictIn K C = true)
    (sI : PySem.W.ks_superIn K C C "__init__" = some (some (.builtin "Exception.__init__"))) (op : PySem.W.nsIn K cStatics "thirdparty.any" = some none) (top : (P.main.scope.names.lookup ("super" : Str)).isSome = false) :
    ∀ mg : Str → Option Value, mg "super" = none → ErrTxt K P mg C B fI Fd := fun mg su => err_mk S xL sa ga gg nb iC tI lI cI lc vf ff le kC eC tC hC sI op su top
/-- the same without a field -/
structure ErrSt0 (st : Stmt) (q : Str) : Prop where
  body : ∃ msg l, defBody st = bodyE0 msg (posAt l) ∧ OneLine msg (posAt l)
  kind : (defScope st).kind = .function
  co : (defScope st).isCoroutine = false
  gen : (defScope st).isGenerator = false
  nocell : ∀ x ∈ (defScope st).names, x.2 ≠ .cell
  slf : (defScope st).names.lookup ("self" : Str) = some .local
  sup : (defScope st).names.lookup ("super" : Str) = some .globalImplicit
  cls : (defScope st).names.lookup ("__class__" : Str) = some .free
  hd : ∃ ar, ((defArgs st).posonlyargs ++ (defArgs st).args).head? = some ar ∧ ar.arg = "self"
  bind : ∀ (cl : List (Str × Addr)) (kV doc pm : Value) (an : Option Addr) (cdv ct x : Value), bindArgs (PySem.W.fnX "__init__" q (defArgs st) (defBody st) (defScope st) cl .none kV doc pm an cdv ct) ⟨[x], []⟩ = pure [(("self" : Str), x)]
end Pev
/-! Pev, twentieth part: a law's draws out of a box of three numbers. -/
namespace Pev
open PySem
open L2 (atI ixN)
theorem nz1 : ((2147483563 : Int) ≠ 0) = True := eq_true (by decide)
theorem nz2 : ((2147483629 : Int) ≠ 0) = True := eq_true (by decide)
theorem nz3 : ((8191 : Int) ≠ 0) = True := eq_true (by decide)
theorem nz4 : ((8191 : Int).natAbs < 1073741824) = True := eq_true (by decide)
theorem nz5 : ((18 : Int) ≤ 1000000) = True := eq_true (by decide)
theorem nz6 : ((10 : Int).natAbs < 18446744073709551616) = True := eq_true (by decide)
theorem nz7 : ((0 : Int) ≤ 18) = True := eq_true (by decide)
def small (i : Int) : Bool := decide (i.natAbs < 18446744073709551616)
/-- the cell of a box: a * k + b, or the script's k-th number .. -/
def boxB (a b m c d : Int) : SM := (sCons (sSet 2 (eBin (bAdd false) (eBin (bMul false) (eC (.int a)) (eVar 1)) (eC (.int b))))
    (sCons (sIf (mB (eBin bLt (eVar 1) (eArgs gLen (aCons (eVar 0) aNil)))) (sSet 2 (eArgs gAbs (aCons (eBin bIx (eVar 0) (eVar 1)) aNil))) (sIf (mB (eBin bGt (eArgs gLen (aCons (eVar 0) aNil)) (eC (.int 0)))) (sSet 2 (eBin (bAdd false) (eVar 2) (eBin (bMul false) (eBin bMod (eArgs gInt (aCons (eArgs gAbs (aCons (eBin bIx (eVar 0) (eBin bMod (eArgs gInt (aCons (eVar 1) aNil)) (eArgs gLen (aCons (eVar 0) aNil)))) aNil)) aNil)) (eC (.int 2147483629))) (eC (.int m))))) sSkip))
    (sRet (eArgs (gLst true) (aCons (eBin bIx (eArgs (gLst false) (aCons (eC (.int 0)) (aCons (eVar 2) aNil))) (eArgs gInt (aCons (eBin bGe (eVar 2) (eBin bPow (eC (.int 10)) (eC (.int 18)))) aNil))) (aCons (eBin (bAdd false) (eBin bMod (eArgs gInt (aCons (eBin (bAdd false) (eBin (bMul false) (eBin bMod (eArgs gInt (aCons (eVar 2) aNil)) (eC (.int 2147483629))) (eC (.int c))) (eBin (bMul false) (eC (.int d)) (eVar 1))) aNil)) (eC (.int 2147483629))) (eC (.int 1))) (aCons (eC (.int 0)) aNil)))))))
def takeB (p q r s t : Int) : SM := (sCons (sIf (mB (eBin bGt (eBin bIx (eVar 0) (eC (.int 0))) (eC (.int 0)))) (sCons (sSet 2 (eBin bMod (eArgs gInt (aCons (eBin bIx (eVar 0) (eC (.int 0))) aNil)) (eVar 1)))
    (sCons (sPut (eVar 0) (eC (.int 0)) (eBin bDiv (eBin bIx (eVar 0) (eC (.int 0))) (eVar 1)))
    (sRet (eVar 2)))) sSkip)
    (sCons (sPut (eVar 0) (eC (.int 2)) (eBin (bAdd false) (eBin bIx (eVar 0) (eC (.int 2))) (eC (.int 1))))
    (sCons (sSet 3 (eBin bMod (eArgs gInt (aCons (eBin (bAdd false) (eBin (bMul false) (eBin (bAdd false) (eBin bIx (eVar 0) (eC (.int 1))) (eBin (bMul false) (eC (.int p)) (eBin bIx (eVar 0) (eC (.int 2))))) (eC (.int q))) (eC (.int r))) aNil)) (eC (.int 2147483563))))
    (sCons (sPut (eVar 0) (eC (.int 1)) (eBin (bAdd false) (eBin bMod (eArgs gInt (aCons (eBin (bAdd false) (eBin (bMul false) (eVar 3) (eC (.int s))) (eC (.int t))) aNil)) (eC (.int 2147483629))) (eC (.int 1))))
    (sRet (eBin bMod (eArgs gInt (aCons (eBin bDiv (eBin (bAdd false) (eBin (bMul false) (eVar 3) (eC (.int 2147483647))) (eBin bIx (eVar 0) (eC (.int 1)))) (eC (.int 8191))) aNil)) (eVar 1)))))))
def three (a b c : Int) : Cell := .lst [.dat (.int a), .dat (.int b), .dat (.int c)]
theorem mulL {i j : Int} (h : small i = true) : mulOk i j = true := by unfold mulOk; unfold small at h; rw [h]; rfl
theorem mulR {i j : Int} (h : small j = true) : mulOk i j = true := by unfold mulOk; unfold small at h; rw [h]; simp
theorem fmod_in {x n : Int} (h : 0 < n) : 0 ≤ x.fmod n ∧ x.fmod n < n := ⟨Int.fmod_nonneg_of_pos x h, Int.fmod_lt_of_pos x h⟩
theorem set_at {S : Sto} {k : Nat} {c : Cell} (h : k < S.length) : (S.set k c)[k]? = some c := List.getElem?_set_self h
theorem take_ok {p q r s t : Int} (hp : small p = true) (hq : small q = true) (hs : small s = true) {S : Sto} {k : Nat} {a b c many : Int} (hS : S[k]? = some (three a b c)) (hm : 0 < many) (hb : many < 1000000) :
    ∃ x a' b' c', 0 ≤ x ∧ x < many ∧ fnB 4 (takeB p q r s t) [.obj k, .dat (.int many)] S = .ok (.dat (.int x)) (S.set k (three a' b' c')) := by
  have hk : k < S.length := (List.getElem?_eq_some_iff.mp hS).1
  have hn : (many.natAbs < 1073741824) = True := eq_true (by omega)
  have hn2 : (many ≠ 0) = True := eq_true (by omega)
  have i0 : ixN 3 0 = some 0 := rfl
  have i1 : ixN 3 1 = some 1 := rfl
  have i2 : ixN 3 2 = some 2 := rfl
  by_cases h : a > 0
  · refine ⟨a.fmod many, a.fdiv many, b, c, (fmod_in hm).1, (fmod_in hm).2, ?_⟩
    unfold takeB
    simp only [Pev.fnB, Pev.OutS.toF, Pev.sCons, Pev.sSet, Pev.sRet, Pev.sRetN, Pev.sIf, Pev.sSkip, Pev.sExpr, Pev.sTgt, Pev.sFor, Pev.sRaise, Pev.sPut, Pev.putAt, Pev.sPar2, Pev.sPar3, Pev.sTry, Pev.hRun, Pev.OutS.fade, Pev.OutS.calm, Pev.Out.toS, Pev.Out.bind, Pev.noX, Pev.eVar, Pev.eC, Pev.eBin, Pev.eUn, Pev.eArgs, Pev.aCons, Pev.aNil, Pev.needN, Pev.eAnd, Pev.eOr, Pev.eNot, Pev.eIf, Pev.mAnd, Pev.mOr, Pev.mNot, Pev.mB, Pev.mT, Pev.eChain, Pev.truth, Pev.ans, Pev.ofT, Pev.ofB, Pev.bAdd, Pev.bSub, Pev.bMul, Pev.bDiv, Pev.bMod, Pev.bLt, Pev.bLe, Pev.bGt, Pev.bGe, Pev.bIsN, Pev.isNone?, Pev.uNeg, Pev.bIx, Pev.lv, Pev.lvt, Pev.gLen, Pev.gAbs, Pev.gInt, Pev.gBool, Pev.gList, Pev.gTuple, Pev.gTup, Pev.gLst, Pev.newL, Pev.newT, Pev.datAll, Pev.R.d?, Pev.uIs, Pev.tyOf, Pev.eLc, Pev.iOf, Pev.itOf, Pev.iArgs, Pev.gRange1, Pev.gRange2, Pev.gN, Pev.gTp, Pev.gsCons, Pev.gsNil, Pev.tv, Pev.eBMl, Pev.gAppend, Pev.gPop, Pev.gExtend, Pev.cellOf, Pev.eFld, Pev.tYes', Pev.wipeR, Pev.permL, List.map_cons, List.map_nil, List.length_cons, List.length_nil, List.cons_append, List.nil_append, List.append_nil, List.replicate, List.getElem?_cons_zero, List.getElem?_cons_succ, List.getElem?_nil, List.set_cons_zero, List.set_cons_succ, List.set_nil, List.filterMap_cons, List.filterMap_nil, Option.map_some, Option.map_none, Option.bind_some, Option.bind_none, if_true, if_false, Bool.not_true, Bool.not_false, Nat.reduceSub, Nat.reduceAdd, Nat.reduceEqDiff, Nat.reduceLeDiff, reduceIte, ite_true, ite_false, Bool.true_eq_false, Bool.false_eq_true, ↓reduceIte, Nat.zero_add, Nat.add_zero, Nat.sub_zero, Pev.outD_dat, Pev.snap_dat, Pev.outX, List.any_cons, List.any_nil, List.all_cons, List.all_nil, id_eq, Bool.or_false, Bool.or_true, Bool.true_or, Bool.false_or, Bool.and_true, Bool.true_and, Bool.and_false, Bool.false_and, Bool.and_self, Bool.or_self, Int.cast_ofNat_Int, decide_true, decide_false, Pev.isa_self, Pev.isa_bi, Pev.isa_tl, Pev.isa_lt, Pev.isa_ti, Pev.isa_li, Pev.isa_it, Pev.gAll, Pev.gAny, Pev.gSum, Pev.bls?, Pev.ints?, Pev.eq_ints, Pev.datAll_map, Pev.map_dat, Pev.app_map, Pev.datAll_f, Pev.ints_f, Pev.bls_f, Pev.at0, Pev.at1, Pev.at2, Pev.atLast, Pev.two_small, Pev.three_small, Pev.one_small, Pev.nil_small, Pev.oPart, Pev.toI, Pev.eSl, Pev.gSl, Pev.uRev, List.isEmpty_cons, List.isEmpty_nil, hS, three, decide_eq_true h, hn, hn2, true_and, i0, set_at hk]
    all_goals rfl
  · refine ⟨((((b + p * (c + 1)) * q + r).fmod 2147483563 * 2147483647 + ((((b + p * (c + 1)) * q + r).fmod 2147483563 * s + t).fmod 2147483629 + 1)).fdiv 8191).fmod many, a, (((b + p * (c + 1)) * q + r).fmod 2147483563 * s + t).fmod 2147483629 + 1, c + 1, (fmod_in hm).1, (fmod_in hm).2, ?_⟩
    unfold takeB
    simp only [Pev.fnB, Pev.OutS.toF, Pev.sCons, Pev.sSet, Pev.sRet, Pev.sRetN, Pev.sIf, Pev.sSkip, Pev.sExpr, Pev.sTgt, Pev.sFor, Pev.sRaise, Pev.sPut, Pev.putAt, Pev.sPar2, Pev.sPar3, Pev.sTry, Pev.hRun, Pev.OutS.fade, Pev.OutS.calm, Pev.Out.toS, Pev.Out.bind, Pev.noX, Pev.eVar, Pev.eC, Pev.eBin, Pev.eUn, Pev.eArgs, Pev.aCons, Pev.aNil, Pev.needN, Pev.eAnd, Pev.eOr, Pev.eNot, Pev.eIf, Pev.mAnd, Pev.mOr, Pev.mNot, Pev.mB, Pev.mT, Pev.eChain, Pev.truth, Pev.ans, Pev.ofT, Pev.ofB, Pev.bAdd, Pev.bSub, Pev.bMul, Pev.bDiv, Pev.bMod, Pev.bLt, Pev.bLe, Pev.bGt, Pev.bGe, Pev.bIsN, Pev.isNone?, Pev.uNeg, Pev.bIx, Pev.lv, Pev.lvt, Pev.gLen, Pev.gAbs, Pev.gInt, Pev.gBool, Pev.gList, Pev.gTuple, Pev.gTup, Pev.gLst, Pev.newL, Pev.newT, Pev.datAll, Pev.R.d?, Pev.uIs, Pev.tyOf, Pev.eLc, Pev.iOf, Pev.itOf, Pev.iArgs, Pev.gRange1, Pev.gRange2, Pev.gN, Pev.gTp, Pev.gsCons, Pev.gsNil, Pev.tv, Pev.eBMl, Pev.gAppend, Pev.gPop, Pev.gExtend, Pev.cellOf, Pev.eFld, Pev.tYes', Pev.wipeR, Pev.permL, List.map_cons, List.map_nil, List.length_cons, List.length_nil, List.cons_append, List.nil_append, List.append_nil, List.replicate, List.getElem?_cons_zero, List.getElem?_cons_succ, List.getElem?_nil, List.set_cons_zero, List.set_cons_succ, List.set_nil, List.filterMap_cons, List.filterMap_nil, Option.map_some, Option.map_none, Option.bind_some, Option.bind_none, if_true, if_false, Bool.not_true, Bool.not_false, Nat.reduceSub, Nat.reduceAdd, Nat.reduceEqDiff, Nat.reduceLeDiff, reduceIte, ite_true, ite_false, Bool.true_eq_false, Bool.false_eq_true, ↓reduceIte, Nat.zero_add, Nat.add_zero, Nat.sub_zero, Pev.outD_dat, Pev.snap_dat, Pev.outX, List.any_cons, List.any_nil, List.all_cons, List.all_nil, id_eq, Bool.or_false, Bool.or_true, Bool.true_or, Bool.false_or, Bool.and_true, Bool.true_and, Bool.and_false, Bool.false_and, Bool.and_self, Bool.or_self, Int.cast_ofNat_Int, decide_true, decide_false, Pev.isa_self, Pev.isa_bi, Pev.isa_tl, Pev.isa_lt, Pev.isa_ti, Pev.isa_li, Pev.isa_it, Pev.gAll, Pev.gAny, Pev.gSum, Pev.bls?, Pev.ints?, Pev.eq_ints, Pev.datAll_map, Pev.map_dat, Pev.app_map, Pev.datAll_f, Pev.ints_f, Pev.bls_f, Pev.at0, Pev.at1, Pev.at2, Pev.atLast, Pev.two_small, Pev.three_small, Pev.one_small, Pev.nil_small, Pev.oPart, Pev.toI, Pev.eSl, Pev.gSl, Pev.uRev, List.isEmpty_cons, List.isEmpty_nil, hS, three, decide_eq_false h, hn, hn2, nz1, nz2, nz3, nz4, true_and, i0, i1, i2, mulL hp, mulR hq, mulR hs, set_at hk, List.set_set, mulR (show small 2147483647 = true from rfl)]
    all_goals rfl
theorem box_ok {a b m c d : Int} (ha : small a = true) (hm : small m = true) (hc : small c = true) (hd : small d = true) {ns : List Int} {k : Nat} {S : Sto} (hk : k < 100) (hl : ns.length ≤ 63) :
    ∃ x y, fnB 3 (boxB a b m c d) [.ro (ns.map .int), .dat (.int k)] S = .ok (.obj S.length) (S ++ [three x y 0]) := by
  have fin : ∀ cell : Int, ∃ x y, (sRet (eArgs (gLst true) (aCons (eBin bIx (eArgs (gLst false) (aCons (eC (.int 0)) (aCons (eVar 2) aNil))) (eArgs gInt (aCons (eBin bGe (eVar 2) (eBin bPow (eC (.int 10)) (eC (.int 18)))) aNil))) (aCons (eBin (bAdd false) (eBin bMod (eArgs gInt (aCons (eBin (bAdd false) (eBin (bMul false) (eBin bMod (eArgs gInt (aCons (eVar 2) aNil)) (eC (.int 2147483629))) (eC (.int c))) (eBin (bMul false) (eC (.int d)) (eVar 1))) aNil)) (eC (.int 2147483629))) (eC (.int 1))) (aCons (eC (.int 0)) aNil)))))
      [some (.ro (ns.map .int)), some (.dat (.int k)), some (.dat (.int cell))] S = .rt (.obj S.length) (S ++ [three x y 0]) := by
    intro cell
    by_cases h : (10 : Int) ^ (18 : Int).toNat ≤ cell
    · refine ⟨cell, (cell.fmod 2147483629 * c + d * (k : Int)).fmod 2147483629 + 1, ?_⟩
      simp only [Pev.fnB, Pev.OutS.toF, Pev.sCons, Pev.sSet, Pev.sRet, Pev.sRetN, Pev.sIf, Pev.sSkip, Pev.sExpr, Pev.sTgt, Pev.sFor, Pev.sRaise, Pev.sPut, Pev.putAt, Pev.sPar2, Pev.sPar3, Pev.sTry, Pev.hRun, Pev.OutS.fade, Pev.OutS.calm, Pev.Out.toS, Pev.Out.bind, Pev.noX, Pev.eVar, Pev.eC, Pev.eBin, Pev.eUn, Pev.eArgs, Pev.aCons, Pev.aNil, Pev.needN, Pev.eAnd, Pev.eOr, Pev.eNot, Pev.eIf, Pev.mAnd, Pev.mOr, Pev.mNot, Pev.mB, Pev.mT, Pev.eChain, Pev.truth, Pev.ans, Pev.ofT, Pev.ofB, Pev.bAdd, Pev.bSub, Pev.bMul, Pev.bDiv, Pev.bMod, Pev.bLt, Pev.bLe, Pev.bGt, Pev.bGe, Pev.bIsN, Pev.isNone?, Pev.uNeg, Pev.bIx, Pev.lv, Pev.lvt, Pev.gLen, Pev.gAbs, Pev.gInt, Pev.gBool, Pev.gList, Pev.gTuple, Pev.gTup, Pev.gLst, Pev.newL, Pev.newT, Pev.datAll, Pev.R.d?, Pev.uIs, Pev.tyOf, Pev.eLc, Pev.iOf, Pev.itOf, Pev.iArgs, Pev.gRange1, Pev.gRange2, Pev.gN, Pev.gTp, Pev.gsCons, Pev.gsNil, Pev.tv, Pev.eBMl, Pev.gAppend, Pev.gPop, Pev.gExtend, Pev.cellOf, Pev.eFld, Pev.tYes', Pev.wipeR, Pev.permL, List.map_cons, List.map_nil, List.length_cons, List.length_nil, List.cons_append, List.nil_append, List.append_nil, List.replicate, List.getElem?_cons_zero, List.getElem?_cons_succ, List.getElem?_nil, List.set_cons_zero, List.set_cons_succ, List.set_nil, List.filterMap_cons, List.filterMap_nil, Option.map_some, Option.map_none, Option.bind_some, Option.bind_none, if_true, if_false, Bool.not_true, Bool.not_false, Nat.reduceSub, Nat.reduceAdd, Nat.reduceEqDiff, Nat.reduceLeDiff, reduceIte, ite_true, ite_false, Bool.true_eq_false, Bool.false_eq_true, ↓reduceIte, Nat.zero_add, Nat.add_zero, Nat.sub_zero, Pev.outD_dat, Pev.snap_dat, Pev.outX, List.any_cons, List.any_nil, List.all_cons, List.all_nil, id_eq, Bool.or_false, Bool.or_true, Bool.true_or, Bool.false_or, Bool.and_true, Bool.true_and, Bool.and_false, Bool.false_and, Bool.and_self, Bool.or_self, Int.cast_ofNat_Int, decide_true, decide_false, Pev.isa_self, Pev.isa_bi, Pev.isa_tl, Pev.isa_lt, Pev.isa_ti, Pev.isa_li, Pev.isa_it, Pev.gAll, Pev.gAny, Pev.gSum, Pev.bls?, Pev.ints?, Pev.eq_ints, Pev.datAll_map, Pev.map_dat, Pev.app_map, Pev.datAll_f, Pev.ints_f, Pev.bls_f, Pev.at0, Pev.at1, Pev.at2, Pev.atLast, Pev.two_small, Pev.three_small, Pev.one_small, Pev.nil_small, Pev.oPart, Pev.toI, Pev.eSl, Pev.gSl, Pev.uRev, List.isEmpty_cons, List.isEmpty_nil, bPow, nz5, nz6, nz7, nz2, true_and, and_self, decide_eq_true h, mulR hc, mulL hd, three]
      all_goals rfl
    · refine ⟨0, (cell.fmod 2147483629 * c + d * (k : Int)).fmod 2147483629 + 1, ?_⟩
      simp only [Pev.fnB, Pev.OutS.toF, Pev.sCons, Pev.sSet, Pev.sRet, Pev.sRetN, Pev.sIf, Pev.sSkip, Pev.sExpr, Pev.sTgt, Pev.sFor, Pev.sRaise, Pev.sPut, Pev.putAt, Pev.sPar2, Pev.sPar3, Pev.sTry, Pev.hRun, Pev.OutS.fade, Pev.OutS.calm, Pev.Out.toS, Pev.Out.bind, Pev.noX, Pev.eVar, Pev.eC, Pev.eBin, Pev.eUn, Pev.eArgs, Pev.aCons, Pev.aNil, Pev.needN, Pev.eAnd, Pev.eOr, Pev.eNot, Pev.eIf, Pev.mAnd, Pev.mOr, Pev.mNot, Pev.mB, Pev.mT, Pev.eChain, Pev.truth, Pev.ans, Pev.ofT, Pev.ofB, Pev.bAdd, Pev.bSub, Pev.bMul, Pev.bDiv, Pev.bMod, Pev.bLt, Pev.bLe, Pev.bGt, Pev.bGe, Pev.bIsN, Pev.isNone?, Pev.uNeg, Pev.bIx, Pev.lv, Pev.lvt, Pev.gLen, Pev.gAbs, Pev.gInt, Pev.gBool, Pev.gList, Pev.gTuple, Pev.gTup, Pev.gLst, Pev.newL, Pev.newT, Pev.datAll, Pev.R.d?, Pev.uIs, Pev.tyOf, Pev.eLc, Pev.iOf, Pev.itOf, Pev.iArgs, Pev.gRange1, Pev.gRange2, Pev.gN, Pev.gTp, Pev.gsCons, Pev.gsNil, Pev.tv, Pev.eBMl, Pev.gAppend, Pev.gPop, Pev.gExtend, Pev.cellOf, Pev.eFld, Pev.tYes', Pev.wipeR, Pev.permL, List.map_cons, List.map_nil, List.length_cons, List.length_nil, List.cons_append, List.nil_append, List.append_nil, List.replicate, List.getElem?_cons_zero, List.getElem?_cons_succ, List.getElem?_nil, List.set_cons_zero, List.set_cons_succ, List.set_nil, List.filterMap_cons, List.filterMap_nil, Option.map_some, Option.map_none, Option.bind_some, Option.bind_none, if_true, if_false, Bool.not_true, Bool.not_false, Nat.reduceSub, Nat.reduceAdd, Nat.reduceEqDiff, Nat.reduceLeDiff, reduceIte, ite_true, ite_false, Bool.true_eq_false, Bool.false_eq_true, ↓reduceIte, Nat.zero_add, Nat.add_zero, Nat.sub_zero, Pev.outD_dat, Pev.snap_dat, Pev.outX, List.any_cons, List.any_nil, List.all_cons, List.all_nil, id_eq, Bool.or_false, Bool.or_true, Bool.true_or, Bool.false_or, Bool.and_true, Bool.true_and, Bool.and_false, Bool.false_and, Bool.and_self, Bool.or_self, Int.cast_ofNat_Int, decide_true, decide_false, Pev.isa_self, Pev.isa_bi, Pev.isa_tl, Pev.isa_lt, Pev.isa_ti, Pev.isa_li, Pev.isa_it, Pev.gAll, Pev.gAny, Pev.gSum, Pev.bls?, Pev.ints?, Pev.eq_ints, Pev.datAll_map, Pev.map_dat, Pev.app_map, Pev.datAll_f, Pev.ints_f, Pev.bls_f, Pev.at0, Pev.at1, Pev.at2, Pev.atLast, Pev.two_small, Pev.three_small, Pev.one_small, Pev.nil_small, Pev.oPart, Pev.toI, Pev.eSl, Pev.gSl, Pev.uRev, List.isEmpty_cons, List.isEmpty_nil, bPow, nz5, nz6, nz7, nz2, true_and, and_self, decide_eq_false h, mulR hc, mulL hd, three]
      all_goals rfl
  have zr : ns.length = 0 ∨ 0 < ns.length := by omega
  have key : ∀ (m1 m2 : SM) (ρ1 : Rho), m1 [some (.ro (ns.map .int)), some (.dat (.int k)), none] S = .nx ρ1 S → (∃ x y, m2 ρ1 S = .rt (.obj S.length) (S ++ [three x y 0])) → ∃ x y, (sCons m1 m2 [some (.ro (ns.map .int)), some (.dat (.int k)), none] S).toF = .ok (.obj S.length) (S ++ [three x y 0]) := by
    intro m1 m2 ρ1 e ⟨x, y, q⟩
    refine ⟨x, y, ?_⟩
    unfold sCons
    rw [e]
    dsimp only
    rw [q]
    rfl
  unfold boxB
  refine key _ _ [some (.ro (ns.map .int)), some (.dat (.int k)), some (.dat (.int (a * k + b)))] (by simp only [Pev.fnB, Pev.OutS.toF, Pev.sCons, Pev.sSet, Pev.sRet, Pev.sRetN, Pev.sIf, Pev.sSkip, Pev.sExpr, Pev.sTgt, Pev.sFor, Pev.sRaise, Pev.sPut, Pev.putAt, Pev.sPar2, Pev.sPar3, Pev.sTry, Pev.hRun, Pev.OutS.fade, Pev.OutS.calm, Pev.Out.toS, Pev.Out.bind, Pev.noX, Pev.eVar, Pev.eC, Pev.eBin, Pev.eUn, Pev.eArgs, Pev.aCons, Pev.aNil, Pev.needN, Pev.eAnd, Pev.eOr, Pev.eNot, Pev.eIf, Pev.mAnd, Pev.mOr, Pev.mNot, Pev.mB, Pev.mT, Pev.eChain, Pev.truth, Pev.ans, Pev.ofT, Pev.ofB, Pev.bAdd, Pev.bSub, Pev.bMul, Pev.bDiv, Pev.bMod, Pev.bLt, Pev.bLe, Pev.bGt, Pev.bGe, Pev.bIsN, Pev.isNone?, Pev.uNeg, Pev.bIx, Pev.lv, Pev.lvt, Pev.gLen, Pev.gAbs, Pev.gInt, Pev.gBool, Pev.gList, Pev.gTuple, Pev.gTup, Pev.gLst, Pev.newL, Pev.newT, Pev.datAll, Pev.R.d?, Pev.uIs, Pev.tyOf, Pev.eLc, Pev.iOf, Pev.itOf, Pev.iArgs, Pev.gRange1, Pev.gRange2, Pev.gN, Pev.gTp, Pev.gsCons, Pev.gsNil, Pev.tv, Pev.eBMl, Pev.gAppend, Pev.gPop, Pev.gExtend, Pev.cellOf, Pev.eFld, Pev.tYes', Pev.wipeR, Pev.permL, List.map_cons, List.map_nil, List.length_cons, List.length_nil, List.cons_append, List.nil_append, List.append_nil, List.replicate, List.getElem?_cons_zero, List.getElem?_cons_succ, List.getElem?_nil, List.set_cons_zero, List.set_cons_succ, List.set_nil, List.filterMap_cons, List.filterMap_nil, Option.map_some, Option.map_none, Option.bind_some, Option.bind_none, if_true, if_false, Bool.not_true, Bool.not_false, Nat.reduceSub, Nat.reduceAdd, Nat.reduceEqDiff, Nat.reduceLeDiff, reduceIte, ite_true, ite_false, Bool.true_eq_false, Bool.false_eq_true, ↓reduceIte, Nat.zero_add, Nat.add_zero, Nat.sub_zero, Pev.outD_dat, Pev.snap_dat, Pev.outX, List.any_cons, List.any_nil, List.all_cons, List.all_nil, id_eq, Bool.or_false, Bool.or_true, Bool.true_or, Bool.false_or, Bool.and_true, Bool.true_and, Bool.and_false, Bool.false_and, Bool.and_self, Bool.or_self, Int.cast_ofNat_Int, decide_true, decide_false, Pev.isa_self, Pev.isa_bi, Pev.isa_tl, Pev.isa_lt, Pev.isa_ti, Pev.isa_li, Pev.isa_it, Pev.gAll, Pev.gAny, Pev.gSum, Pev.bls?, Pev.ints?, Pev.eq_ints, Pev.datAll_map, Pev.map_dat, Pev.app_map, Pev.datAll_f, Pev.ints_f, Pev.bls_f, Pev.at0, Pev.at1, Pev.at2, Pev.atLast, Pev.two_small, Pev.three_small, Pev.one_small, Pev.nil_small, Pev.oPart, Pev.toI, Pev.eSl, Pev.gSl, Pev.uRev, List.isEmpty_cons, List.isEmpty_nil, mulL ha]) ?_
  suffices mid : ∃ cell : Int, (sIf (mB (eBin bLt (eVar 1) (eArgs gLen (aCons (eVar 0) aNil)))) (sSet 2 (eArgs gAbs (aCons (eBin bIx (eVar 0) (eVar 1)) aNil))) (sIf (mB (eBin bGt (eArgs gLen (aCons (eVar 0) aNil)) (eC (.int 0)))) (sSet 2 (eBin (bAdd false) (eVar 2) (eBin (bMul false) (eBin bMod (eArgs gInt (aCons (eArgs gAbs (aCons (eBin bIx (eVar 0) (eBin bMod (eArgs gInt (aCons (eVar 1) aNil)) (eArgs gLen (aCons (eVar 0) aNil)))) aNil)) aNil)) (eC (.int 2147483629))) (eC (.int m))))) sSkip))
      [some (.ro (ns.map .int)), some (.dat (.int k)), some (.dat (.int (a * k + b)))] S = .nx [some (.ro (ns.map .int)), some (.dat (.int k)), some (.dat (.int cell))] S by
    obtain ⟨cell, q⟩ := mid
    obtain ⟨x, y, z⟩ := fin cell
    refine ⟨x, y, ?_⟩
    unfold sCons
    rw [q]
    exact z
  have sz : (ns.length ≤ sizeLine) = True := eq_true (Nat.le_trans hl (by decide))
  by_cases h1 : (k : Int) < (ns.length : Int)
  · have hg : ns[k]? = some (ns[k]'(by omega)) := List.getElem?_eq_getElem (by omega)
    have hat := at_map (f := fun i => R.dat (.int i)) (xs := ns) (i := (k : Int)) (x := ns[k]'(by omega)) (by omega) (by simpa using hg)
    refine ⟨if ns[k]'(by omega) < 0 then -ns[k]'(by omega) else ns[k]'(by omega), ?_⟩
    simp only [Pev.fnB, Pev.OutS.toF, Pev.sCons, Pev.sSet, Pev.sRet, Pev.sRetN, Pev.sIf, Pev.sSkip, Pev.sExpr, Pev.sTgt, Pev.sFor, Pev.sRaise, Pev.sPut, Pev.putAt, Pev.sPar2, Pev.sPar3, Pev.sTry, Pev.hRun, Pev.OutS.fade, Pev.OutS.calm, Pev.Out.toS, Pev.Out.bind, Pev.noX, Pev.eVar, Pev.eC, Pev.eBin, Pev.eUn, Pev.eArgs, Pev.aCons, Pev.aNil, Pev.needN, Pev.eAnd, Pev.eOr, Pev.eNot, Pev.eIf, Pev.mAnd, Pev.mOr, Pev.mNot, Pev.mB, Pev.mT, Pev.eChain, Pev.truth, Pev.ans, Pev.ofT, Pev.ofB, Pev.bAdd, Pev.bSub, Pev.bMul, Pev.bDiv, Pev.bMod, Pev.bLt, Pev.bLe, Pev.bGt, Pev.bGe, Pev.bIsN, Pev.isNone?, Pev.uNeg, Pev.bIx, Pev.lv, Pev.lvt, Pev.gLen, Pev.gAbs, Pev.gInt, Pev.gBool, Pev.gList, Pev.gTuple, Pev.gTup, Pev.gLst, Pev.newL, Pev.newT, Pev.datAll, Pev.R.d?, Pev.uIs, Pev.tyOf, Pev.eLc, Pev.iOf, Pev.itOf, Pev.iArgs, Pev.gRange1, Pev.gRange2, Pev.gN, Pev.gTp, Pev.gsCons, Pev.gsNil, Pev.tv, Pev.eBMl, Pev.gAppend, Pev.gPop, Pev.gExtend, Pev.cellOf, Pev.eFld, Pev.tYes', Pev.wipeR, Pev.permL, List.map_cons, List.map_nil, List.length_cons, List.length_nil, List.cons_append, List.nil_append, List.append_nil, List.replicate, List.getElem?_cons_zero, List.getElem?_cons_succ, List.getElem?_nil, List.set_cons_zero, List.set_cons_succ, List.set_nil, List.filterMap_cons, List.filterMap_nil, Option.map_some, Option.map_none, Option.bind_some, Option.bind_none, if_true, if_false, Bool.not_true, Bool.not_false, Nat.reduceSub, Nat.reduceAdd, Nat.reduceEqDiff, Nat.reduceLeDiff, reduceIte, ite_true, ite_false, Bool.true_eq_false, Bool.false_eq_true, ↓reduceIte, Nat.zero_add, Nat.add_zero, Nat.sub_zero, Pev.outD_dat, Pev.snap_dat, Pev.outX, List.any_cons, List.any_nil, List.all_cons, List.all_nil, id_eq, Bool.or_false, Bool.or_true, Bool.true_or, Bool.false_or, Bool.and_true, Bool.true_and, Bool.and_false, Bool.false_and, Bool.and_self, Bool.or_self, Int.cast_ofNat_Int, decide_true, decide_false, Pev.isa_self, Pev.isa_bi, Pev.isa_tl, Pev.isa_lt, Pev.isa_ti, Pev.isa_li, Pev.isa_it, Pev.gAll, Pev.gAny, Pev.gSum, Pev.bls?, Pev.ints?, Pev.eq_ints, Pev.datAll_map, Pev.map_dat, Pev.app_map, Pev.datAll_f, Pev.ints_f, Pev.bls_f, Pev.at0, Pev.at1, Pev.at2, Pev.atLast, Pev.two_small, Pev.three_small, Pev.one_small, Pev.nil_small, Pev.oPart, Pev.toI, Pev.eSl, Pev.gSl, Pev.uRev, List.isEmpty_cons, List.isEmpty_nil, List.length_map, decide_eq_true h1, hat, sz]
  · rcases zr with z | z
    · refine ⟨a * k + b, ?_⟩
      have e0 : ns = [] := List.eq_nil_of_length_eq_zero z
      subst e0
      simp only [Pev.fnB, Pev.OutS.toF, Pev.sCons, Pev.sSet, Pev.sRet, Pev.sRetN, Pev.sIf, Pev.sSkip, Pev.sExpr, Pev.sTgt, Pev.sFor, Pev.sRaise, Pev.sPut, Pev.putAt, Pev.sPar2, Pev.sPar3, Pev.sTry, Pev.hRun, Pev.OutS.fade, Pev.OutS.calm, Pev.Out.toS, Pev.Out.bind, Pev.noX, Pev.eVar, Pev.eC, Pev.eBin, Pev.eUn, Pev.eArgs, Pev.aCons, Pev.aNil, Pev.needN, Pev.eAnd, Pev.eOr, Pev.eNot, Pev.eIf, Pev.mAnd, Pev.mOr, Pev.mNot, Pev.mB, Pev.mT, Pev.eChain, Pev.truth, Pev.ans, Pev.ofT, Pev.ofB, Pev.bAdd, Pev.bSub, Pev.bMul, Pev.bDiv, Pev.bMod, Pev.bLt, Pev.bLe, Pev.bGt, Pev.bGe, Pev.bIsN, Pev.isNone?, Pev.uNeg, Pev.bIx, Pev.lv, Pev.lvt, Pev.gLen, Pev.gAbs, Pev.gInt, Pev.gBool, Pev.gList, Pev.gTuple, Pev.gTup, Pev.gLst, Pev.newL, Pev.newT, Pev.datAll, Pev.R.d?, Pev.uIs, Pev.tyOf, Pev.eLc, Pev.iOf, Pev.itOf, Pev.iArgs, Pev.gRange1, Pev.gRange2, Pev.gN, Pev.gTp, Pev.gsCons, Pev.gsNil, Pev.tv, Pev.eBMl, Pev.gAppend, Pev.gPop, Pev.gExtend, Pev.cellOf, Pev.eFld, Pev.tYes', Pev.wipeR, Pev.permL, List.map_cons, List.map_nil, List.length_cons, List.length_nil, List.cons_append, List.nil_append, List.append_nil, List.replicate, List.getElem?_cons_zero, List.getElem?_cons_succ, List.getElem?_nil, List.set_cons_zero, List.set_cons_succ, List.set_nil, List.filterMap_cons, List.filterMap_nil, Option.map_some, Option.map_none, Option.bind_some, Option.bind_none, if_true, if_false, Bool.not_true, Bool.not_false, Nat.reduceSub, Nat.reduceAdd, Nat.reduceEqDiff, Nat.reduceLeDiff, reduceIte, ite_true, ite_false, Bool.true_eq_false, Bool.false_eq_true, ↓reduceIte, Nat.zero_add, Nat.add_zero, Nat.sub_zero, Pev.outD_dat, Pev.snap_dat, Pev.outX, List.any_cons, List.any_nil, List.all_cons, List.all_nil, id_eq, Bool.or_false, Bool.or_true, Bool.true_or, Bool.false_or, Bool.and_true, Bool.true_and, Bool.and_false, Bool.false_and, Bool.and_self, Bool.or_self, Int.cast_ofNat_Int, decide_true, decide_false, Pev.isa_self, Pev.isa_bi, Pev.isa_tl, Pev.isa_lt, Pev.isa_ti, Pev.isa_li, Pev.isa_it, Pev.gAll, Pev.gAny, Pev.gSum, Pev.bls?, Pev.ints?, Pev.eq_ints, Pev.datAll_map, Pev.map_dat, Pev.app_map, Pev.datAll_f, Pev.ints_f, Pev.bls_f, Pev.at0, Pev.at1, Pev.at2, Pev.atLast, Pev.two_small, Pev.three_small, Pev.one_small, Pev.nil_small, Pev.oPart, Pev.toI, Pev.eSl, Pev.gSl, Pev.uRev, List.isEmpty_cons, List.isEmpty_nil, List.length_map, decide_eq_false h1]
      all_goals rfl
    · have hp : (0 : Int) < (ns.length : Int) := by omega
      obtain ⟨g1, g2⟩ := fmod_in (x := (k : Int)) hp
      have hg : ns[((k : Int).fmod ns.length).toNat]? = some (ns[((k : Int).fmod ns.length).toNat]'(by omega)) := List.getElem?_eq_getElem (by omega)
      have hat := at_map (f := fun i => R.dat (.int i)) (xs := ns) (i := (k : Int).fmod ns.length) (x := ns[((k : Int).fmod ns.length).toNat]'(by omega)) g1 hg
      have nz : ((ns.length : Int) ≠ 0) = True := eq_true (by omega)
      refine ⟨a * k + b + (if ns[((k : Int).fmod ns.length).toNat]'(by omega) < 0 then -ns[((k : Int).fmod ns.length).toNat]'(by omega) else ns[((k : Int).fmod ns.length).toNat]'(by omega)).fmod 2147483629 * m, ?_⟩
      simp only [Pev.fnB, Pev.OutS.toF, Pev.sCons, Pev.sSet, Pev.sRet, Pev.sRetN, Pev.sIf, Pev.sSkip, Pev.sExpr, Pev.sTgt, Pev.sFor, Pev.sRaise, Pev.sPut, Pev.putAt, Pev.sPar2, Pev.sPar3, Pev.sTry, Pev.hRun, Pev.OutS.fade, Pev.OutS.calm, Pev.Out.toS, Pev.Out.bind, Pev.noX, Pev.eVar, Pev.eC, Pev.eBin, Pev.eUn, Pev.eArgs, Pev.aCons, Pev.aNil, Pev.needN, Pev.eAnd, Pev.eOr, Pev.eNot, Pev.eIf, Pev.mAnd, Pev.mOr, Pev.mNot, Pev.mB, Pev.mT, Pev.eChain, Pev.truth, Pev.ans, Pev.ofT, Pev.ofB, Pev.bAdd, Pev.bSub, Pev.bMul, Pev.bDiv, Pev.bMod, Pev.bLt, Pev.bLe, Pev.bGt, Pev.bGe, Pev.bIsN, Pev.isNone?, Pev.uNeg, Pev.bIx, Pev.lv, Pev.lvt, Pev.gLen, Pev.gAbs, Pev.gInt, Pev.gBool, Pev.gList, Pev.gTuple, Pev.gTup, Pev.gLst, Pev.newL, Pev.newT, Pev.datAll, Pev.R.d?, Pev.uIs, Pev.tyOf, Pev.eLc, Pev.iOf, Pev.itOf, Pev.iArgs, Pev.gRange1, Pev.gRange2, Pev.gN, Pev.gTp, Pev.gsCons, Pev.gsNil, Pev.tv, Pev.eBMl, Pev.gAppend, Pev.gPop, Pev.gExtend, Pev.cellOf, Pev.eFld, Pev.tYes', Pev.wipeR, Pev.permL, List.map_cons, List.map_nil, List.length_cons, List.length_nil, List.cons_append, List.nil_append, List.append_nil, List.replicate, List.getElem?_cons_zero, List.getElem?_cons_succ, List.getElem?_nil, List.set_cons_zero, List.set_cons_succ, List.set_nil, List.filterMap_cons, List.filterMap_nil, Option.map_some, Option.map_none, Option.bind_some, Option.bind_none, if_true, if_false, Bool.not_true, Bool.not_false, Nat.reduceSub, Nat.reduceAdd, Nat.reduceEqDiff, Nat.reduceLeDiff, reduceIte, ite_true, ite_false, Bool.true_eq_false, Bool.false_eq_true, ↓reduceIte, Nat.zero_add, Nat.add_zero, Nat.sub_zero, Pev.outD_dat, Pev.snap_dat, Pev.outX, List.any_cons, List.any_nil, List.all_cons, List.all_nil, id_eq, Bool.or_false, Bool.or_true, Bool.true_or, Bool.false_or, Bool.and_true, Bool.true_and, Bool.and_false, Bool.false_and, Bool.and_self, Bool.or_self, Int.cast_ofNat_Int, decide_true, decide_false, Pev.isa_self, Pev.isa_bi, Pev.isa_tl, Pev.isa_lt, Pev.isa_ti, Pev.isa_li, Pev.isa_it, Pev.gAll, Pev.gAny, Pev.gSum, Pev.bls?, Pev.ints?, Pev.eq_ints, Pev.datAll_map, Pev.map_dat, Pev.app_map, Pev.datAll_f, Pev.ints_f, Pev.bls_f, Pev.at0, Pev.at1, Pev.at2, Pev.atLast, Pev.two_small, Pev.three_small, Pev.one_small, Pev.nil_small, Pev.oPart, Pev.toI, Pev.eSl, Pev.gSl, Pev.uRev, List.isEmpty_cons, List.isEmpty_nil, List.length_map, decide_eq_false h1, decide_eq_true hp, hat, nz, nz2, mulR hm, sz]
def takeF (p q r s t : Int) : FM := fnB 4 (takeB p q r s t)
def pickB (p q r s t : Int) : SM := (sRet (eBin bIx (eVar 1) (eArgs (needN 2 (takeF p q r s t)) (aCons (eVar 0) (aCons (eArgs gLen (aCons (eVar 1) aNil)) aNil)))))
theorem pick_ok {p q r s t : Int} (hp : small p = true) (hq : small q = true) (hs : small s = true) {S : Sto} {k : Nat} {a b c : Int} (hS : S[k]? = some (three a b c)) {ds : List PyData} (h0 : 0 < ds.length) (hb : ds.length < 1000000) :
    ∃ d a' b' c', d ∈ ds ∧ fnB 2 (pickB p q r s t) [.obj k, .dat (.list ds)] S = .ok (.dat d) (S.set k (three a' b' c')) := by
  obtain ⟨x, a', b', c', x0, x1, e⟩ := take_ok (r := r) (t := t) hp hq hs hS (many := (ds.length : Int)) (by omega) (by omega)
  change takeF p q r s t _ _ = _ at e
  have sz : (ds.length ≤ sizeLine) = True := eq_true (Nat.le_trans (Nat.le_of_lt hb) (by decide))
  have hg : ds[x.toNat]? = some (ds[x.toNat]'(by omega)) := List.getElem?_eq_getElem (by omega)
  have hat := at_map (f := R.dat) (xs := ds) (i := x) x0 hg
  refine ⟨ds[x.toNat]'(by omega), a', b', c', List.getElem_mem _, ?_⟩
  unfold pickB
  simp only [Pev.fnB, Pev.OutS.toF, Pev.sCons, Pev.sSet, Pev.sRet, Pev.sRetN, Pev.sIf, Pev.sSkip, Pev.sExpr, Pev.sTgt, Pev.sFor, Pev.sRaise, Pev.sPut, Pev.putAt, Pev.sPar2, Pev.sPar3, Pev.sTry, Pev.hRun, Pev.OutS.fade, Pev.OutS.calm, Pev.Out.toS, Pev.Out.bind, Pev.noX, Pev.eVar, Pev.eC, Pev.eBin, Pev.eUn, Pev.eArgs, Pev.aCons, Pev.aNil, Pev.needN, Pev.eAnd, Pev.eOr, Pev.eNot, Pev.eIf, Pev.mAnd, Pev.mOr, Pev.mNot, Pev.mB, Pev.mT, Pev.eChain, Pev.truth, Pev.ans, Pev.ofT, Pev.ofB, Pev.bAdd, Pev.bSub, Pev.bMul, Pev.bDiv, Pev.bMod, Pev.bLt, Pev.bLe, Pev.bGt, Pev.bGe, Pev.bIsN, Pev.isNone?, Pev.uNeg, Pev.bIx, Pev.lv, Pev.lvt, Pev.gLen, Pev.gAbs, Pev.gInt, Pev.gBool, Pev.gList, Pev.gTuple, Pev.gTup, Pev.gLst, Pev.newL, Pev.newT, Pev.datAll, Pev.R.d?, Pev.uIs, Pev.tyOf, Pev.eLc, Pev.iOf, Pev.itOf, Pev.iArgs, Pev.gRange1, Pev.gRange2, Pev.gN, Pev.gTp, Pev.gsCons, Pev.gsNil, Pev.tv, Pev.eBMl, Pev.gAppend, Pev.gPop, Pev.gExtend, Pev.cellOf, Pev.eFld, Pev.tYes', Pev.wipeR, Pev.permL, List.map_cons, List.map_nil, List.length_cons, List.length_nil, List.cons_append, List.nil_append, List.append_nil, List.replicate, List.getElem?_cons_zero, List.getElem?_cons_succ, List.getElem?_nil, List.set_cons_zero, List.set_cons_succ, List.set_nil, List.filterMap_cons, List.filterMap_nil, Option.map_some, Option.map_none, Option.bind_some, Option.bind_none, if_true, if_false, Bool.not_true, Bool.not_false, Nat.reduceSub, Nat.reduceAdd, Nat.reduceEqDiff, Nat.reduceLeDiff, reduceIte, ite_true, ite_false, Bool.true_eq_false, Bool.false_eq_true, ↓reduceIte, Nat.zero_add, Nat.add_zero, Nat.sub_zero, Pev.outD_dat, Pev.snap_dat, Pev.outX, List.any_cons, List.any_nil, List.all_cons, List.all_nil, id_eq, Bool.or_false, Bool.or_true, Bool.true_or, Bool.false_or, Bool.and_true, Bool.true_and, Bool.and_false, Bool.false_and, Bool.and_self, Bool.or_self, Int.cast_ofNat_Int, decide_true, decide_false, Pev.isa_self, Pev.isa_bi, Pev.isa_tl, Pev.isa_lt, Pev.isa_ti, Pev.isa_li, Pev.isa_it, Pev.gAll, Pev.gAny, Pev.gSum, Pev.bls?, Pev.ints?, Pev.eq_ints, Pev.datAll_map, Pev.map_dat, Pev.app_map, Pev.datAll_f, Pev.ints_f, Pev.bls_f, Pev.at0, Pev.at1, Pev.at2, Pev.atLast, Pev.two_small, Pev.three_small, Pev.one_small, Pev.nil_small, Pev.oPart, Pev.toI, Pev.eSl, Pev.gSl, Pev.uRev, List.isEmpty_cons, List.isEmpty_nil, List.length_map, sz, e, hat]
end Pev
/-! Pev: the law's call, in a room in which no repr is under way. -/
namespace Pev
open PySem PySem.Spec
open PyProof.Rows L2
section
variable {P : Program} {w : World} {K : PySem.W.Frag} {h : Heap} {a : Addr} {us : List Value} {ns : List Int}
/-- the script as the only thing that may be tracked -/
theorem script_heap (KX : K.In h) (at_ : h.get? a = some { cls := .type "list", data := .seq us.toArray }) (hi : IntsAre us ns) (hl : ns.length ≤ sizeLine) :
    ∃ H : Hp, (∀ b u, H b = some u → b = a ∧ K.lookup a = none ∧ ∃ o xs, u = .frz o (.lst xs)) ∧ SqL K H a (ns.map V.int) ∧ HOk P w H h := by
  have rv := vals_ints hi
  cases hk : K.lookup a with
  | some o =>
    have e := KX a o hk
    rw [at_] at e
    cases e
    exact ⟨fun _ => none, fun b u z => (by cases z), .inr ⟨_, us.toArray, _, hk, rfl, rfl, rfl, by rw [List.size_toArray, hi.length]; exact hl, by simpa using rv⟩, fun b u z => (by cases z)⟩
  | none =>
    have one : ∀ b u, (if b = a then some (HO.frz { cls := .type "list", data := .seq us.toArray } (.lst (ns.map V.int))) else none) = some u → b = a ∧ u = HO.frz { cls := .type "list", data := .seq us.toArray } (.lst (ns.map V.int)) := fun b u z => by
      split at z
      · rename_i e
        exact ⟨e, (Option.some.inj z).symm⟩
      · cases z
    refine ⟨fun b => if b = a then some (.frz { cls := .type "list", data := .seq us.toArray } (.lst (ns.map V.int))) else none, fun b u z => ?_, .inl (.inr ⟨_, if_pos rfl⟩), fun b u z => ?_⟩
    · obtain ⟨rfl, rfl⟩ := one b u z
      exact ⟨rfl, rfl, _, _, rfl⟩
    · obtain ⟨rfl, rfl⟩ := one b u z
      exact ⟨at_, by rw [List.length_map]; exact hl, us, _, rv, at_⟩
end
end Pev
/-! Pev: bits, repr, str, three ints compared, join, list of a range. -/
namespace Pev
open PySem PySem.Spec
open PyProof.Rows L2
section
variable {T : Tb}
/-! ### bits -/
/-! ### min, max of three ints -/
def gMin3 (xs : List R) (S : Sto) : Out R := match xs with
  | [.dat (.int i), .dat (.int j), .dat (.int k)] => ans (.int (min (min i j) k)) S
  | _ => .stuck
theorem vrs3 {K : Tb} {β : List Addr} {α : List (Option Addr)} {H : Hp} {x y z : R} {vs : List V} (h : Vrs K β α H [x, y, z] vs) : ∃ u v w, vs = [u, v, w] ∧ Vr K β α H x u ∧ Vr K β α H y v ∧ Vr K β α H z w := by
  cases h with
  | cons h1 h =>
    cases h with
    | cons h2 h =>
      cases h with
      | cons h3 h =>
        cases h
        exact ⟨_, _, _, rfl, h1, h2, h3⟩
theorem min3_nu (i j k : Int) : nuMin3 (.int i) (.int j) (.int k) = some (.int (min (min i j) k)) := by
  have two : ∀ a b : Int, nuMin2 (.int a) (.int b) = some (.int (min a b)) := fun a b => by
    simp only [nuMin2, nuLt, nuCB, Option.map_some]
    rcases (show b < a ∨ a ≤ b by omega) with h | h
    · rw [decide_eq_true h, if_pos rfl, Int.min_eq_right (Int.le_of_lt h)]
    · rw [decide_eq_false (by omega), if_neg (by simp), Int.min_eq_left h]
  unfold nuMin3
  rw [two, Option.bind_some, two]
theorem snd_min3 : SndA T (rNuC3 nuMin3) gMin3 := by
  intro β W σ α S H xs vs Q Rr hx h
  unfold gMin3 at h
  split at h
  · obtain ⟨u, v, w, rfl, h1, h2, h3⟩ := vrs3 hx
    cases vr_int h1; cases vr_int h2; cases vr_int h3
    exact ⟨_, _, _, _, rfl, min3_nu _ _ _, ans_int Rr h⟩
  · exact h.elim
/-! ### join -/
def strs? : List R → Option (List Str)
  | [] => some []
  | .dat (.str i) :: rs => (strs? rs).map (i :: ·)
  | _ :: _ => none
theorem strs_ok {K : Tb} {β : List Addr} {α : List (Option Addr)} {H : Hp} : ∀ {rs : List R} {vs : List V} {ns : List Str}, Vrs K β α H rs vs → strs? rs = some ns → vs = ns.map V.str
  | [], _, ns, h, e => by cases h; cases e; rfl
  | r :: rs, _, ns, h, e => by
    cases h with
    | cons h t =>
      cases r with
      | dat d =>
        cases d with
        | str i =>
          cases q : strs? rs with
          | none => simp [strs?, q] at e
          | some ms =>
            simp [strs?, q] at e
            subst e
            rw [vr_str h, strs_ok t q]
            rfl
        | _ => cases e
      | _ => cases e
theorem strs_f {α : Type} (f : α → Str) (xs : List α) : strs? (xs.map fun a => R.dat (.str (f a))) = some (xs.map f) := by
  induction xs with
  | nil => rfl
  | cons a xs ih => rw [List.map_cons]; unfold strs?; rw [ih]; rfl
def gJoin (x : R) (xs : List R) (S : Sto) : Out R := match x, xs with
  | .dat (.str a), [y] => match (lv S y).bind strs? with
    | some ys => if (ys.map (·.length)).sum + ys.length * a.length ≤ 16777216 then ans (.str (Txt.join a ys)) S else .stuck
    | none => .stuck
  | _, _ => .stuck
theorem snd_join : SndM T (fun x xs H Q => ∃ a p, ∃ ys : List Str, x = .str a ∧ xs = [.ref p] ∧ (SqL T.K H p (ys.map V.str) ∨ SqT T.K H p (ys.map V.str)) ∧ (ys.map (·.length)).sum + ys.length * a.length ≤ 16777216 ∧ Q (.str (Txt.join a ys)) H) gJoin := by
  intro β W σ α S H x xs v vs Q Rr hx hxs h
  unfold gJoin at h
  split at h
  · rename_i a y
    cases vr_str hx
    obtain ⟨w, rfl, hw⟩ := vrs1 hxs
    split at h
    · rename_i ys e
      obtain ⟨rs, e1, e2⟩ := Option.bind_eq_some_iff.mp e
      obtain ⟨p, us, rfl, h1, h2⟩ := lv_ok Rr hw e1
      cases strs_ok h2 e2
      split at h
      · rename_i hz
        exact ⟨_, p, ys, rfl, rfl, .inl h1, hz, h α H _ Ext.refl Rr (.str _)⟩
      · exact h.elim
    · exact h.elim
  · exact h.elim
/-! ### repr, str -/
end
section
variable {K : PySem.W.Frag} {H : Hp}
mutual
theorem Dp.noDict : ∀ {v : V} {d : PyData}, Dp K H v d → d.hasDict = false
  | _, _, .non => by unfold PyData.hasDict; rfl
  | _, _, .bl _ => by unfold PyData.hasDict; rfl
  | _, _, .int _ => by unfold PyData.hasDict; rfl
  | _, _, .str _ => by unfold PyData.hasDict; rfl
  | _, _, .lst _ h => by unfold PyData.hasDict; exact DpAll.noDict h
  | _, _, .tup _ h => by unfold PyData.hasDict; exact DpAll.noDict h
theorem DpAll.noDict : ∀ {vs : List V} {ds : List PyData}, DpAll K H vs ds → PyData.hasDictAll ds = false
  | _, _, .nil => by unfold PyData.hasDictAll; rfl
  | _, _, .cons h t => by unfold PyData.hasDictAll; rw [Dp.noDict h, DpAll.noDict t]; rfl
end
end
section
variable {X : Cx} {k : Nat}
end
/-! ### list(range(..)) -/
def rgL (own : Bool) (i j : Int) (S : Sto) : Out R := if inR i && (inR j && decide ((j - i).toNat ≤ 16777216)) then newL own (rangeR i (j - i).toNat) S else .stuck
def gLR1 (own : Bool) (xs : List R) (S : Sto) : Out R := match xs with
  | [.dat (.int j)] => rgL own 0 j S
  | _ => .stuck
section
variable {X : Cx} {T : Tb} {W : WX} {a b : Expr} {ma mb : EM}
theorem vrs_rg {K : Tb} {β : List Addr} {α : List (Option Addr)} {H : Hp} (i j : Int) : Vrs K β α H (rangeR i (j - i).toNat) (rgV i j) := by
  unfold rangeR rgV
  generalize List.range (j - i).toNat = l
  induction l with
  | nil => exact .nil
  | cons n l ih => exact .cons (.int _) ih
theorem rgL_ok {β : List Addr} {α : List (Option Addr)} {S : Sto} {H : Hp} {σ : L2.St} {Q : VK} {own : Bool} {i j : Int} (Rr : Rl T β α S H) (h : PostG T β W (Vr T β) σ (rgL own i j S) α H Q) : RgOk i j ∧ ∀ q, H q = none → Q (.ref q) (upd H q (.lst (rgV i j))) := by
  unfold rgL at h
  split at h
  · rename_i hc
    obtain ⟨h1, h2⟩ := Bool.and_eq_true_iff.mp hc
    obtain ⟨h3, h4⟩ := Bool.and_eq_true_iff.mp h2
    have h1 := of_decide_eq_true h1
    have h3 := of_decide_eq_true h3
    have h4 := of_decide_eq_true h4
    exact ⟨⟨by omega, by omega, by omega, by omega, by omega⟩, fun q hq => newL_ok Rr hq (vrs_rg i j) h⟩
  · exact h.elim
theorem te_mono {m : EM} {σ : L2.St} {H : Hp} {Q Q2 : VK} (h : tE T W m σ H Q) (i : ∀ v H1, Q v H1 → Q2 v H1) : tE T W m σ H Q2 := by
  obtain ⟨β, α, S, ρ, hR, hE, h⟩ := h
  refine ⟨β, α, S, ρ, hR, hE, ?_⟩
  cases q : m ρ S with
  | ok x S1 => rw [q] at h; exact fun α1 H1 v e r z => i _ _ (h α1 H1 v e r z)
  | exc c f S1 => rw [q] at h; exact h
  | stuck => rw [q] at h; exact h
theorem anil_le {σ : L2.St} {H : Hp} {P : List V → Hp → Prop} (h : tA T W aNil σ H P) : P [] H := by
  obtain ⟨_, _, _, _, hR, _, h⟩ := h
  exact h _ H [] Ext.refl hR .nil
theorem tr_lr1 (own : Bool) {p p2 pos pos2 : Pos} (hc : X.calm = true) (hg : Gl X "list") (hm : X.mg "list" = none) (hg2 : Gl X "range") (hm2 : X.mg "range" = none) (ha : PE X a (tE T W ma)) (na : starEach [a] X.env = (false, eval a X.env) :: starEach [] X.env := by rfl)
    (nr : starEach [.Call (.Name "range" p) [a] [] pos] X.env = (false, eval (.Call (.Name "range" p) [a] [] pos) X.env) :: starEach [] X.env := by rfl) :
    PE X (.Call (.Name "list" p2) [.Call (.Name "range" p) [a] [] pos] [] pos2) (tE T W (eArgs (gLR1 own) (aCons ma aNil))) :=
  pe_le (pe_listRg hc hg hm (prg_1 hg2 hm2 ha na) nr) fun σ H Q h => by
    have h2 : tA T W (aCons ma aNil) σ H fun vs H1 => ∃ n, vs = [V.int n] ∧ RgOk 0 n ∧ ∀ q, H1 q = none → Q (.ref q) (upd H1 q (.lst (rgV 0 n))) := args_go h fun β α S rs vs H1 hR hV h1 => by
      unfold gLR1 at h1
      split at h1
      · obtain ⟨v, rfl, hv⟩ := vrs1 hV
        cases vr_int hv
        exact ⟨_, rfl, rgL_ok hR h1⟩
      · exact h1.elim
    exact te_mono (acons_le h2) fun v H1 z => by
      obtain ⟨n, e, z2⟩ := anil_le z
      cases e
      exact ⟨n, rfl, z2⟩
end
/-! ### two texts compared, whatever signs they have -/
end Pev
/-! Pev: enumerate of a text. -/
namespace Pev
open PySem PySem.Spec
open PyProof.Rows L2
/-- the signs of a text, in new pairs -/
def ItQ (z : Str) : It :=
  ⟨fun i _ => i < z.cps.size, fun i H v H2 => ∃ T c, v = .ref T ∧ H T = none ∧ H2 = upd H T (.tup [.int (i : Nat), .str ⟨#[c]⟩]) ∧ z.cps[i]? = some c, fun i _ => z.cps.size = i⟩
theorem turn_signs {P : Program} {w : World} {K : PySem.W.Frag} {elts : List Expr} {kk : Nat} {tpos : Pos} (e it : Addr) (z : Str) (t : Tok) :
    Turn P w K (.Tuple elts kk tpos) (ItQ z) [e, it] e (fun i h => (∃ old, IsEnum h e it ((i : Nat) : Int) old) ∧ h.IsStrIter it (strIterType z) z t i ∧ e ≠ it) where
  mem := by simp
  obj := fun i h st b hb => by
    obtain ⟨⟨old, q1⟩, ⟨o, q2, q3, q4⟩, _⟩ := st
    rcases (show b = e ∨ b = it by simpa using hb) with y | y
    · subst y
      exact ⟨_, q1, fun v q => nomatch q⟩
    · subst y
      exact ⟨o, q2, fun v q => by rw [q4] at q; cases q⟩
  keep := fun i h h2 st k => by
    obtain ⟨⟨old, q1⟩, ⟨o, q2, q3⟩, ne⟩ := st
    exact ⟨⟨old, k e (by simp) _ q1⟩, ⟨o, k it (by simp) o q2, q3⟩, ne⟩
  item := by
    intro X e1 e2 e3 hcalm i pn s σ H E I foot st lt
    subst e1 e2 e3
    obtain ⟨⟨old, q1⟩, q2, ne⟩ := st
    have le1 : e < s.heap.objs.size := Heap.lt_size q1
    have le2 : it < s.heap.objs.size := by obtain ⟨_, y, _⟩ := q2; exact Heap.lt_size y
    refine wpAny_pyNext_enum_itemC (Draws.text (A := X.A.in1) (by exact I.ok.hd hcalm) it z t) q1 q2 lt ne (by simpa using ne) fun y h1 tk sign out st1 tup _ kp => ?_
    obtain ⟨c, u, hc, rfl⟩ := sign
    refine ⟨_, rfl, wpAny_letOwnedTupleGo_enum (s := { s with heap := h1, toks := tk + 1 }) out fun h2 q3 same => ?_⟩
    have tup2 : h2.get? s.heap.objs.size = some { cls := .type "tuple", data := .seq #[.int i tk, .str ⟨#[c]⟩ u] } := (same.2 _ (Nat.ne_of_gt le1)).trans tup
    have obj : ObjOk X.prog X.w (upd H s.heap.objs.size (.tup [.int (i : Nat), .str ⟨#[c]⟩])) h2 s.heap.objs.size (.tup [.int (i : Nat), .str ⟨#[c]⟩]) :=
      ⟨by show 2 ≤ sizeLine; decide, [.int i tk, .str ⟨#[c]⟩ u], .cons ⟨_, rfl⟩ (.cons ⟨_, rfl⟩ .nil), ⟨_, tup2, rfl, _, rfl⟩⟩
    have J : Inv X pn σ (upd H s.heap.objs.size (.tup [.int (i : Nat), .str ⟨#[c]⟩])) { s with heap := h2, toks := tk + 1 } :=
      I.turnedNew (ch := [e, it]) (fun b ob hb q => by
        have n1 : b ≠ e := fun y => hb (by simp [y])
        have n2 : b ≠ it := fun y => hb (by simp [y])
        exact (same.2 b n1).trans (kp b ob n1 n2 q)) foot (Nat.le_refl _) obj
    have st2 : h2.IsStrIter it (strIterType z) z t (i + 1) := by
      obtain ⟨o, y1, y2⟩ := st1
      exact ⟨o, (same.2 it (Ne.symm ne)).trans y1, y2⟩
    refine ⟨.ref s.heap.objs.size, _, J, rfl, ⟨_, c, rfl, I.hok.fresh (Nat.le_refl _), rfl, hc⟩, ⟨⟨_, show IsEnum h2 e it (((i + 1 : Nat)) : Int) _ from by rw [show (((i + 1 : Nat)) : Int) = (i : Int) + 1 by omega]; exact q3⟩, st2, ne⟩, fun b hb => ?_⟩
    have lb : b < s.heap.objs.size := by
      rcases (show b = e ∨ b = it by simpa using hb) with y | y <;> rw [y] <;> assumption
    rw [upd_ne (Nat.ne_of_lt lb)]
    exact (foot b hb).1
  done := by
    intro X e1 e2 e3 hcalm i pn s σ H E I foot st en
    subst e1 e2 e3
    obtain ⟨⟨old, q1⟩, q2, ne⟩ := st
    obtain ⟨f0, f1, f2, f3, f4, f5⟩ := foot it (by simp)
    exact wpAny_pyNext_enum_endD (Draws.text (A := X.A.in1) (by exact I.ok.hd hcalm) it z t) q1 (by rw [show z.cps.size = i from en]; exact q2) fun h1 eb => ⟨rfl, I.turned (t' := s.toks) (fun b o hb q => eb b o hb q) f0 f1 f3 f4 f5⟩
  self := fun A i s Q E st h => by
    obtain ⟨⟨_, q1⟩, _⟩ := st
    exact wpAny_pyIter_enum q1 h
def iSigns (ta : TA) : TI := fun σ H R => ta σ H fun vs H1 => ∃ z, vs = [.str z] ∧ R (ItQ z) H1
theorem pi_signs {X : Cx} {e : Expr} {ta : TA} {p pos tpos : Pos} {elts : List Expr} {kk : Nat} (hg : Gl X "enumerate") (hm : X.mg "enumerate" = none) (ha : PA X [e] ta) (hs : starEach [e] X.env = [(false, eval e X.env)] := by rfl) :
    PI X (.Tuple elts kk tpos) (.Call (.Name "enumerate" p) [e] [] pos) (iSigns ta) := by
  refine ⟨fun pn s σ H R I h => Call_ (ld_blt I hg hm boot_enumerate (PyProof.Rows.callWith_type1 (thn (ha.run pos pn s σ H _ I h) fun us s1 hh => ?_) hs rfl))⟩
  obtain ⟨vs, H1, I1, r1, z, ez, q⟩ := hh
  subst ez
  cases r1 with
  | cons r rr =>
    cases rr
    obtain ⟨t, rfl⟩ := r
    refine pev_enum_call (begins_text z t) trivial fun h1 he hit kp => wpAny_pyIter_enum he ?_
    refine ⟨s1.heap.objs.size + 1, [s1.heap.objs.size + 1, s1.heap.objs.size], _, _, H1, rfl, I1.kept (t' := s1.toks) kp, turn_signs (s1.heap.objs.size + 1) s1.heap.objs.size z t, ⟨⟨.none, he⟩, ⟨_, hit, rfl, rfl⟩, Nat.succ_ne_self _⟩, fun b hb => ?_, q⟩
    have le : s1.heap.objs.size ≤ b := by
      rcases (show b = s1.heap.objs.size + 1 ∨ b = s1.heap.objs.size by simpa using hb) with y | y
      · rw [y]; exact Nat.le_succ _
      · rw [y]; exact Nat.le_refl _
    exact (I1.kept (t' := s1.toks) (h' := s1.heap) fun _ _ x => x).fpOk le (I1.hok.fresh le)
def signs (z : Str) : List PyData := z.cps.toList.map fun c => .str ⟨#[c]⟩
/-- enumerate(x), a text too -/
def gEnumU (xs : List R) (S : Sto) : Out Items := match xs with
  | [.dat (.str z)] => .ok ⟨(pairsF 0 (signs z)).map .dat, []⟩ S
  | xs => gEnum xs S
theorem walkR_signs {K : Tb} {β : List Addr} {α : List (Option Addr)} {H : Hp} {z : Str} : WalkR K β α H ⟨(pairsF 0 (signs z)).map .dat, []⟩ (ItQ z) := by
  refine ⟨fun _ => True, fun i H v H2 => ∃ T c, v = .ref T ∧ H T = none ∧ H2 = upd H T (.tup [.int (i : Nat), .str ⟨#[c]⟩]) ∧ z.cps[i]? = some c, ⟨fun i _ hi _ => ?_, fun _ _ => ?_, fun _ _ _ _ _ _ y => y⟩, fun β' α' S' H' l R' _ => ⟨trivial, fun i x H'' yy => ?_⟩⟩
  · rw [List.length_map, pairsF_len] at hi
    show i < z.cps.size
    simpa [signs] using hi
  · show z.cps.size = _
    rw [List.length_map, pairsF_len]
    simp [signs]
  · obtain ⟨T0, c, e1, e2, e3, e4⟩ := yy
    refine new_pair R' e1 e2 e3 fun d hd => ?_
    unfold signs at hd
    rw [List.getElem?_map, Array.getElem?_toList, e4] at hd
    cases hd
    exact .str _
theorem ti_enumU {X : Cx} {T : Tb} {W : WX} (hK : X.K = T.K) {e : Expr} {ms : EMs} {p pos tpos : Pos} {elts : List Expr} {kk : Nat} (hg : Gl X "enumerate") (hm : X.mg "enumerate" = none) (ha : PA X [e] (tA T W ms)) (hs : starEach [e] X.env = [(false, eval e X.env)] := by rfl) :
    PI X (.Tuple elts kk tpos) (.Call (.Name "enumerate" p) [e] [] pos) (tI T W (iArgs gEnumU ms)) := by
  refine pi_le (pi_or (pi_signs hg hm ha hs) (ti_enum hK hg hm ha hs)) fun σ H Rk ⟨β, α, S, ρ, hR, hE, hp⟩ => ?_
  have h1 := PostG.bind (rel := Vrs T β) (show PostG T β W (WalkR T β) σ ((ms ρ S).bind gEnumU) α H Rk from hp)
  cases q : ms ρ S with
  | stuck => rw [q] at h1; exact h1.elim
  | exc k f S1 => rw [q] at h1; exact .inl ⟨β, α, S, ρ, hR, hE, by rw [q]; exact h1⟩
  | ok x S1 =>
    by_cases ht : ∃ z, x = [.dat (.str z)]
    · obtain ⟨z, rfl⟩ := ht
      rw [q] at h1
      refine .inl ⟨β, α, S, ρ, hR, hE, ?_⟩
      rw [q]
      intro α1 H1 v e1 R1 V1
      obtain ⟨α2, S2, x2, ex, e2, R2, V2, h2⟩ := h1 α1 H1 v e1 R1 V1
      cases ex
      obtain ⟨u, rfl, hu⟩ := vrs1 V2
      cases vr_str hu
      exact ⟨z, rfl, h2 α2 H1 _ Ext.refl R2 walkR_signs⟩
    · refine .inr ⟨β, α, S, ρ, hR, hE, ?_⟩
      have same : gEnumU x = gEnum x := by
        funext S
        unfold gEnumU
        split
        · exact absurd ⟨_, rfl⟩ ht
        · rfl
      have e : iArgs gEnum ms ρ S = iArgs gEnumU ms ρ S := by
        unfold iArgs
        rw [q]
        show gEnum x S1 = gEnumU x S1
        rw [same]
      rw [e]
      exact hp
end Pev
/-! Pev: the end of a law over a head by facts. -/
namespace Pev
open PySem PySem.Spec
open PyProof.Rows L2 He
/-- a def's names bind -/
theorem Fun.bindsK {K : PySem.W.Frag} {x qual : Str} {st : Stmt} {f : Addr} {fd : FuncData} {ps ks : List Str} {π : List Nat} (F : L2.Fun K x qual st f fd)
    (h : ∀ (kV doc pm : Value) (an : Option Addr) (cdv ct : Value) (us : List Value), us.length = ks.length → bindArgs (PySem.W.fnOf x qual (defArgs st) (defBody st) (defScope st) .none kV doc pm an cdv ct) ⟨[], ks.zip us⟩ = pure (ps.zip (permL π us))) : BindsK K fd ps ks π := by
  obtain ⟨oc, od, kV, doc, pm, an, cdv, ct, osl, rfl, lk, hcd⟩ := F.ex
  exact fun s ws _ hl => .of_eq (h kV doc pm an cdv ct ws hl)
theorem clsB_ok {K : PySem.W.Frag} {C B : Addr} (h : clsB K C B = true) : ∃ nm q N bs sn sub ab col dd k0 k1 k2 k3 k5, K.lookup C = some (excClassObj nm q C N bs (.ref B :: PySem.ESX.exTail) true sn sub ab col dd k0 k1 k2 k3 k5 "Exception.__new__") := by
  unfold clsB at h
  split at h
  · rename_i dd cd sl ho
    split at h
    · rename_i C2 B2 k0 k1 k2 k3 n k5 hm hs
      obtain ⟨h1, h⟩ := ba h
      obtain ⟨h2, h⟩ := ba h
      obtain ⟨h3, h⟩ := ba h
      obtain ⟨h4, h5⟩ := ba h
      have e1 := of_decide_eq_true h1
      have e2 := of_decide_eq_true h2
      have e3 := of_decide_eq_true h3
      subst e1 e2 e3
      obtain ⟨nm, bs, mro, ns, qn, hd, sn, sub, ab, col, del⟩ := cd
      dsimp only at hm h4 h5
      subst hm h4
      have e5 : del = false := by simpa using h5
      subst e5
      have hsl : sl = #[k0, k1, k2, k3, some (.builtin "Exception.__new__"), k5] := by
        obtain ⟨l⟩ := sl
        simp only at hs
        rw [hs]
      subst hsl
      exact ⟨nm, qn, ns, bs, sn, sub, ab, col, dd, k0, k1, k2, k3, k5, ho⟩
    · cases h
  · cases h
section
variable {K : PySem.W.Frag} {P : Program} {B : Addr} {e : ErrD}
/-- what ErrD.ok says, in the form in which err_mkG asks -/
theorem err_cases (hv : fnE K e = e.val) (hb : e.ok P B K = true) : ∃ nm q2 N bs sn sub ab col dd k0 k1 k2 k3 k5 oc od kV doc pm an cda ct osl cc ccl cdd vs ccs file tf cl cld csl,
    PySem.W.nsIn K mainGlobals e.x = some (some (.ref (clA K e))) ∧ K.lookup (clA K e) = some (excClassObj nm q2 (clA K e) N bs (.ref B :: PySem.ESX.exTail) true sn sub ab col dd k0 k1 k2 k3 k5 "Exception.__new__") ∧ PySem.W.findIn K (.ref (clA K e)) "__init__" = some (some (.ref (inA K e))) ∧
    PySem.W.typeIn K (.ref (inA K e)) = some (.type "function") ∧ K.lookup (inA K e) = some ⟨oc, od, .func (PySem.W.fnX "__init__" e.q (defArgs e.st) (defBody e.st) (defScope e.st) [(("__class__" : Str), cc)] .none kV doc pm an (.ref cda) ct), osl⟩ ∧
    PySem.W.codeIn K (.ref cda) e.q = true ∧ K.lookup cda = some ⟨ccl, cdd, .fields vs, ccs⟩ ∧ vs[2]? = some (.str file tf) ∧ ((P.main.file : Str) == file) = true ∧ K.lookup cc = some ⟨cl, cld, .cell (some (.ref (clA K e))), csl⟩ ∧
    PySem.W.keepIn K (.ref (clA K e)) = true ∧ PySem.W.subIn K (.ref (clA K e)) (.type "BaseException") = some true ∧ PySem.W.typeIn K (.ref (clA K e)) = some (.type "type") ∧ PySem.W.ks_superIn K (clA K e) (clA K e) "__init__" = some (some (.builtin "Exception.__init__")) ∧ fldB K (clA K e) e.fld = true := by
  unfold ErrD.ok at hb
  obtain ⟨b1, hb⟩ := ba hb
  obtain ⟨b2, hb⟩ := ba hb
  obtain ⟨b3, hb⟩ := ba hb
  obtain ⟨b4, hb⟩ := ba hb
  obtain ⟨b5, hb⟩ := ba hb
  obtain ⟨b6, hb⟩ := ba hb
  obtain ⟨b7, hb⟩ := ba hb
  obtain ⟨b8, hb⟩ := ba hb
  obtain ⟨nm, q2, N, bs, sn, sub, ab, col, dd, k0, k1, k2, k3, k5, hC⟩ := clsB_ok b2
  obtain ⟨x1, x2⟩ := ba b6
  unfold fnE at hv
  cases q : K.lookup (inA K e) with
  | none => rw [q] at hb; cases hb
  | some o =>
    obtain ⟨oc, od, dt, osl⟩ := o
    rw [q] at hb hv
    cases dt with
    | func fd =>
      obtain ⟨n1, n2, n3, n4, n5, n6, n7, n8, n9, n10, n11, n12, n13, n14, n15⟩ := fd
      have hv2 : (some (n1, n2, n3, n4, n5, n6, n15) : FnE) = e.val := hv
      unfold ErrD.val at hv2
      simp only [Option.some.injEq, Prod.mk.injEq] at hv2
      obtain ⟨h1, h2, h3, h4, h5, h6, h7⟩ := hv2
      subst h1 h2 h3 h4 h5 h6 h7
      obtain ⟨c1, c2⟩ := ba (show (PySem.W.codeIn K n13 e.q && cellB K P (clA K e) _) = true from hb)
      unfold cellB at c2
      dsimp only at c2
      split at c2
      · rename_i n cc cda
        obtain ⟨d1, c2⟩ := ba c2
        obtain ⟨d2, d3⟩ := ba c2
        have d1 := of_decide_eq_true d1
        subst d1
        split at d2
        · rename_i C2 csl lk
          have d2 := of_decide_eq_true d2
          subst d2
          split at d3
          · rename_i vs ccs lk2
            split at d3
            · rename_i file tf hvs
              exact ⟨nm, q2, N, bs, sn, sub, ab, col, dd, k0, k1, k2, k3, k5, oc, od, _, _, _, _, cda, _, osl, cc, _, _, vs, ccs, file, tf, _, _, csl, eqO_ok b1, hC, eqO_ok b3, of_decide_eq_true b4, rfl, c1, lk2, hvs, d3, lk, b5, of_decide_eq_true x1, of_decide_eq_true x2, eqO_ok b7, b8⟩
            · cases d3
          · cases d3
        · cases d2
      · cases c2
    | _ => cases hb
theorem err_of {F : Str} (S : ErrSt e.st e.q F) (hf : e.fld = some F) (hv : fnE K e = e.val) (hb : e.ok P B K = true) (op : PySem.W.nsIn K cStatics "thirdparty.any" = some none) (top : (P.main.scope.names.lookup ("super" : Str)).isSome = false) :
    ∀ mg : Str → Option Value, mg "super" = none → ErrTxt K P mg (clA K e) B (inA K e) F := by
  obtain ⟨nm, q2, N, bs, sn, sub, ab, col, dd, k0, k1, k2, k3, k5, oc, od, kV, doc, pm, an, cda, ct, osl, cc, ccl, cdd, vs, ccs, file, tf, cl, cld, csl, z1, z2, z3, z4, z5, z6, z7, z8, z9, z10, z11, z12, z13, z14, z15⟩ := err_cases hv hb
  rw [hf] at z15
  obtain ⟨y1, y⟩ := ba z15
  obtain ⟨y2, y⟩ := ba y
  obtain ⟨y3, y⟩ := ba y
  obtain ⟨y4, y5⟩ := ba y
  exact err_mkG S z2 (eqO_ok y1) (eqO_ok y2) (eqO_ok y3) (eqO_ok y4) z3 z4 z5 z6 z7 z8 z9 z10 z11 z12 z13 y5 z14 op top
end
section
variable {P : Program} {fa : List Fa} {tp : List (Str × List Dv)} {fn : List DefD} {es : List ErrD} {ts : List TabP} {w : World} {K : PySem.W.Frag}
theorem SaysP.fact (c : SaysP P fa tp fn es ts w K) (i : Nat) {f : Fa} (h : fa[i]? = some f := by rfl) : f.ok K = true :=
  List.all_eq_true.mp (ba (ba (ba (congrArg (fun z : AlP => z.1) c)).1).1).1 f (List.mem_of_getElem? h)
/-- a tuple of the module -/
theorem SaysP.tup (c : SaysP P fa tp fn es ts w K) (i : Nat) {x : Str} {vs : List Dv} (h : tp[i]? = some (x, vs) := by rfl) (H : Hp) : SqT K H (ga K x) (vs.map (Dv.v K)) :=
  tupB_ok (List.all_eq_true.mp (ba (ba (ba (congrArg (fun z : AlP => z.1) c)).1).1).2 (x, vs) (List.mem_of_getElem? h)) H
/-- a written dict -/
theorem SaysP.tab (c : SaysP P fa tp fn es ts w K) (i : Nat) {t : TabP} (h : ts[i]? = some t := by rfl) : dicW K (ga K t.1) = some (keysIn w.params (t.2.map (·.1))) ∧ valsB K (ga K t.1) t.2 = true := by
  refine ⟨?_, List.all_eq_true.mp (ba (ba (congrArg (fun z : AlP => z.1) c)).1).2 t (List.mem_of_getElem? h)⟩
  have e : ts.map (fun t => dicW K (ga K t.1)) = ts.map fun t => some (keysIn w.params (t.2.map (·.1))) := congrArg (fun z : AlP => z.2.2.2) c
  have e2 : (ts.map fun t => dicW K (ga K t.1))[i]? = (ts.map fun t => some (keysIn w.params (t.2.map (·.1))))[i]? := by rw [e]
  rw [List.getElem?_map, List.getElem?_map, h] at e2
  exact Option.some.inj e2
theorem SaysP.def_ (c : SaysP P fa tp fn es ts w K) (i : Nat) {d : DefD} (h : fn[i]? = some d := by rfl) : ∃ fd, FunD K d.name d.qual d.params d.body d.scope (d.dvs K) (d.kws K) (fAd K d.at_) fd := by
  have c2 := (ba (ba (congrArg (fun z : AlP => z.1) c)).2).1
  have e : fn.map (fun d => fnW K d.at_) = fn.map DefD.val := congrArg (fun z : AlP => z.2.1) c
  have e2 : (fn.map fun d => fnW K d.at_)[i]? = (fn.map DefD.val)[i]? := by rw [e]
  rw [List.getElem?_map, List.getElem?_map, h] at e2
  exact DefD.funD (Option.some.inj e2) (List.all_eq_true.mp c2 d (List.mem_of_getElem? h))
/-- a def of no default -/
theorem SaysP.fun_ (c : SaysP P fa tp fn es ts w K) (i : Nat) {x : Str} {st : Stmt} (h : fn[i]? = some ⟨(x, none), x, x, defArgs st, defBody st, defScope st, [], []⟩ := by rfl) : ∃ fd, L2.Fun K x x st (ga K x) fd := by
  obtain ⟨fd, F⟩ := c.def_ i h
  obtain ⟨oc, od, dV, kV, doc, pm, an, cdv, ct, osl, e1, e2, e3, e4, e5⟩ := F.ex
  rcases e4 with ⟨_, rfl⟩ | ⟨z, _⟩
  · exact ⟨fd, ⟨oc, od, kV, doc, pm, an, cdv, ct, osl, e1, e2, e3⟩, F.kp⟩
  · exact absurd rfl z
theorem SaysP.ext (c : SaysP P fa tp fn es ts w K) (hne : es.isEmpty = false) : PySem.W.nsIn K cStatics "thirdparty.any" = some none ∧ PySem.W.nsIn K mainGlobals "WhoError" = some (some (.ref (ga K "WhoError"))) ∧ PySem.W.subIn K (.ref (ga K "WhoError")) (.type "BaseException") = some true ∧
    PySem.W.typeIn K (.ref (ga K "WhoError")) = some (.type "type") ∧ PySem.W.isClsIn K (ga K "WhoError") = true ∧ (es.map (clA K)).Nodup ∧ ga K "WhoError" ∉ es.map (clA K) ∧ ∀ e ∈ es, e.ok P (ga K "WhoError") K = true := by
  have c2 := (ba (ba (congrArg (fun z : AlP => z.1) c)).2).2
  unfold extB at c2
  rw [hne, Bool.false_or] at c2
  obtain ⟨a1, c2⟩ := ba c2
  obtain ⟨a2, c2⟩ := ba c2
  obtain ⟨a3, c2⟩ := ba c2
  obtain ⟨a4, c2⟩ := ba c2
  obtain ⟨a5, c2⟩ := ba c2
  obtain ⟨a6, a7⟩ := ba c2
  obtain ⟨a8, a9⟩ := ba a3
  exact ⟨eqO_ok a1, eqO_ok a2, of_decide_eq_true a8, of_decide_eq_true a9, a4, of_decide_eq_true a5, of_decide_eq_true a6, List.all_eq_true.mp a7⟩
theorem SaysP.val (c : SaysP P fa tp fn es ts w K) (i : Nat) {e : ErrD} (h : es[i]? = some e := by rfl) : fnE K e = e.val := by
  have e1 : es.map (fnE K) = es.map ErrD.val := congrArg (fun z : AlP => z.2.2.1) c
  have e2 : (es.map (fnE K))[i]? = (es.map ErrD.val)[i]? := by rw [e1]
  rw [List.getElem?_map, List.getElem?_map, h] at e2
  exact Option.some.inj e2
theorem ErrD.glo {B : Addr} {e : ErrD} (hb : e.ok P B K = true) : PySem.W.nsIn K mainGlobals e.x = some (some (.ref (clA K e))) := eqO_ok (ba hb).1
end
end Pev
/-! Pev: defs that call themselves, defaults, ord, name += e, a module's tuples. -/
namespace Pev
open PySem PySem.Spec
open PyProof.Rows L2 He
/-! ### a def with defaults -/
theorem fnG_ofD {P : Program} {w : World} {K : PySem.W.Frag} {mg : Str → Option Value} {base : Heap} {x qual : Str} {st : Stmt} {f : Addr} {fd : FuncData} {N ps : List Str} {k : Nat} {sp : Sp} {dvs : List V} {kws : List (Str × V)} (F : FunD K x qual (defArgs st) (defBody st) (defScope st) dvs kws f fd) (S : FnScope N ps (defScope st)) (len : ∀ vs H Q E, sp vs H Q E → vs.length = ps.length)
    (hbody : ∀ (cdv : Value) (A : Around) (fs : List Env) (s : Shared) (H : Hp) (vs : List V) (Q : VK) (E : XK), RoomG k (A.deeper (envOfC qual (defScope st) s.heap.objs.size f cdv)) → sp vs H Q E →
      ∃ t, PSs (cxOf (L2.CX P w) P w K mg base N qual (defScope st) f cdv A fs s H E) (defBody st) t ∧ t { nx := fun _ H' => Q .non H', rt := Q } (L2.start N vs) H) : FnG P w K mg base (k + 1) f fd ps sp := by
  obtain ⟨c1, c2, dV, kV, doc, pm, an, cdv, ct, sl, rfl, lk, hcode, _, _⟩ := F.ex
  refine ⟨len, fun A fs s H args us vs Q E hr e0 hb rv hsp => ?_⟩
  have up : ∀ b o, base.get? b = some o → s.heap.get? b = some o := fun b o e => (e0.bs b o e).1
  have KX : K.In s.heap := e0.mod.kin.keeps up
  have par : ∀ y ∈ ps.zip us, (defScope st).names.lookup y.1 = some .local ∨ ((defScope st).names.lookup y.1 = some .cell ∧ ((cellsFrom (s.heap.objs.size + 1) (defScope st).names []).lookup y.1).isSome = true) := fun y hy =>
    (S.par y.1 (List.of_mem_zip hy).1).imp id fun q => ⟨q, PySem.W.cellsFrom_some _ _ _ (.inl q)⟩
  refine codeAny_call_function hr.toRoom.depth (KX _ _ lk) rfl S.co S.gen rfl (PySem.W.codeRec_of KX hcode) (hb _ _ _ _ (wpAny_newFunctionEnv_cells S.kind par fun env he s1 z => ?_))
  subst he
  obtain ⟨t, ht, hq⟩ := hbody cdv A fs s H vs Q E (hr.deeper _) hsp
  refine ⟨(e0.mod.nolimit.keeps up).keeps z.toInCall.keep, codeAny_func (wpAny_mono (ht.run [] s1 (L2.start N vs) H _ (inv_start S hr.hd e0 (len _ _ _ _ hsp) rv z) hq) (fun fl s2 hs => ?_) fun _ _ hs => hs)⟩
  have q := flow_end hs
  cases fl with
  | ret u => exact q
  | next => exact q
  | brk => exact q.elim
  | cont => exact q.elim
theorem fn_okD {P : Program} {w : World} {T : Tb} {mg : Str → Option Value} {base : Heap} {x qual : Str} {st : Stmt} {f : Addr} {fd : FuncData} {N ps : List Str} {k nN np : Nat} {b : SM} {dvs : List V} {kws : List (Str × V)} (F : FunD T.K x qual (defArgs st) (defBody st) (defScope st) dvs kws f fd) (S : FnScope N ps (defScope st)) (eN : N.length = nN) (ep : ps.length = np)
    (hb : ∀ (cdv : Value) (A : Around) (outer : List Env) (s : Shared) (H : Hp) (E : XK), RoomG k (A.deeper (envOfC qual (defScope st) s.heap.objs.size f cdv)) →
      PSs (cxOf (L2.CX P w) P w T.K mg base N qual (defScope st) f cdv A outer s H E) (defBody st) (tS T (fun cls d _ H' => E cls d H') b)) :
    FnG P w T.K mg base (k + 1) f fd ps (spF T np (fnB nN b)) := by
  subst eN ep
  refine fnG_ofD F S (fun vs H Q E h => h.1) fun cdv A outer s H vs Q E hr h => ⟨_, hb cdv A outer s H E hr, ?_⟩
  obtain ⟨_, β, α, S0, rs, hR, hV, h⟩ := h
  refine ⟨β, α, S0, _, hR, er_start hV, ?_⟩
  unfold fnB at h
  generalize hq : b (rs.map some ++ List.replicate (N.length - rs.length) none) S0 = o at h ⊢
  cases o with
  | nx ρ S => exact fun α' H' σ' e r _ => h α' H' .non e r .non
  | rt r S => exact h
  | bk ρ S => exact h.elim
  | ct ρ S => exact h.elim
  | exc c f ρ S => exact fun α' H' σ' cls d e r _ q => h α' H' cls d e r q
  | stuck => exact h.elim
/-! ### ord -/
/-! ### name += e, of ints -/
section
variable {X : Cx} {T : Tb} {W : WX} {e : Expr} {m : EM} {pos : Pos}
end
/-! ### o[i], p[j] = e, f -/
section
variable {X : Cx} {T : Tb} {W : WX} {e o i o' i' : Expr} {me mo mi mo' mi' : EM} {pos p2 p3 pt : Pos} {kt : Nat}
end
/-! ### a, b, c, d = .. (a tuple is built, then taken apart) -/
section
variable {X : Cx} {T : Tb} {W : WX} {a b c d : Expr} {ms : EMs} {pos px py pz pu pt pt2 : Pos} {kt k2 : Nat} {x y z u : Str}
end
/-! ### sum of a tuple -/
/-! ### // by a positive divisor of any size; draws with such bounds -/
/-! ### a tuple at a call's end: all of the call's own lists are looked at for the last time -/
end Pev
/-! Pev: a text or a tuple so many times. -/
namespace Pev
open PySem PySem.Spec PyProof.Rows L2
end Pev
/-! Pev: data compared, sorted. -/
namespace Pev
open PySem PySem.Spec PyProof.Rows L2
/-! ### a < b and so on of data that are alike -/
section
variable {X : Cx} {T : Tb}
end
/-! ### sorted of data -/
end Pev
/-! Pev: zip of two lists or of two tuples of data. -/
namespace Pev
open PySem PySem.Spec PyProof.Rows L2
section
variable {K : Tb} {β : List Addr} {α : List (Option Addr)} {H : Hp} {S : Sto}
end
end Pev
/-! Pev: min and max of two data, o[i] += e, get of a written dict. -/
namespace Pev
open PySem PySem.Spec PyProof.Rows L2
/-! ### min(a, b), max(a, b) of data -/
section
variable {prog : Program} {w : World} {A : Around} {E : Value → Shared → Prop} {s : Shared} {a b : Value} {x y : PyData} {as bs : List Addr} {Q : Value → Shared → Prop}
end
section
variable {X : Cx} {T : Tb}
/-! ### o[i] op= e of ints -/
/-- the int at a place of an own list -/
def slotI (o i : R) (S : Sto) : Option Int := match o, i with
  | .obj k, .dat (.int n) => match S[k]? with
    | some (.lst rs) => match atI rs n with
      | some (.dat (.int a)) => some a
      | _ => none
    | _ => none
  | _, _ => none
def sAugS (f : Int → Int → Int) (mo mi me : EM) : SM := fun ρ S => (mo ρ S).toS ρ fun o S1 => (mi ρ S1).toS ρ fun i S2 => match slotI o i S2 with
  | some a => (me ρ S2).toS ρ fun y S3 => match y with
    | .dat (.int b) => (putAt o i (.dat (.int (f a b))) S3).toS ρ fun _ S4 => .nx ρ S4
    | _ => .stuck
  | none => .stuck
variable {W : WX} {o i e : Expr} {mo mi me : EM} {pos tpos : Pos} {op : Operator}
end
end Pev
/-! Pev: a written dict of the module with text keys: get, in, []. -/
namespace Pev
open PySem PySem.Spec PyProof.Rows L2
def kvAt (kvs : List (Str × PyData)) (z : Str) : Option PyData := (kvs.find? fun p => decide (p.1 = z)).map (·.2)
/-- at a: the written dict of these keys and values -/
structure TabOk (K : PySem.W.Frag) (w : World) (a : Addr) (kvs : List (Str × PyData)) : Prop where
  kd : ∃ es n, KDict K w a es n
  at_ : ∀ z, match kvAt kvs z with
    | some d => ∃ v u, PySem.W.nsIn K a z = some (some u) ∧ RelV v u ∧ ∀ H, Dq K H v d
    | none => PySem.W.nsIn K a z = some none
section
variable {X : Cx} {T : Tb} {W : WX} {e f : Expr} {pos p apos cpos : Pos} {a : Addr} {kvs : List (Str × PyData)} {x : Str} {ta : TA} {ms : EMs}
end
end Pev
/-! Pev: a tuple built of own lists; just these lists go. -/
namespace Pev
open PySem PySem.Spec PyProof.Rows L2
section
variable {K : Tb} {β : List Addr} {α : List (Option Addr)} {H : Hp} {S : Sto} {D : List Nat}
end
/-! ### two or three names at once, one of them a cell -/
section
variable {X : Cx} {T : Tb} {W : WX} {a b c d : Expr} {ms : EMs} {pos px py pz pu pt pt2 : Pos} {kt k2 : Nat} {x y z u : Str}
end
end Pev
/-! Pev: plain facts of data: equality, shape, order. -/
namespace Pev
open PySem
mutual
def nb : PyData → Bool
  | .bool _ => false
  | .dict _ => false
  | .list ds => nbAll ds
  | .tuple ds => nbAll ds
  | _ => true
def nbAll : List PyData → Bool
  | [] => true
  | d :: ds => nb d && nbAll ds
end
mutual
theorem eqv_iff : ∀ {d e : PyData}, nb d = true → nb e = true → (PyData.eqv d e = true ↔ d = e)
  | .none, e, _, h => by cases e <;> simp [PyData.eqv]
  | .bool b, e, h, _ => by unfold nb at h; cases h
  | .dict b, e, h, _ => by unfold nb at h; cases h
  | .int i, e, _, h => by cases e <;> first | (unfold nb at h; cases h; done) | simp [PyData.eqv]
  | .str i, e, _, h => by cases e <;> simp [PyData.eqv]
  | .list xs, e, h1, h2 => by
    cases e with
    | list ys =>
      unfold nb at h1 h2
      unfold PyData.eqv
      rw [eqvAll_iff h1 h2]
      simp
    | _ => simp [PyData.eqv]
  | .tuple xs, e, h1, h2 => by
    cases e with
    | tuple ys =>
      unfold nb at h1 h2
      unfold PyData.eqv
      rw [eqvAll_iff h1 h2]
      simp
    | _ => simp [PyData.eqv]
theorem eqvAll_iff : ∀ {ds es : List PyData}, nbAll ds = true → nbAll es = true → (PyData.eqvAll ds es = true ↔ ds = es)
  | [], [], _, _ => by simp [PyData.eqvAll]
  | [], _ :: _, _, _ => by simp [PyData.eqvAll]
  | _ :: _, [], _, _ => by simp [PyData.eqvAll]
  | d :: ds, e :: es, h1, h2 => by
    unfold nbAll at h1 h2
    rw [Bool.and_eq_true] at h1 h2
    unfold PyData.eqvAll
    rw [Bool.and_eq_true, eqv_iff h1.1 h2.1, eqvAll_iff h1.2 h2.2]
    simp
end
mutual
theorem eqv_self : ∀ {d : PyData}, d.canLay0 = true → PyData.eqv d d = true
  | .none, _ => by unfold PyData.eqv; rfl
  | .bool b, _ => by unfold PyData.eqv; simp
  | .dict b, h => by unfold PyData.canLay0 at h; cases h
  | .int i, _ => by unfold PyData.eqv; simp
  | .str i, _ => by unfold PyData.eqv; simp
  | .list xs, h => by unfold PyData.canLay0 at h; unfold PyData.eqv; exact eqvAll_self h
  | .tuple xs, h => by unfold PyData.canLay0 at h; unfold PyData.eqv; exact eqvAll_self h
theorem eqvAll_self : ∀ {ds : List PyData}, PyData.canLayAll0 ds = true → PyData.eqvAll ds ds = true
  | [], _ => by unfold PyData.eqvAll; rfl
  | d :: ds, h => by
    unfold PyData.canLayAll0 at h
    rw [Bool.and_eq_true] at h
    unfold PyData.eqvAll
    rw [eqv_self h.1, eqvAll_self h.2]
    rfl
end
/-- may be laid, of depth k at most -/
def Fit (k : Nat) (d : PyData) : Prop := d.canLay0 = true ∧ d.depth ≤ k
theorem Fit.shaped {k : Nat} {d : PyData} (h : Fit k d) (hk : k ≤ 64 := by omega) : SeqAt.shaped d = true := by
  unfold SeqAt.shaped
  rw [h.1, decide_eq_true (show d.depth ≤ 64 from Nat.le_trans h.2 hk)]
  rfl
theorem fit_int (k : Nat) (i : Int) : Fit k (.int i) := ⟨by unfold PyData.canLay0; rfl, Nat.zero_le _⟩
theorem fit_all {k : Nat} : ∀ {ds : List PyData}, (∀ d ∈ ds, Fit k d) → PyData.canLayAll0 ds = true ∧ PyData.depthAll ds ≤ k
  | [], _ => ⟨by unfold PyData.canLayAll0; rfl, Nat.zero_le _⟩
  | d :: ds, h => by
    obtain ⟨h1, h2⟩ := fit_all fun e he => h e (List.mem_cons_of_mem _ he)
    obtain ⟨h3, h4⟩ := h d List.mem_cons_self
    refine ⟨by unfold PyData.canLayAll0; rw [h1, h3]; rfl, ?_⟩
    unfold PyData.depthAll
    exact Nat.max_le.mpr ⟨h4, h2⟩
theorem fit_tup {k : Nat} {ds : List PyData} (h : ∀ d ∈ ds, Fit k d) : Fit (k + 1) (.tuple ds) := by
  obtain ⟨h1, h2⟩ := fit_all h
  refine ⟨by unfold PyData.canLay0; exact h1, ?_⟩
  unfold PyData.depth
  omega
theorem fit_lst {k : Nat} {ds : List PyData} (h : ∀ d ∈ ds, Fit k d) : Fit (k + 1) (.list ds) := by
  obtain ⟨h1, h2⟩ := fit_all h
  refine ⟨by unfold PyData.canLay0; exact h1, ?_⟩
  unfold PyData.depth
  omega
theorem Fit.up {k m : Nat} {d : PyData} (h : Fit k d) (hk : k ≤ m) : Fit m d := ⟨h.1, Nat.le_trans h.2 hk⟩
theorem beq_dat {neg : Bool} {d e : PyData} {S : Sto} (h1 : SeqAt.shaped d = true) (h2 : SeqAt.shaped e = true) : bEq neg (.dat d) (.dat e) S = .ok (.dat (.bool (if neg then !PyData.eqv d e else PyData.eqv d e))) S := by
  unfold bEq
  rw [snap_dat, snap_dat]
  dsimp only
  rw [h1, h2]
  rfl
theorem beq_same {neg : Bool} {k : Nat} {d : PyData} {S : Sto} (h : Fit k d) (hk : k ≤ 64 := by omega) : bEq neg (.dat d) (.dat d) S = .ok (.dat (.bool (!neg))) S := by
  rw [beq_dat (h.shaped hk) (h.shaped hk), eqv_self h.1]
  cases neg <;> rfl
theorem inAns_eq {neg b : Bool} {S : Sto} : inAns neg b S = .ok (.dat (.bool (if neg then !b else b))) S := rfl
theorem bin_list {neg : Bool} {k : Nat} {d : PyData} {ds : List PyData} {S : Sto} (h1 : Fit k d) (h2 : Fit k (.list ds)) (hk : k ≤ 64 := by omega) : bIn neg (.dat d) (.dat (.list ds)) S = .ok (.dat (.bool (if neg then !(ds.any fun z => PyData.eqv z d) else ds.any fun z => PyData.eqv z d))) S := by
  unfold bIn
  rw [snap_dat, snap_dat]
  dsimp only
  rw [h1.shaped hk, h2.shaped hk]
  rfl
theorem any_eqv {α : Type} (f : α → PyData) (g : α → Bool) {d : PyData} {xs : List α} (h : ∀ x ∈ xs, PyData.eqv (f x) d = g x) : (xs.map f).any (fun z => PyData.eqv z d) = xs.any g := by
  induction xs with
  | nil => rfl
  | cons x xs ih =>
    rw [List.map_cons, List.any_cons, List.any_cons, h x List.mem_cons_self, ih fun y hy => h y (List.mem_cons_of_mem _ hy)]
theorem newL_f {α : Type} (f : α → PyData) (xs : List α) (S : Sto) : newL false (xs.map fun a => R.dat (f a)) S = .ok (.dat (.list (xs.map f))) S := by
  unfold newL
  rw [datAll_f]
theorem one_arg {d : PyData} (S : Sto) : [R.dat d].mapM (snap S depS) = some [d] := by rw [List.mapM_cons, snap_dat]; rfl
theorem two_args {d e : PyData} (S : Sto) : [R.dat d, .dat e].mapM (snap S depS) = some [d, e] := by rw [List.mapM_cons, snap_dat, List.mapM_cons, snap_dat]; rfl
theorem three_args {d e f : PyData} (S : Sto) : [R.dat d, .dat e, .dat f].mapM (snap S depS) = some [d, e, f] := by rw [List.mapM_cons, snap_dat, List.mapM_cons, snap_dat, List.mapM_cons, snap_dat]; rfl
theorem one_call {m : FM} {d e : PyData} (h : Gv m [d] e) (S : Sto) : pureF m [.dat d] S = .ok (.dat e) S := pure_gives h (one_arg S) rfl
theorem two_call {m : FM} {d e f : PyData} (h : Gv m [d, e] f) (S : Sto) : pureF m [.dat d, .dat e] S = .ok (.dat f) S := pure_gives h (two_args S) rfl
theorem three_call {m : FM} {d e f g : PyData} (h : Gv m [d, e, f] g) (S : Sto) : pureF m [.dat d, .dat e, .dat f] S = .ok (.dat g) S := pure_gives h (three_args S) rfl
theorem sz_of {n : Nat} (h : n ≤ 10000) : (n ≤ sizeLine) = True := eq_true (Nat.le_trans h (by decide))
theorem sz_lt {n : Nat} (h : n ≤ 10000) : (n < sizeLine) = True := eq_true (Nat.lt_of_le_of_lt h (by decide))
theorem rangeR_0 (n : Nat) : rangeR 0 ((n : Int)).toNat = (List.range n).map fun i : Nat => R.dat (.int (i : Nat)) := by
  unfold rangeR
  rw [Int.toNat_natCast]
  apply List.map_congr_left
  intro i _
  rw [Int.zero_add]
theorem inR_small {n : Nat} (h : n ≤ 10000) : inR (n : Nat) = true := by unfold inR; exact decide_eq_true (by omega)
theorem pairs_f {α : Type} (f : α → PyData) : ∀ (l : List α) (k : Nat), (pairsF k (l.map f)).map R.dat = (l.zipIdx k).map fun p => R.dat (.tuple [.int (p.2 : Nat), f p.1])
  | [], _ => rfl
  | c :: l, k => by
    rw [List.map_cons, List.zipIdx_cons, List.map_cons, ← pairs_f f l (k + 1)]
    rfl
theorem zipIdx_at {α : Type} {l : List α} {p : α × Nat} (h : p ∈ l.zipIdx 0) : l[p.2]? = some p.1 := List.mem_zipIdx_iff_getElem?.mp h
theorem all_yes {α : Type} (ms : List α) : (ms.map fun _ => true).all id = true := by rw [List.all_map, List.all_eq_true]; exact fun _ _ => rfl
mutual
theorem same_lay : ∀ {d : PyData}, d.canLay0 = true → same d d = true
  | .none, _ => by unfold same; rfl
  | .bool b, _ => by unfold same; simp
  | .dict b, h => by unfold PyData.canLay0 at h; cases h
  | .int i, _ => by unfold same; simp
  | .str i, _ => by unfold same; simp
  | .list xs, h => by unfold PyData.canLay0 at h; unfold same; exact sameAll_lay h
  | .tuple xs, h => by unfold PyData.canLay0 at h; unfold same; exact sameAll_lay h
theorem sameAll_lay : ∀ {ds : List PyData}, PyData.canLayAll0 ds = true → sameAll ds ds = true
  | [], _ => by unfold sameAll; rfl
  | d :: ds, h => by
    unfold PyData.canLayAll0 at h
    rw [Bool.and_eq_true] at h
    unfold sameAll
    rw [same_lay h.1, sameAll_lay h.2]
    rfl
end
/-- a comprehension over data whose every item stays -/
theorem lc_all {α : Type} {g : GM} {elt : EM} {ρ : Rho} {S : Sto} (enc : α → R) (f : α → R) (xs : List α) (h : ∀ a ∈ xs, ∃ ρ1, g (enc a) ρ = some ρ1 ∧ elt ρ1 S = .ok (f a) S) : lcLoop [] g tYes' elt ρ (xs.map enc) S = .ok (xs.map f) S := by
  have key := lc_pure (keep := []) (t := tYes') enc (fun _ => true) f stands_nil xs fun a ha => by
    obtain ⟨ρ1, h1, h2⟩ := h a ha
    exact ⟨ρ1, h1, rfl, fun _ => h2⟩
  rw [List.filter_eq_self.mpr fun _ _ => rfl] at key
  exact key
end Pev
/-! Pev: a tuple once: itself; how arguments are told. -/
namespace Pev
open PySem PySem.Spec PyProof.Rows L2
theorem cons_nx {m1 m2 : SM} {ρ ρ1 : Rho} {S S1 : Sto} (h : m1 ρ S = .nx ρ1 S1) : sCons m1 m2 ρ S = m2 ρ1 S1 := by
  unfold sCons
  rw [h]
end Pev
/-! Pev: sorted by a key that is called. -/
namespace Pev
open PySem PySem.Spec PyProof.Rows L2
section
variable {X : Cx} {pins : List (Addr × Obj)} {σ : L2.St} {H : Hp} {s : Shared}
/-- a new object of ours, laid after s was -/
structure Ours (X : Cx) (pins : List (Addr × Obj)) (a : Addr) : Prop where
  lo : X.s_0.heap.objs.size ≤ a
  loc : a ≠ X.env.locals
  cel : ∀ x c, X.env.cells.lookup x = some c → c ≠ a
  pin : ∀ p ∈ X.pn ++ pins, p.1 ≠ a
theorem Ours.of (I : Inv X pins σ H s) {a : Addr} (h : s.heap.objs.size ≤ a) : Ours X pins a where
  lo := Nat.le_trans I.sz h
  loc := Nat.ne_of_gt (Nat.lt_of_lt_of_le I.lt h)
  cel := fun x c e => by
    obtain ⟨v, o, ho, _⟩ := I.cell x c e
    exact Nat.ne_of_lt (Nat.lt_of_lt_of_le (Heap.lt_size ho) h)
  pin := fun p hp => Nat.ne_of_lt (Nat.lt_of_lt_of_le (Heap.lt_size (I.pin p hp).1) h)
end
end Pev
/-! Pev: a lambda of one parameter: it is made, it is called. -/
namespace Pev
open PySem PySem.Spec PyProof.Rows L2
open LamX (CodeO TabS Tabs ExtN TabB inv_table codeO_ne among_app lamEnv)
theorem RoomG.in1 {k : Nat} {A : Around} (r : RoomG (k + 1) A) : RoomG k A.in1 := ⟨r.toRoom.in1, r.gd⟩
section
variable {X : Cx} {pins : List (Addr × Obj)} {σ : L2.St} {H : Hp} {s : Shared}
/-! ### its names: one parameter, captured names, globals -/
structure LamS1 (sc scope : Scope) (p : Str) : Prop where
  kind : scope.kind = .function
  co : scope.isCoroutine = false
  gen : scope.isGenerator = false
  own : ∀ y ∈ scope.names, y.2 ≠ .cell ∧ (y.2 = .local → y.1 = p)
  par : scope.names.lookup p = some .local
  free : ∀ y ∈ scope.names, y.2 = .free → sc.names.lookup y.1 = some .cell ∨ sc.names.lookup y.1 = some .free
end
end Pev
/-! Pev: sorted(xs, key=f): its mirror. -/
namespace Pev
open PySem PySem.Spec PyProof.Rows L2
open LamX (CodeO TabB)
section
variable {X : Cx} {T : Tb} {pins : List (Addr × Obj)} {σ : L2.St} {β : List Addr}
/-- the key's value at f does what m says, while C is true -/
def KOk (X : Cx) (T : Tb) (σ : L2.St) (pins : List (Addr × Obj)) (f : Value) (β : List Addr) (C : List (Option Addr) → Hp → Prop) (m : R → Sto → Out R) : Prop :=
  ∀ (α : List (Option Addr)) (S S1 : Sto) (H : Hp) (s : Shared) (more : List (Addr × Obj)) (r : R) (x : V) (v : Value) (d : PyData), Inv X (more ++ pins) σ H s → Rl T β α S H → C α H → Vr T β α H r x → RelV x v → m r S = .ok (.dat d) S1 →
    wpAny (model X.prog X.w) X.A.in1.in1 (call f [v]) (fun u s' => ∃ k α' H', Inv X (more ++ pins) σ H' s' ∧ RelV k u ∧ Ext α H α' H' ∧ Rl T β α' S1 H' ∧ Dq T.K (hid (blk β α') H') k d) (fun _ _ => False) s
/-- the key's expression: it is read, then does what m says -/
structure KeyR (X : Cx) (T : Tb) (ke : Expr) (m : Rho → R → Sto → Out R) : Prop where
  run : ∀ (pins : List (Addr × Obj)) (s : Shared) (σ : L2.St) (H : Hp) (β : List Addr) (α : List (Option Addr)) (S : Sto) (ρ : Rho), Inv X pins σ H s → Rl T β α S H → Er T β α H σ ρ →
    wpAny (model X.prog X.w) X.A (eval ke X.env) (fun u s' => (∀ x, Builtin.«list.sort» ⟨[.ref x], [(Str.ofString "key", u)]⟩ = ksk_tree x u false) ∧ ∃ (H' : Hp) (more : List (Addr × Obj)) (C : List (Option Addr) → Hp → Prop),
      Inv X (more ++ pins) σ H' s' ∧ SmN H H' ∧ Rl T β α S H' ∧ C α H' ∧ (∀ α H α' H', C α H → Ext α H α' H' → C α' H') ∧ KOk X T σ (more ++ pins) u β C (m ρ)) X.xe s
end
end Pev
/-! Pev: keys: a def, a built-in, a lambda. -/
namespace Pev
open PySem PySem.Spec PyProof.Rows L2
open LamX (CodeO TabB Tabs lamEnv)
theorem SmN.refl {H : Hp} : SmN H H := ⟨fun _ _ _ e => e, fun _ e => e⟩
section
variable {X : Cx} {T : Tb}
end
end Pev
/-! Pev: the end of a law whose defs make lambdas. -/
namespace Pev
open PySem PySem.Spec
open PyProof.Rows L2 He
open LamX (TabB Tabs TabS)
section
variable {P : Program} {w : World} {K : PySem.W.Frag} {a : Addr} {us : List Value} {ns : List Int}
theorem law_callL {mg mb : Str → Option Value} {k : Nat} {fa : Addr} {fd : FuncData} {x : Str} {s : Shared} {cs : List (Addr × Addr)} {tabs : List (Addr × Str)} (KX : K.In s.heap) (hns : s.heap.Ns mainGlobals mg) (hb : s.heap.Ns builtinsNs mb) (hbb : ∀ x : Str, x ≠ "__name__" → mb x = bootBuiltins x)
    (hlim : s.heap.NoLimit) (hg : s.gens = #[]) (at_ : s.heap.get? a = some { cls := .type "list", data := .seq us.toArray }) (hi : IntsAre us ns) (hl : ns.length ≤ 63) (hr : Room k callerA)
    (tC : ∀ p ∈ cs, PySem.W.CodeHd s.heap p.1 p.2) (tT : ∀ p ∈ cs, s.heap.get? p.2 = some { cls := .none, data := .fields #[] }) (tK : ∀ p ∈ cs, K.lookup p.2 = none) (tt : ∀ t ∈ tabs, t.1 ∈ cs.map (·.2))
    (hbm : ∃ (bm : Addr) (ob : Obj), mg "__builtins__" = some (.ref bm) ∧ bm ≠ builtinsNs ∧ s.heap.get? bm = some ob ∧ ob.cls = .type "module" ∧ ob.dict = some builtinsNs ∧ ob.data = .plain)
    (F : ∀ base : Heap, K.In base → base.Ns mainGlobals mg → (∀ p ∈ cs, TabB base mg p.1 p.2) → FnG P w K mg base k fa fd [x] (spLaw K tabs)) (hbind : ∀ (s : Shared) (u : Value), BindsTo s fd ⟨[u], []⟩ [(x, u)]) :
    codeAny (model P w) callerA (.call (.ref fa) ⟨[.ref a], []⟩) (fun r s2 => r = .ok (.ret (.bool true)) ∧ OldK s.heap s2.heap ∧ s2.os = s.os ∧ AllBare s2.gens) s := by
  obtain ⟨H0, only, sq0, hok0⟩ := script_heap (P := P) (w := w) KX at_ hi (Nat.le_trans hl (by decide))
  have tIn : ∀ b, b ∈ cs.map (·.2) → s.heap.get? b = some { cls := .none, data := .fields #[] } := fun b hb => by
    obtain ⟨p, hp, rfl⟩ := List.mem_map.mp hb
    exact tT p hp
  have aN : a ∉ cs.map (·.2) := fun z => by
    have q := tIn a z
    rw [at_] at q
    cases (show Data.seq us.toArray _ = Data.fields #[] from congrArg Obj.data (Option.some.inj q))
  have n0 : ∀ b, b ∈ cs.map (·.2) → H0 b = none := fun b hb => by
    cases q : H0 b with
    | none => rfl
    | some u =>
      obtain ⟨rfl, _⟩ := only b u q
      exact absurd hb aN
  obtain ⟨H, hH⟩ : ∃ H : Hp, H = fun b => if b ∈ cs.map (·.2) then some (.tbl #[]) else H0 b := ⟨_, rfl⟩
  have hT : ∀ b, b ∈ cs.map (·.2) → H b = some (.tbl #[]) := fun b hb => by rw [hH]; exact if_pos hb
  have hN : ∀ b, b ∉ cs.map (·.2) → H b = H0 b := fun b hb => by rw [hH]; exact if_neg hb
  have sm : Same H0 H := fun b u e => by
    rw [hN b (fun z => by rw [n0 b z] at e; cases e)]
    exact e
  have sq := sm.seq sq0
  -- who is tracked
  have who : ∀ b u, H b = some u → b = a ∨ b ∈ cs.map (·.2) := fun b u e => by
    by_cases z : b ∈ cs.map (·.2)
    · exact .inr z
    · rw [hN b z] at e
      exact .inl (only b u e).1
  have hok : HOk P w H s.heap := fun b u e => by
    by_cases z : b ∈ cs.map (·.2)
    · rw [hT b z] at e
      cases e
      exact tIn b z
    · rw [hN b z] at e
      exact (hok0 b u e).stay (fun c v _ q => q) (fun c q => sm _ _ q) fun c xs q => sm _ _ q
  have see : ∀ {b : Addr} {o : Obj}, s.heap.get? b = some o → H b = none → (hidT s.heap H).get? b = some o := fun e n => hidT_get e n
  have free : ∀ {b : Addr} {o : Obj}, s.heap.get? b = some o → (∀ es n, o.data ≠ .seq es n) → o.data ≠ .fields #[] → H b = none := fun {b o} e d1 d2 => by
    cases q : H b with
    | none => rfl
    | some u =>
      rcases who b u q with z | z
      · subst z
        rw [at_] at e
        cases e
        exact absurd rfl (d1 _ _)
      · rw [tIn b z] at e
        cases e
        exact absurd rfl d2
  have ns_ : ∀ {b : Addr} {m : Str → Option Value}, s.heap.Ns b m → (hidT s.heap H).Ns b m := fun ⟨o, es, n, e, d, r⟩ => ⟨o, es, n, see e (free e (fun es n z => by rw [d] at z; cases z) fun z => by rw [d] at z; cases z), d, r⟩
  have KB : K.In (hidT s.heap H) := fun b o e => see (KX b o e) (by
    cases q : H b with
    | none => rfl
    | some u =>
      by_cases z : b ∈ cs.map (·.2)
      · obtain ⟨p, hp, rfl⟩ := List.mem_map.mp z
        rw [tK p hp] at e
        cases e
      · rw [hN b z] at q
        obtain ⟨rfl, z2, _⟩ := only b u q
        rw [z2] at e
        cases e)
  have md : Mod K mg (hidT s.heap H) := ⟨KB, ns_ hns, ⟨mb, ns_ hb, hbb⟩, let ⟨mc, h1, h2⟩ := hlim; ⟨mc, ns_ h1, h2⟩⟩
  have TB : ∀ p ∈ cs, TabB (hidT s.heap H) mg p.1 p.2 := fun p hp => by
    have pT := tT p hp
    obtain ⟨oG, eG, nG, atG, dG, _⟩ := id hns
    refine ⟨?_, ?_, fun z => ?_⟩
    · obtain ⟨o, vs, file, tf, flags, tg, inF, text, tx, e1, c1, c2, c3, r⟩ := tC p hp
      refine ⟨o, vs, file, tf, flags, tg, inF, text, tx, see e1 (free e1 (fun es n z => by rw [c2] at z; cases z) fun z => ?_), c1, c2, c3, r⟩
      rw [c2] at z
      cases z
      cases c3
    · obtain ⟨bm, ob, b1, b2, b3, b4, b5, b6⟩ := hbm
      refine ⟨bm, ob, b1, b2, fun z => ?_, fun z => ?_, see b3 (free b3 (fun es n z => by rw [b6] at z; cases z) fun z => by rw [b6] at z; cases z), b4, b5, b6⟩
      · rw [z, atG] at b3
        cases b3
        rw [dG] at b6
        cases b6
      · rw [z, pT] at b3
        cases b3
        cases b6
    · rw [z, pT] at atG
      cases atG
      cases dG
  have e0 : Env0 P w K mg (hidT s.heap H) callerA [] s H := ⟨rfl, md, fun b o e => of_hidT e, Nat.le_of_eq (hidT_size _ _), trivial, fun b hb => (List.not_mem_nil hb).elim, hok, .of_eq hg⟩
  have tabs0 : Tabs tabs H := fun t ht => TabS.nil (hT _ (tt t ht))
  refine codeAny_mono ((F _ KB (ns_ hns) TB).go callerA [] s H ⟨[.ref a], []⟩ [.ref a] [.ref a] (fun v _ => v = .bl true) (fun _ _ _ => False) ⟨hr, rfl⟩ e0 (hbind s (.ref a)) (.cons rfl .nil) ⟨a, ns, rfl, sq, hl, tabs0, fun _ => rfl⟩) fun r s2 q => ?_
  match r, q with
  | .error e, q => exact (cx_false q).elim
  | .ok (.ret u), ⟨v, H2, os, bare, un, ok2, rv, ev⟩ =>
    subst ev
    obtain rfl : u = Value.bool true := rv
    have old : ∀ b o, b ∉ cs.map (·.2) → s.heap.get? b = some o → s2.heap.get? b = some o := fun b o z e => by
      cases q2 : H b with
      | none => exact un.keep b o e q2 (fun z => (List.not_mem_nil z).elim) (by simp)
      | some u =>
        rw [hN b z] at q2
        obtain ⟨rfl, _, ob, xs, rfl⟩ := only b u q2
        obtain ⟨z1, _⟩ := hok b _ (sm _ _ q2)
        obtain ⟨z2, _⟩ := ok2 b _ (un.frzs b ob _ (sm _ _ q2))
        rw [e] at z1
        cases z1
        exact z2
    have new : ∀ p ∈ cs, ∃ more : Array Value, s2.heap.get? p.2 = some { cls := .none, data := .fields more } := fun p hp => by
      obtain ⟨more, z⟩ := un.tbls p.2 #[] (hT _ (List.mem_map.mpr ⟨p, hp, rfl⟩))
      exact ⟨_, ok2 p.2 _ z⟩
    refine ⟨rfl, ⟨fun b o e => ?_, fun b o e => ?_⟩, os, bare⟩
    · by_cases z : b ∈ cs.map (·.2)
      · obtain ⟨p, hp, rfl⟩ := List.mem_map.mp z
        obtain ⟨more, hm⟩ := new p hp
        rw [tT p hp] at e
        cases e
        exact .inr (.inl ⟨((tC p hp).tab (tT p hp)).isCodeTable, rfl, #[], more, rfl, by rw [Array.empty_append]; exact hm⟩)
      · exact .inl (old b o z e)
    · by_cases z : b ∈ cs.map (·.2)
      · obtain ⟨p, hp, rfl⟩ := List.mem_map.mp z
        exact ⟨_, (new p hp).choose_spec⟩
      · exact ⟨o, old b o z e⟩
end
theorem walk_ofL {l : PySem.W.OpenLaw} {k : Nat} {q : Program} {loose : List Str} {XP : (Str → Option Value) → Heap → Prop} {YP : World → Heap → Prop} {d : DefRec} {x : Str}
    (hn : l.most = some 63) (hdf : d.params.defaults = []) (hr : Room k callerA)
    (F : ∀ (w : World) (mg : Str → Option Value) (fa : Addr) (h : Heap), YP w h → h.Ns mainGlobals mg → mg d.name = some (.ref fa) →
      ∃ (K : PySem.W.Frag) (fd : FuncData) (cs : List (Addr × Addr)) (tabs : List (Addr × Str)), K.In h ∧ (∀ p ∈ cs, PySem.W.CodeHd h p.1 p.2) ∧ (∀ p ∈ cs, h.get? p.2 = some { cls := .none, data := .fields #[] }) ∧ (∀ p ∈ cs, K.lookup p.2 = none) ∧ (∀ t ∈ tabs, t.1 ∈ cs.map (·.2)) ∧
        (∀ (s : Shared) (u : Value), BindsTo s fd ⟨[u], []⟩ [(x, u)]) ∧ ∀ base : Heap, K.In base → base.Ns mainGlobals mg → (∀ p ∈ cs, TabB base mg p.1 p.2) → FnG l.prog w K mg base k fa fd [x] (spLaw K tabs)) :
    PySem.W.WalkO q loose XP YP l.row.toRowW d [] (fun f vs => PySem.call f vs) :=
  Att.attach_call hn hdf fun w s₀ s₁ mg mb fa o pm cd doc a vs ns G Y ho hd hcd hmg hobj hints hlen hg => by
    obtain ⟨K, fd, cs, tabs, KX, t1, t2, t3, t4, hb, hF⟩ := F w mg fa _ Y G.T.g hmg
    exact law_callL KX G.T.g G.T.b G.T.builtins G.T.nolimit hg hobj hints hlen hr t1 t2 t3 t4 G.T.bmain hF hb
/-! ### the facts of the makers -/
/-- the tables, by the makers' names -/
def tabsOf (cs : List (Addr × Addr)) (lm : List Str) : List (Addr × Str) := (cs.map (·.2)).zip (lm.map (· ++ ".<locals>.<lambda>"))
theorem tabsOf_in {cs : List (Addr × Addr)} {lm : List Str} : ∀ t ∈ tabsOf cs lm, t.1 ∈ cs.map (·.2) := fun t ht => (List.of_mem_zip (show (t.1, t.2) ∈ _ from ht)).1
theorem tabsOf_at {cs : List (Addr × Addr)} {lm : List Str} {i : Nat} {x : Str} {p : Addr × Addr} (h1 : lm[i]? = some x) (h2 : cs[i]? = some p) : (p.2, x ++ ".<locals>.<lambda>") ∈ tabsOf cs lm := by
  refine List.mem_of_getElem? (i := i) ?_
  unfold tabsOf
  rw [List.getElem?_zip_eq_some]
  exact ⟨by rw [List.getElem?_map, h2]; rfl, by rw [List.getElem?_map, h1]; rfl⟩
theorem tabsOf_one {cs : List (Addr × Addr)} {lm : List Str} {i : Nat} {x : Str} {p : Addr × Addr} (nd : (cs.map (·.2)).Nodup) (h1 : lm[i]? = some x) (h2 : cs[i]? = some p) : ∀ t ∈ tabsOf cs lm, t.1 = p.2 → t.2 = x ++ ".<locals>.<lambda>" := fun t ht e => by
  obtain ⟨j, hj⟩ := List.mem_iff_getElem?.mp ht
  unfold tabsOf at hj
  rw [List.getElem?_zip_eq_some] at hj
  obtain ⟨j1, j2⟩ := hj
  have i1 : (cs.map (·.2))[i]? = some p.2 := by rw [List.getElem?_map, h2]; rfl
  obtain ⟨li, gi⟩ := List.getElem?_eq_some_iff.mp i1
  obtain ⟨lj, gj⟩ := List.getElem?_eq_some_iff.mp j1
  have : i = j := (List.getElem_inj nd).mp (gi.trans (e.symm.trans gj.symm))
  subst this
  rw [List.getElem?_map, h1] at j2
  exact (Option.some.inj j2).symm
theorem codeOf_fun {K : PySem.W.Frag} {x qual : Str} {st : Stmt} {fd : FuncData} {c : Addr} (F : L2.Fun K x qual st (ga K x) fd) (h : codeOf K x = some c) : fd.code = .ref c := by
  obtain ⟨oc, od, kV, doc, pm, an, cdv, ct, osl, rfl, lk, hcd⟩ := F.ex
  unfold codeOf at h
  rw [lk] at h
  dsimp only at h
  split at h
  · cases h
    rfl
  · cases h
end Pev
/-! Pev: small things for lambdas. -/
namespace Pev
open PySem PySem.Spec PyProof.Rows L2 He
theorem LamsAt.all {h : Heap} {K : PySem.W.Frag} {lm : List Str} (x : LamsAt h K lm) : ∃ cs : List (Addr × Addr), (∀ p ∈ cs, PySem.W.CodeHd h p.1 p.2) ∧ (∀ p ∈ cs, h.get? p.2 = some { cls := .none, data := .fields #[] }) ∧ (∀ p ∈ cs, K.lookup p.2 = none) ∧ (cs.map (·.2)).Nodup ∧
    ∀ (i : Nat) (y : Str), lm[i]? = some y → ∃ p, cs[i]? = some p ∧ codeOf K y = some p.1 := by
  obtain ⟨cs, l1, l2, l3⟩ := x
  have one : ∀ p ∈ cs, ∃ y, LamAt h K y p.1 p.2 := fun p hp => by
    obtain ⟨i, hi⟩ := List.mem_iff_getElem?.mp hp
    obtain ⟨li, _⟩ := List.getElem?_eq_some_iff.mp hi
    exact ⟨lm[i]'(by omega), l2 i _ p (List.getElem?_eq_getElem _) hi⟩
  refine ⟨cs, fun p hp => let ⟨_, z⟩ := one p hp; z.hd, fun p hp => let ⟨_, z⟩ := one p hp; z.tab, fun p hp => let ⟨_, z⟩ := one p hp; z.out, l3, fun i y hy => ?_⟩
  obtain ⟨li, _⟩ := List.getElem?_eq_some_iff.mp hy
  have lc : i < cs.length := by omega
  exact ⟨cs[i], List.getElem?_eq_getElem lc, (l2 i y _ hy (List.getElem?_eq_getElem lc)).code⟩
theorem tabsOf_at2 {cs : List (Addr × Addr)} {lm : List Str} {i : Nat} {x q : Str} {p : Addr × Addr} (h1 : lm[i]? = some x) (h2 : cs[i]? = some p) (e : x ++ ".<locals>.<lambda>" = q) : (p.2, q) ∈ tabsOf cs lm := e ▸ tabsOf_at h1 h2
theorem tabsOf_one2 {cs : List (Addr × Addr)} {lm : List Str} {i : Nat} {x q : Str} {p : Addr × Addr} (nd : (cs.map (·.2)).Nodup) (h1 : lm[i]? = some x) (h2 : cs[i]? = some p) (e : x ++ ".<locals>.<lambda>" = q) : ∀ t ∈ tabsOf cs lm, t.1 = p.2 → t.2 = q := e ▸ tabsOf_one nd h1 h2
end Pev
/-! Pev: plain facts about sorting with keys. -/
namespace Pev
open PySem PySem.Spec PyProof.Rows L2
end Pev
/-! Pev: plain facts about a list of own lists. -/
namespace Pev
open PySem PySem.Spec PyProof.Rows L2
/-- numbers in a cell -/
def nr (v : List Nat) : List R := v.map fun m => R.dat (.int (m : Nat))
theorem ixR {S : Sto} {k : Nat} {rs : List R} {i : Nat} {r : R} (h : S[k]? = some (.lst rs)) (hr : rs[i]? = some r) : bIx (.obj k) (.dat (.int (i : Nat))) S = .ok r S := by
  unfold bIx
  dsimp only
  rw [show lv S (.obj k) = some rs by unfold lv; dsimp only; rw [h]]
  dsimp only
  rw [atI_of (by omega) (by have := (List.getElem?_eq_some_iff.mp hr).1; omega)]
  dsimp only
  have e : rs[((i : Nat) : Int).toNat]? = some r := by rw [Int.toNat_natCast]; exact hr
  rw [List.getElem?_eq_getElem (by have := (List.getElem?_eq_some_iff.mp e).1; exact this)] at e
  rw [Option.some.inj e]
theorem ap_get {X T : Sto} {k : Nat} {c : Cell} (h : X[k]? = some c) : (X ++ T)[k]? = some c := by
  rw [List.getElem?_append_left (List.getElem?_eq_some_iff.mp h).1]
  exact h
theorem st_ne {X : Sto} {j k : Nat} {c d : Cell} (h : X[k]? = some c) (e : j ≠ k) : (X.set j d)[k]? = some c := by rw [List.getElem?_set_ne e]; exact h
/-- cell o is a list of the lists ks, which hold these rows -/
structure Mx (X : Sto) (o : Nat) (rows : List (List R)) (ks : List Nat) : Prop where
  kl : ks.length = rows.length
  out : X[o]? = some (.lst (ks.map R.obj))
  row : ∀ (h : Nat) (v : List R), rows[h]? = some v → ∃ k, ks[h]? = some k ∧ X[k]? = some (.lst v)
  ne : o ∉ ks
  nd : ks.Nodup
section
variable {X : Sto} {o : Nat} {rows : List (List R)} {ks : List Nat}
theorem Mx.app (h : Mx X o rows ks) (T : Sto) : Mx (X ++ T) o rows ks := ⟨h.kl, ap_get h.out, fun i v hv => by
  obtain ⟨k, e1, e2⟩ := h.row i v hv
  exact ⟨k, e1, ap_get e2⟩, h.ne, h.nd⟩
theorem Mx.at (h : Mx X o rows ks) {i : Nat} {v : List R} (hv : rows[i]? = some v) : ∃ k, ks[i]? = some k ∧ X[k]? = some (.lst v) ∧ bIx (.obj o) (.dat (.int (i : Nat))) X = .ok (.obj k) X := by
  obtain ⟨k, e1, e2⟩ := h.row i v hv
  exact ⟨k, e1, e2, ixR h.out (by rw [List.getElem?_map, e1]; rfl)⟩
theorem snap_nr {S : Sto} {n k : Nat} {v : List Nat} (h : S[k]? = some (.lst (nr v))) : snap S (n + 1) (.obj k) = some (.list (v.map fun m => .int (m : Nat))) := snap_obj (fun m : Nat => PyData.int (m : Nat)) v h
theorem Mx.snap {vs : List (List Nat)} {n : Nat} (h : Mx X o (vs.map nr) ks) : snap X (n + 2) (.obj o) = some (.list (vs.map fun v => .list (v.map fun m => .int (m : Nat)))) := by
  show (match X[o]? with
    | some (.lst rs) => (rs.mapM (Pev.snap X (n + 1))).map PyData.list
    | _ => none) = _
  rw [h.out]
  dsimp only
  have key : ∀ (ks : List Nat) (vs : List (List Nat)), ks.length = vs.length → (∀ (i : Nat) (v : List Nat), vs[i]? = some v → ∃ k, ks[i]? = some k ∧ X[k]? = some (.lst (nr v))) → (ks.map R.obj).mapM (Pev.snap X (n + 1)) = some (vs.map fun v => .list (v.map fun m => .int (m : Nat))) := by
    intro ks
    induction ks with
    | nil =>
      intro vs hl _
      cases vs with
      | nil => rfl
      | cons => cases hl
    | cons k ks ih =>
      intro vs hl hr
      cases vs with
      | nil => cases hl
      | cons v vs =>
        obtain ⟨k', e1, e2⟩ := hr 0 v rfl
        cases e1
        rw [List.map_cons, List.mapM_cons, snap_nr e2, ih vs (by simpa using hl) fun i u hu => by
          obtain ⟨k', e1, e2⟩ := hr (i + 1) u (by simpa using hu)
          exact ⟨k', by simpa using e1, e2⟩]
        rfl
  rw [key ks vs (by rw [h.kl, List.length_map]) fun i v hv => h.row i _ (by rw [List.getElem?_map, hv]; rfl)]
  rfl
end
-- the steps alone: what values do is told by the rules that are handed in
end Pev
/-! Pev: is, is not of bools. -/
namespace Pev
open PySem PySem.Spec PyProof.Rows L2
section
variable {T : Tb}
end
end Pev
/-! Pev: plain facts: lists of own lists are made and walked; cells grow. -/
namespace Pev
open PySem PySem.Spec PyProof.Rows L2
theorem same_objL (l : List Nat) : sameRs (l.map R.obj) (l.map R.obj) = true := by
  induction l with
  | nil => rfl
  | cons a l ih =>
    rw [List.map_cons]
    unfold sameRs
    rw [ih]
    simp [sameR]
section
variable {X : Sto} {o : Nat} {rows : List (List R)} {ks : List Nat}
theorem Mx.stands (h : Mx X o rows ks) : stands X [(o, ks.map R.obj)] = true := stands_one h.out (same_objL ks)
theorem Mx.it (h : Mx X o rows ks) : itOf (.obj o) X = .ok ⟨ks.map R.obj, [(o, ks.map R.obj)]⟩ X := by
  unfold itOf
  dsimp only
  rw [h.out]
/-- the lists are walked; each turn leaves the store -/
theorem Mx.lc (h : Mx X o rows ks) {g : GM} {elt : EM} {ρ : Rho} (f : List R → R) (hh : ∀ (i k : Nat) (v : List R), rows[i]? = some v → X[k]? = some (.lst v) → ∃ ρ1, g (.obj k) ρ = some ρ1 ∧ elt ρ1 X = .ok (f v) X) : lcLoop [(o, ks.map R.obj)] g tYes' elt ρ (ks.map R.obj) X = .ok (rows.map f) X := by
  have key := lc_pure (keep := [(o, ks.map R.obj)]) (g := g) (t := tYes') (elt := elt) (ρ := ρ) (S := X) (fun p : Nat × List R => R.obj p.1) (fun _ => true) (fun p => f p.2) h.stands (ks.zip rows) fun p hp => by
    obtain ⟨i, hi⟩ := List.mem_iff_getElem?.mp hp
    rw [List.getElem?_zip_eq_some] at hi
    obtain ⟨k, e1, e2⟩ := h.row i _ hi.2
    rw [hi.1] at e1
    cases e1
    obtain ⟨ρ1, q1, q2⟩ := hh i p.1 p.2 hi.2 e2
    exact ⟨ρ1, q1, rfl, fun _ => q2⟩
  rw [List.filter_eq_self.mpr fun _ _ => rfl] at key
  have e1 : (ks.zip rows).map (fun p => R.obj p.1) = ks.map R.obj := by
    rw [show (fun p : Nat × List R => R.obj p.1) = R.obj ∘ Prod.fst from rfl, ← List.map_map, List.map_fst_zip (by rw [h.kl]; exact Nat.le_refl _)]
  have e2 : (ks.zip rows).map (fun p => f p.2) = rows.map f := by
    rw [show (fun p : Nat × List R => f p.2) = f ∘ Prod.snd from rfl, ← List.map_map, List.map_snd_zip (by rw [h.kl]; exact Nat.le_refl _)]
  rw [e1, e2] at key
  exact key
theorem Mx.lt (h : Mx X o rows ks) {k : Nat} (hk : k ∈ ks) : k < X.length := by
  obtain ⟨i, hi⟩ := List.mem_iff_getElem?.mp hk
  have hl : i < rows.length := by rw [← h.kl]; exact (List.getElem?_eq_some_iff.mp hi).1
  obtain ⟨k', e1, e2⟩ := h.row i _ (List.getElem?_eq_getElem hl)
  rw [hi] at e1
  cases e1
  exact (List.getElem?_eq_some_iff.mp e2).1
/-- another cell is written -/
theorem Mx.other (h : Mx X o rows ks) {l : Nat} (c : Cell) (h1 : l ≠ o) (h2 : l ∉ ks) : Mx (X.set l c) o rows ks := ⟨h.kl, st_ne h.out h1, fun i v hv => by
  obtain ⟨k, e1, e2⟩ := h.row i v hv
  exact ⟨k, e1, st_ne e2 fun z => h2 (z ▸ List.mem_of_getElem? e1)⟩, h.ne, h.nd⟩
end
theorem lenO {S : Sto} {k : Nat} {rs : List R} (h : S[k]? = some (.lst rs)) (hl : rs.length ≤ 10000) : gLen [.obj k] S = .ok (.dat (.int (rs.length : Nat))) S := by
  have sz := sz_of hl
  simp only [Pev.fnB, Pev.OutS.toF, Pev.sCons, Pev.sSet, Pev.sRet, Pev.sRetN, Pev.sIf, Pev.sSkip, Pev.sExpr, Pev.sTgt, Pev.sFor, Pev.sRaise, Pev.sPut, Pev.putAt, Pev.sPar2, Pev.sPar3, Pev.sTry, Pev.hRun, Pev.OutS.fade, Pev.OutS.calm, Pev.Out.toS, Pev.Out.bind, Pev.noX, Pev.eVar, Pev.eC, Pev.eBin, Pev.eUn, Pev.eArgs, Pev.aCons, Pev.aNil, Pev.needN, Pev.eAnd, Pev.eOr, Pev.eNot, Pev.eIf, Pev.mAnd, Pev.mOr, Pev.mNot, Pev.mB, Pev.mT, Pev.eChain, Pev.truth, Pev.ans, Pev.ofT, Pev.ofB, Pev.bAdd, Pev.bSub, Pev.bMul, Pev.bDiv, Pev.bMod, Pev.bLt, Pev.bLe, Pev.bGt, Pev.bGe, Pev.bIsN, Pev.isNone?, Pev.uNeg, Pev.bIx, Pev.lv, Pev.lvt, Pev.gLen, Pev.gAbs, Pev.gInt, Pev.gBool, Pev.gList, Pev.gTuple, Pev.gTup, Pev.gLst, Pev.newL, Pev.newT, Pev.datAll, Pev.R.d?, Pev.uIs, Pev.tyOf, Pev.eLc, Pev.iOf, Pev.itOf, Pev.iArgs, Pev.gRange1, Pev.gRange2, Pev.gN, Pev.gTp, Pev.gsCons, Pev.gsNil, Pev.tv, Pev.eBMl, Pev.gAppend, Pev.gPop, Pev.gExtend, Pev.cellOf, Pev.eFld, Pev.tYes', Pev.wipeR, Pev.permL, List.map_cons, List.map_nil, List.length_cons, List.length_nil, List.cons_append, List.nil_append, List.append_nil, List.replicate, List.getElem?_cons_zero, List.getElem?_cons_succ, List.getElem?_nil, List.set_cons_zero, List.set_cons_succ, List.set_nil, List.filterMap_cons, List.filterMap_nil, Option.map_some, Option.map_none, Option.bind_some, Option.bind_none, if_true, if_false, Bool.not_true, Bool.not_false, Nat.reduceSub, Nat.reduceAdd, Nat.reduceEqDiff, Nat.reduceLeDiff, reduceIte, ite_true, ite_false, Bool.true_eq_false, Bool.false_eq_true, ↓reduceIte, Nat.zero_add, Nat.add_zero, Nat.sub_zero, Pev.outD_dat, Pev.snap_dat, Pev.outX, List.any_cons, List.any_nil, List.all_cons, List.all_nil, id_eq, Bool.or_false, Bool.or_true, Bool.true_or, Bool.false_or, Bool.and_true, Bool.true_and, Bool.and_false, Bool.false_and, Bool.and_self, Bool.or_self, Int.cast_ofNat_Int, decide_true, decide_false, Pev.isa_self, Pev.isa_bi, Pev.isa_tl, Pev.isa_lt, Pev.isa_ti, Pev.isa_li, Pev.isa_it, Pev.gAll, Pev.gAny, Pev.gSum, Pev.bls?, Pev.ints?, Pev.eq_ints, Pev.datAll_map, Pev.map_dat, Pev.app_map, Pev.datAll_f, Pev.ints_f, Pev.bls_f, Pev.at0, Pev.at1, Pev.at2, Pev.atLast, Pev.two_small, Pev.three_small, Pev.one_small, Pev.nil_small, Pev.oPart, Pev.toI, Pev.eSl, Pev.gSl, Pev.uRev, List.isEmpty_cons, List.isEmpty_nil, h, sz]
/-- a cell's list grows -/
theorem appO {S : Sto} {k : Nat} {rs : List R} {mo me : EM} {ρ : Rho} {y : R} (ho : mo ρ S = .ok (.obj k) S) (hk : S[k]? = some (.lst rs)) (hy : me ρ S = .ok y S) (hl : rs.length < 10000) : sExpr (eBMl gAppend mo (aCons me aNil)) ρ S = .nx ρ (S.set k (.lst (rs ++ [y]))) := by
  have sz := sz_lt (show rs.length ≤ 10000 by omega)
  have l0 : lv S (.obj k) = some rs := by
    unfold lv
    dsimp only
    rw [hk]
  show ((eBMl gAppend mo (aCons me aNil)) ρ S).toS ρ _ = _
  unfold eBMl
  rw [ho]
  show ((match lv S (.obj k) with
    | some _ => ((aCons me aNil) ρ S).bind fun xs S2 => gAppend (.obj k) xs S2
    | none => .stuck) : Out R).toS ρ _ = _
  rw [l0]
  have a1 : (aCons me aNil) ρ S = .ok [y] S := by
    unfold aCons
    rw [hy]
    rfl
  dsimp only
  rw [a1]
  show (gAppend (.obj k) [y] S).toS ρ _ = _
  unfold gAppend cellOf
  dsimp only
  rw [hk]
  dsimp only
  rw [if_pos (of_eq_true sz)]
  rfl
end Pev
/-! Pev: pop at a place; comprehensions that change the store, turn by turn. -/
namespace Pev
open PySem PySem.Spec PyProof.Rows L2
def gPopI (x : R) (xs : List R) (S : Sto) : Out R := match cellOf S x, xs with
  | some (k, rs), [.dat (.int i)] => if -(2 ^ 63) ≤ i ∧ i < 2 ^ 63 then (match seqIndex? i rs.length with
    | some j => (match rs[j]? with
      | some y => .ok y (S.set k (.lst (rs.eraseIdx j)))
      | none => .stuck)
    | none => .stuck) else .stuck
  | _, _ => .stuck
theorem snd_popI {T : Tb} : SndM T rPopAt gPopI := by
  intro β W σ α S H x xs v vs Q Rr hx hxs h
  unfold gPopI at h
  split at h
  · rename_i k rs i e
    split at h
    · rename_i hi
      split at h
      · rename_i j hj
        split at h
        · rename_i y hy
          obtain ⟨q, a, us, rfl, e1, e2, e3⟩ := cellOf_ok Rr hx e
          obtain ⟨w, rfl, hw⟩ := vrs1 hxs
          cases vr_int hw
          obtain ⟨z, z1, z2⟩ := e3.get hy
          obtain ⟨R4, x4⟩ := Rr.write q e1 (e3.eraseIdx j)
          exact ⟨a, us, i, j, z, rfl, rfl, e2, hi.1, hi.2, by rw [← e3.length]; exact hj, z1, h α _ z x4 R4 (z2.ext x4)⟩
        · exact h.elim
      · exact h.elim
    · exact h.elim
  · exact h.elim
theorem seqIx {n j : Nat} (h : j < n) : seqIndex? (j : Int) n = some j := by
  unfold seqIndex?
  have h0 : ¬ ((j : Int) < 0) := by omega
  simp only [h0, if_false]
  simp [h]
/-- an item is popped from a cell's list -/
theorem popI_ok {S : Sto} {k j : Nat} {rs : List R} {y : R} (hk : S[k]? = some (.lst rs)) (hy : rs[j]? = some y) (hl : rs.length ≤ 10000) : gPopI (.obj k) [.dat (.int (j : Nat))] S = .ok y (S.set k (.lst (rs.eraseIdx j))) := by
  have hj := (List.getElem?_eq_some_iff.mp hy).1
  unfold gPopI cellOf
  dsimp only
  rw [hk]
  dsimp only
  rw [if_pos ⟨by omega, by omega⟩, seqIx hj]
  dsimp only
  rw [hy]
end Pev
/-! Pev: max, min of a list or a tuple of data. -/
namespace Pev
open PySem PySem.Spec PyProof.Rows L2
section
variable {X : Cx}
end
end Pev
/-! Pev: zip of lists and tuples in any mix; the target may be one name, so that the pair stays. -/
namespace Pev
open PySem PySem.Spec PyProof.Rows L2 RZ
/-- a list or (t) a tuple; what walks it -/
def ItX (t : Bool) (h : Heap) (j l : Addr) (i : Nat) : Prop := match t with
  | true => h.IsTupleIter j l i
  | false => h.IsListIter j l i
def SqX (t : Bool) (h : Heap) (l : Addr) (xs : Array Value) : Prop := match t with
  | true => h.IsTuple l xs
  | false => h.IsList l xs
theorem ItX.extBut {t : Bool} {h h' : Heap} {a b l : Addr} {i : Nat} (x : ItX t h a l i) (hs : Heap.ExtBut b h h') (hab : a ≠ b) : ItX t h' a l i := match t, x with
  | true, x => Heap.IsTupleIter.extBut x hs hab
  | false, x => Heap.IsListIter.extBut x hs hab
theorem ItX.at {t : Bool} {h h' : Heap} {a l : Addr} {i : Nat} (x : ItX t h a l i) (e : ∀ o, h.get? a = some o → h'.get? a = some o) : ItX t h' a l i := match t, x with
  | true, x => Heap.IsTupleIter.at x e
  | false, x => Heap.IsListIter.at x e
theorem SqX.extBut {t : Bool} {h h' : Heap} {a b : Addr} {xs : Array Value} (x : SqX t h a xs) (hs : Heap.ExtBut b h h') (hab : a ≠ b) : SqX t h' a xs := match t, x with
  | true, x => Heap.IsTuple.extBut x hs hab
  | false, x => Heap.IsList.extBut x hs hab
theorem ItX.obj {t : Bool} {h : Heap} {a l : Addr} {i : Nat} (x : ItX t h a l i) : ∃ o, h.get? a = some o ∧ ∀ v, o.data ≠ .cell v := match t, x with
  | true, ⟨o, e, _, d⟩ => ⟨o, e, fun v q => by rw [d] at q; cases q⟩
  | false, ⟨o, e, _, d⟩ => ⟨o, e, fun v q => by rw [d] at q; cases q⟩
section
variable {prog : Program} {w : World} {A : Around} {E : Value → Shared → Prop} {s : Shared}
end
/-- a zip; f0: what it gave out and has not got back -/
abbrev ZipS (h : Heap) (zz tI tO : Addr) (f0 : Value) (f : Bool) : Prop :=
  h.get? zz = some { cls := .type "zip", dict := none, data := .fields #[f0, .bool f, .bool false, .ref tI, .ref tO], slots := #[] }
/-- what it may be between two turns -/
def ZipA (h : Heap) (zz tI tO : Addr) : Prop := ∃ f0 f, ZipS h zz tI tO f0 f ∧ (f0 = .none ∨ ∃ g : Addr, f0 = rawInt g)
section
variable {prog : Program} {w : World} {A : Around} {E : Value → Shared → Prop} {s : Shared}
variable {zz tI tO j1 j2 l1 l2 : Addr} {k1 k2 : Nat} {t u : Bool} {xs ys : Array Value} {x y a b : Value}
end
end Pev
/-! Pev: zip of two, lists or tuples, walked. -/
namespace Pev
open PySem PySem.Spec PyProof.Rows L2 RZ
section
variable {prog : Program} {w : World} {A : Around} {E : Value → Shared → Prop} {s : Shared} {zz tI tO j1 j2 l1 l2 : Addr} {k1 k2 : Nat} {t u : Bool} {xs ys : Array Value} {x y a b : Value}
end
theorem ZipA.keep {h h' : Heap} {zz tI tO : Addr} (hz : ZipA h zz tI tO) (k : ∀ o, h.get? zz = some o → h'.get? zz = some o) : ZipA h' zz tI tO := by
  obtain ⟨f0, f, z, q⟩ := hz
  exact ⟨f0, f, k _ z, q⟩
/-- a sequence of values, as it is told -/
def SqV (t : Bool) (K : PySem.W.Frag) (H : Hp) (a : Addr) (xs : List V) : Prop := match t with
  | true => SqT K H a xs
  | false => SqL K H a xs
theorem SqV.get {X : Cx} {pins : List (Addr × Obj)} {σ : L2.St} {H : Hp} {s : Shared} {t : Bool} {a : Addr} {xs : List V} (I : Inv X pins σ H s) (h : SqV t X.K H a xs) : ∃ its : List Value, Vals xs its ∧ SqX t s.heap a its.toArray ∧ a < s.heap.objs.size := match t, h with
  | true, h => by
    obtain ⟨its, r, p, _⟩ := I.tuple h
    obtain ⟨o, e, _⟩ := id p
    exact ⟨its, r, p, Heap.lt_size e⟩
  | false, h => by
    obtain ⟨its, r, p, _⟩ := I.list h
    exact ⟨its, r, p.isList, p.lt⟩
theorem SqV.inj {X : Cx} {pins : List (Addr × Obj)} {σ : L2.St} {H : Hp} {s : Shared} {t : Bool} {a : Addr} {xs ys : List V} (I : Inv X pins σ H s) (h : SqV t X.K H a xs) (h' : SqV t X.K H a ys) : xs = ys := match t, h, h' with
  | true, h, h' => I.tuple_inj h h'
  | false, h, h' => I.list_inj h h'
/-- what a zip between two turns is -/
structure ZipT (h : Heap) (t u : Bool) (zz tI tO j1 j2 a b : Addr) (i : Nat) : Prop where
  z : ZipA h zz tI tO
  pI : IsPair h tI (.ref j1) (.ref j2)
  pO : ∃ x y, IsPair h tO x y
  i1 : ItX t h j1 a i
  i2 : ItX u h j2 b i
theorem ZipT.obj {h : Heap} {t1 t2 : Bool} {zz tI tO j1 j2 a b : Addr} {i : Nat} (t : ZipT h t1 t2 zz tI tO j1 j2 a b i) : ∀ c ∈ [zz, tI, tO, j1, j2], ∃ o, h.get? c = some o ∧ ∀ v, o.data ≠ .cell v := by
  intro c hc
  obtain ⟨f0, f, z, _⟩ := t.z
  obtain ⟨x, y, po⟩ := t.pO
  have hc : c = zz ∨ c = tI ∨ c = tO ∨ c = j1 ∨ c = j2 := by simpa using hc
  rcases hc with q | q | q | q | q
  · rw [q]; exact ⟨_, z, fun v q => nomatch q⟩
  · rw [q]; exact ⟨_, t.pI, fun v q => nomatch q⟩
  · rw [q]; exact ⟨_, po, fun v q => nomatch q⟩
  · rw [q]; exact t.i1.obj
  · rw [q]; exact t.i2.obj
theorem ZipT.keep {h h' : Heap} {t1 t2 : Bool} {zz tI tO j1 j2 a b : Addr} {i : Nat} (t : ZipT h t1 t2 zz tI tO j1 j2 a b i) (k : ∀ c ∈ [zz, tI, tO, j1, j2], ∀ o, h.get? c = some o → h'.get? c = some o) : ZipT h' t1 t2 zz tI tO j1 j2 a b i :=
  ⟨t.z.keep (k zz (by simp)), k tI (by simp) _ t.pI, let ⟨x, y, p⟩ := t.pO; ⟨x, y, k tO (by simp) _ p⟩, t.i1.at fun o q => k j1 (by simp) o q, t.i2.at fun o q => k j2 (by simp) o q⟩
/-! ### a zip is made -/
end Pev
/-! Pev: zip of two, lists or tuples, any target: what is walked. -/
namespace Pev
open PySem PySem.Spec PyProof.Rows L2
section
variable {K : Tb} {β : List Addr} {α : List (Option Addr)} {H : Hp} {S : Sto}
end
end Pev
/-! Pev: sorted(t, key=f) of a tuple. -/
namespace Pev
open PySem PySem.Spec PyProof.Rows L2
open LamX (CodeO TabB)
section
variable {prog : Program} {w : World} {A : Around} {E : Value → Shared → Prop} {s : Shared}
end
section
variable {X : Cx} {pins : List (Addr × Obj)} {σ : L2.St} {H : Hp} {s : Shared}
end
section
variable {X : Cx} {T : Tb} {pins : List (Addr × Obj)} {σ : L2.St} {β : List Addr}
end
end Pev
/-! Pev: enumerate over a zip of two, lists or tuples. -/
namespace Pev
open PySem PySem.Spec PyProof.Rows L2 RZ
section
variable {prog : Program} {w : World} {A : Around} {E : Value → Shared → Prop} {s : Shared}
variable {zz tI tO j1 j2 l1 l2 : Addr} {k1 k2 : Nat} {t u : Bool} {xs ys : Array Value} {x y a b : Value}
end
end Pev
/-! Pev: enumerate over a zip of two, lists or tuples: how it begins, what is walked. -/
namespace PySem
open Sem (wp)
end PySem
namespace Pev
open PySem PySem.Spec PyProof.Rows L2 RZ
section
variable {K : Tb} {β : List Addr} {α : List (Option Addr)} {H : Hp} {S : Sto}
end
end Pev
namespace Pev
open PySem PySem.Spec PyProof.Rows L2 RZ
section
variable {K : Tb} {β : List Addr} {α : List (Option Addr)} {H : Hp} {S : Sto}
end
end Pev
/-! Pev: the items of a list of data to several names. -/
namespace Pev
open PySem PySem.Spec PyProof.Rows L2
section
variable {X : Cx} {T : Tb} {vs : List Nat} {pos : Pos} {es : List Expr} {gs : GsM}
end
end Pev
/-! Pev: a tuple no times. -/
namespace Pev
open PySem PySem.Spec PyProof.Rows L2
end Pev
/-! Pev: lambdas without parameters: made, in a tuple with what is due, unpacked. -/
namespace Pev
open PySem PySem.Spec PyProof.Rows L2
open LamX (CodeO TabS Tabs ExtN TabB inv_table codeO_ne among_app lamEnv LamS)
/-- X's lambda -/
abbrev lamI (X : Cx) (params : Arguments) (body : Expr) (scope : Scope) : LamI := ⟨X.env.qual ++ "<lambda>", params, body, scope, cloFrom X.env.cells scope.names []⟩
theorem lamOb_nt {a : Addr} {L : LamI} {pm : Value} {c' : Addr} {ctv : Value} : NT (LamOb a L pm c' ctv) := by unfold LamOb; trivial
theorem codeO_nt {c : Addr} {q : Str} : NT (CodeO c q) := by unfold CodeO; trivial
section
variable {X : Cx} {pins : List (Addr × Obj)} {σ : L2.St} {H : Hp} {s : Shared}
theorem lam_newO {T : List (Addr × Str)} {c P : Addr} {params : Arguments} {body : Expr} {scope : Scope} {pos : Pos} {E : Value → Shared → Prop} {Q : Value → Shared → Prop} (I : Inv X pins σ H s) (B : TabB X.base X.mg c P) (hc : X.env.code = .ref c)
    (hm : (P, X.env.qual ++ "<lambda>") ∈ T) (one : ∀ t ∈ T, t.1 = P → t.2 = X.env.qual ++ "<lambda>") (hT : Tabs T H) (nd : defaultsOf params X.env = ([], [])) (fr : ∀ y ∈ scope.names, y.2 = .free → ∃ c, X.env.cells.lookup y.1 = some c)
    (h : ∀ (f c' : Addr) (pm ctv : Value) (H1 : Hp) (s1 : Shared), Inv X pins σ H1 s1 → SmN H H1 → Tabs T H1 → H f = none → (H c' = none ∨ H c' = some (CodeO c' (X.env.qual ++ "<lambda>"))) → H1 f = some (LamOb f (lamI X params body scope) pm c' ctv) → H1 c' = some (CodeO c' (X.env.qual ++ "<lambda>")) → Q (.ref f) s1) :
    wpAny (model X.prog X.w) X.A (eval (.Lambda params body scope pos) X.env) Q E s := by
  obtain ⟨ps, tP, t3, tc⟩ := hT _ hm
  have oP : s.heap.get? P = some { cls := .none, data := .fields ps } := I.hok P _ tP
  have bP : s.heap.BuiltinsAt X.mg P := B.bm.keeps I.bk
  have gl := I.mod.glob.keeps I.bk
  have cl := closure_ok (scope := scope) (env := X.env) fr
  refine PySem.W.kla_eval nd ?_
  cases q : codeAmong pos ps.toList with
  | some cv =>
    obtain ⟨c', rfl, hco⟩ := tc pos cv q
    refine PySem.W.kla_makeFunctionHit cl I.ok.glob gl hc (B.code.keeps I.bk) oP t3 q bP fun ctv h1 tk k1 z1 => ?_
    have nf : H h1.objs.size = none := I.hok.fresh z1
    refine h h1.objs.size c' ((X.mg "__name__").getD .none) ctv _ _ (I.laid (t' := tk) (a := h1.objs.size) (o := LamOb h1.objs.size (lamI X params body scope) ((X.mg "__name__").getD .none) c' ctv) (fun b o e => Heap.get?_push_of_some _ (k1 b o e)) z1 ?_) ⟨fun b o _ e => by rw [upd_ne (ne_of_none e nf)]; exact e, fun b e => by
      by_cases z : b = h1.objs.size
      · rw [z, upd_same]; simp
      · rw [upd_ne z]; exact e⟩ (hT.ext (same_new nf)) nf (.inr hco) upd_same (by rw [upd_ne (ne_of_none hco nf)]; exact hco)
    exact ⟨Heap.get?_push_size _ rfl, ⟨_, Heap.get?_push_size _ rfl⟩, fun h1 h2 e st => st _ e⟩
  | none =>
    refine PySem.W.kla_makeFunction cl I.ok.glob gl hc (B.code.keeps I.bk) oP t3 q B.gP bP fun c' ctv h1 tk k1 g1 g2 g3 g4 => ?_
    obtain ⟨c2, oc, vs, t, e0, eo, ed, ev⟩ := g3
    cases e0
    have nc : H c' = none := I.hok.fresh g1
    have z1 : s.heap.objs.size ≤ h1.objs.size := Nat.le_trans g1 (Nat.le_of_lt g2)
    have pc : P ≠ c' := ne_of_none tP nc
    have I1 := inv_table (t' := tk) (more := #[rawInt pos.line, rawInt pos.col, .ref c']) (h' := h1) I tP (fun b o hb e => k1 b o hb e) g4 g1 ⟨oc, vs, t, eo, ed, ev⟩
    generalize hH : upd (upd H P (.tbl (ps ++ #[rawInt pos.line, rawInt pos.col, .ref c']))) c' (CodeO c' (X.env.qual ++ "<lambda>")) = H1 at I1
    have atC : H1 c' = some (CodeO c' (X.env.qual ++ "<lambda>")) := by rw [← hH, upd_same]
    have atP : H1 P = some (.tbl (ps ++ #[rawInt pos.line, rawInt pos.col, .ref c'])) := by rw [← hH, upd_ne pc, upd_same]
    have els : ∀ b, b ≠ P → b ≠ c' → H1 b = H b := fun b h1 h2 => by rw [← hH, upd_ne h2, upd_ne h1]
    have sm : SmN H H1 := ⟨fun b o n e => by
      rw [els b (fun z => by rw [z, tP] at e; cases e; exact n) (ne_of_none e nc)]
      exact e, fun b hb z => by
      by_cases h1 : b = P
      · rw [h1, atP] at z; cases z
      · by_cases h2 : b = c'
        · rw [h2, atC] at z; cases z
        · rw [els b h1 h2] at z; exact hb z⟩
    have nf0 : H h1.objs.size = none := I.hok.fresh z1
    have nf : H1 h1.objs.size = none := by
      rw [els _ (Nat.ne_of_gt (Nat.lt_of_lt_of_le (Heap.lt_size oP) z1)) (Nat.ne_of_gt g2)]
      exact nf0
    have T1 : Tabs T H1 := fun t' ht => by
      by_cases hb : t'.1 = P
      · rw [one t' ht hb, hb]
        have el : (ps ++ #[rawInt pos.line, rawInt pos.col, .ref c']).toList = ps.toList ++ [rawInt pos.line, rawInt pos.col, .ref c'] := by simp
        refine ⟨_, atP, by rw [el]; exact PySem.TriplesOk_snoc _ _ _ _ t3, fun p2 cv hcv => ?_⟩
        rw [el] at hcv
        rcases among_app _ t3 hcv with z | z
        · obtain ⟨c0, a1, a2⟩ := tc p2 cv z
          exact ⟨c0, a1, sm.keep _ _ codeO_nt a2⟩
        · exact ⟨c', z, atC⟩
      · obtain ⟨ps2, a1, a2, a3⟩ := hT t' ht
        refine ⟨ps2, by rw [els _ hb (ne_of_none a1 nc)]; exact a1, a2, fun p2 cv hcv => ?_⟩
        obtain ⟨c0, b1, b2⟩ := a3 p2 cv hcv
        exact ⟨c0, b1, sm.keep _ _ codeO_nt b2⟩
    refine h h1.objs.size c' ((X.mg "__name__").getD .none) ctv _ _ (I1.laid (t' := tk) (a := h1.objs.size) (o := LamOb h1.objs.size (lamI X params body scope) ((X.mg "__name__").getD .none) c' ctv) (fun b o e => Heap.get?_push_of_some _ e) (Nat.le_refl _) ?_) ⟨fun b o n e => by
      rw [upd_ne (ne_of_none e nf0)]; exact sm.keep b o n e, fun b e => by
      by_cases z : b = h1.objs.size
      · rw [z, upd_same]; simp
      · rw [upd_ne z]; exact sm.stay b e⟩ (T1.ext (same_new nf)) nf0 (.inl nc) upd_same (by rw [upd_ne (ne_of_none atC nf)]; exact atC)
    exact ⟨Heap.get?_push_size _ rfl, ⟨_, Heap.get?_push_size _ rfl⟩, fun h1 h2 e st => st _ e⟩
end
section
variable {X : Cx} {T : Tb} {W : WX} {vs : List Nat}
def eLam (i : Nat) : EM := fun _ S => .ok (.lam i none) S
theorem lam_vr {β : List Addr} {α : List (Option Addr)} {H H1 : Hp} {S : Sto} {L : LamI} {i : Nat} {f c' : Addr} {pm ctv : Value} (hR : Rl T β α S H) (hi : T.lams[i]? = some L) (nf : H f = none) (hc : H c' = none ∨ H c' = some (CodeO c' L.q)) (of : H1 f = some (LamOb f L pm c' ctv)) (oc : H1 c' = some (CodeO c' L.q)) (hx : T.ctx β α H1) :
    Vr T β α H1 (.lam i none) (.ref f) := by
  have nc : c' ∉ blk β α := fun z => by
    rcases hc with e | e
    · exact hR.newOff e z
    · rcases List.mem_append.mp z with z | z
      · have b := hR.bt c' z
        rw [e] at b
        unfold CodeO at b
        exact b
      · have b := hR.mt c' z
        rw [e] at b
        unfold CodeO at b
        exact b
  exact ⟨⟨f, rfl, L, pm, c', ctv, hi, hid_some.mpr ⟨hR.newOff nf, of, lamOb_nt⟩, hid_some.mpr ⟨nc, oc, codeO_nt⟩⟩, hx⟩
/-- lambda: body -/
theorem tr_lam0 {c P : Addr} {params : Arguments} {body : Expr} {scope : Scope} {pos : Pos} (i : Nat) (hi : T.lams[i]? = some (lamI X params body scope)) (hx : ∀ β α H, T.ctx β α H) (B : TabB X.base X.mg c P) (hc : X.env.code = .ref c) (hm : (P, X.env.qual ++ "<lambda>") ∈ T.tabs)
    (one : ∀ t ∈ T.tabs, t.1 = P → t.2 = X.env.qual ++ "<lambda>") (L : LamS X.env.scope scope) (nd : defaultsOf params X.env = ([], []) := by rfl) : PE X (.Lambda params body scope pos) (tE T W (eLam i)) := by
  refine ⟨fun pins s σ H Q I h => ?_⟩
  obtain ⟨β, α, S, ρ, hR, hE, h⟩ := h
  exact lam_newO I B hc hm one hR.tab nd (L.has I.ok) fun f c' pm ctv H1 s1 I1 sm T1 nf hc' of oc => ⟨.ref f, H1, I1, rfl, h α H1 _ (Ext.sm sm) (hR.sm sm T1) (lam_vr hR hi nf hc' of oc (hx _ _ _))⟩
/-- (lambda, what is due) -/
def gTupL (xs : List R) (S : Sto) : Out R := match xs with
  | [.lam i none, .dat d] => .ok (.lam i (some d)) S
  | _ => .stuck
theorem tr_tupL {es : List Expr} {ms : EMs} {pos : Pos} {x1 : Nat} (h : PA X es (tA T W ms)) : PE X (.Tuple es x1 pos) (tE T W (eArgs gTupL ms)) :=
  pe_le (pe_tup h) fun σ H Q h => args_le (r := fun xs H1 Q => xs.length ≤ sizeLine ∧ ∀ p, H1 p = none → Q (.ref p) (upd H1 p (.tup xs))) (g := gTupL) (by
    intro β W σ α S H xs vs Q Rr hx h
    unfold gTupL at h
    split at h
    · rename_i i d
      cases hx with
      | cons h1 t => cases t with
        | cons h2 t => cases t with
          | nil =>
            rename_i b
            refine ⟨by show 2 ≤ sizeLine; decide, fun p hp => ?_⟩
            obtain ⟨⟨a, rfl, hl⟩, hcx⟩ := h1
            have sm : Same H (upd H p (.tup [.ref a, b])) := same_new hp
            have ex : Ext α H α (upd H p (.tup [.ref a, b])) := Ext.same sm
            exact h α _ _ ex (Rr.same sm) ⟨⟨p, a, _, rfl, .inl (.inl (Rr.hidNew hp)), hl.same ex.hid, Dq.same ex.hid h2⟩, T.ctxS _ _ _ _ _ _ ex.len ex.old ex.hid hcx⟩
    · exact h.elim) h
/-- for work, due in .. -/
def gW2 (a b : Nat) : GM := fun r ρ => match r with
  | .lam i (some d) => some ((ρ.set a (some (.lam i none))).set b (some (.dat d)))
  | _ => none
end
end Pev
/-! Pev: lambdas without parameters: unpacked, about for a while, called by the def that got them. -/
namespace Pev
open PySem PySem.Spec PyProof.Rows L2
open LamX (CodeO TabS Tabs ExtN TabB lamEnv LamS lamCx lam_start2)
section
variable {X : Cx} {T : Tb} {vs : List Nat}
theorem tg_w2 {k : Nat} {pos p1 p2 : Pos} {x y : Str} (i j : Nat) (hK : X.K = T.K) (hc : X.calm = true) (hN : X.N.Nodup) (hi : X.N[i]? = some x) (hj : X.N[j]? = some y) (hx : Loc X.env.scope x) (hy : Loc X.env.scope y) (vi : i ∈ vs := by decide) (vj : j ∈ vs := by decide)
    (fx : X.fn x = true ∨ X.env.scope.names.lookup x = some .local := by first | exact .inl rfl | exact .inr rfl | assumption) (fy : X.fn y = true ∨ X.env.scope.names.lookup y = some .local := by first | exact .inl rfl | exact .inr rfl | assumption)
    (hn : (assignEach [Expr.Name x p1, Expr.Name y p2] X.env).length = 2 := by rfl) (hst : (assignEach [Expr.Name x p1, Expr.Name y p2] X.env).findIdx? (·.1) = none := by rfl) : PG X (.Tuple [.Name x p1, .Name y p2] k pos) (tG T vs (gW2 i j)) := by
  refine pg_le (pg_tup (n := 2) hc (pgs_cons (pg_name hN hi hx fx) (pgs_cons (pg_name hN hj hy fy) pgs_nil)) hn hst) fun v σ H Q ⟨β, α, S, ρ, r, ρ', hR, hE, hr, hg, q⟩ => ?_
  unfold gW2 at hg
  split at hg
  · rename_i l d
    cases hg
    obtain ⟨⟨a, f, w, rfl, h1, h2, h3⟩, hcx⟩ := hr
    have vf : Vr T β α H (.lam l none) (.ref f) := ⟨⟨f, rfl, h2⟩, hcx⟩
    have vw : Vr T β α H (.dat d) w := h3
    refine ⟨a, [.ref f, w], rfl, by rw [hK]; exact sqT_same hid_le h1, rfl, .ref f, [w], rfl, ?_⟩
    show gCons _ _ [w] (σ.set i (some (.ref f))) H Q
    refine ⟨w, [], rfl, ?_⟩
    show gNil [] ((σ.set i (some (.ref f))).set j (some w)) H Q
    exact ⟨rfl, q _ ((hE.set vf).set vw) ((wipe_set_in vj).trans (wipe_set_in vi))⟩
  · cases hg
end
/-! ### about for a while -/
def Tb.lam (T : Tb) (ls : List LamI) : Tb := { T with lams := ls }
def noLam : R → Bool
  | .lam _ _ => false
  | _ => true
def killC : Cell → Cell
  | .lst rs => if rs.all noLam then .lst rs else .dead
  | .dead => .dead
def killL (S : Sto) : Sto := S.map killC
def killR (ρ : Rho) : Rho := ρ.map fun o => o.bind fun r => if noLam r then some r else none
section
variable {T : Tb} {ls : List LamI} {β : List Addr} {α : List (Option Addr)} {H : Hp} {S : Sto} {σ : L2.St} {ρ : Rho} {W : WX}
theorem vr_lam (hl : T.lams = []) {r : R} {v : V} (h : Vr T β α H r v) : Vr (T.lam ls) β α H r v := by
  cases r with
  | lam i f =>
    exfalso
    cases f with
    | none =>
      obtain ⟨⟨a, _, L, _, _, _, e, _⟩, _⟩ := h
      rw [hl] at e
      simp at e
    | some d =>
      obtain ⟨⟨a, f, w, _, _, ⟨L, _, _, _, e, _⟩, _⟩, _⟩ := h
      rw [hl] at e
      simp at e
  | dat _ => exact h
  | obj _ => exact h
  | ro _ => exact h
  | err _ _ => exact h
theorem vr_unlam {r : R} {v : V} (n : noLam r = true) (h : Vr (T.lam ls) β α H r v) : Vr T β α H r v := by
  cases r with
  | lam i f => cases n
  | dat _ => exact h
  | obj _ => exact h
  | ro _ => exact h
  | err _ _ => exact h
theorem rl_lam (hl : T.lams = []) (h : Rl T β α S H) : Rl (T.lam ls) β α S H := ⟨h.len, h.inj, h.off, h.bt, h.mt, fun k rs q => by
  obtain ⟨a, vs, e1, e2, e3⟩ := h.cell k rs q
  exact ⟨a, vs, e1, e2, Paired.mapP e3 fun _ _ z => vr_lam hl z⟩, h.tab⟩
theorem er_lam (hl : T.lams = []) (h : Er T β α H σ ρ) : Er (T.lam ls) β α H σ ρ := ⟨h.1, fun i r q => by
  have w := h.2 i r q
  cases r with
  | err c f => exact w
  | dat _ => exact w
  | obj _ => exact w
  | ro _ => exact w
  | lam i f => obtain ⟨u, h1, h2⟩ := w; exact ⟨u, h1, vr_lam hl h2⟩⟩
theorem rl_unlam (h : Rl (T.lam ls) β α S H) : Rl T β α (killL S) H where
  len := by unfold killL; rw [List.length_map]; exact h.len
  inj := h.inj
  off := h.off
  bt := h.bt
  mt := h.mt
  tab := h.tab
  cell := fun k rs q => by
    unfold killL at q
    rw [List.getElem?_map] at q
    obtain ⟨c, hc, e⟩ := Option.map_eq_some_iff.mp q
    cases c with
    | dead => cases e
    | lst ts =>
      unfold killC at e
      dsimp only at e
      split at e
      · rename_i z
        cases e
        obtain ⟨a, vs, e1, e2, e3⟩ := h.cell k rs hc
        refine ⟨a, vs, e1, e2, ?_⟩
        clear hc q e1 e2
        induction e3 with
        | nil => exact .nil
        | cons h1 t ih =>
          rw [List.all_cons, Bool.and_eq_true] at z
          exact .cons (vr_unlam z.1 h1) (ih z.2)
      · cases e
theorem er_unlam (h : Er (T.lam ls) β α H σ ρ) : Er T β α H σ (killR ρ) := ⟨by unfold killR; rw [List.length_map]; exact h.1, fun i r q => by
  unfold killR at q
  rw [List.getElem?_map] at q
  obtain ⟨o, ho, e⟩ := Option.map_eq_some_iff.mp q
  cases o with
  | none => cases e
  | some r' =>
    have e : (if noLam r' then some r' else none) = some r := e
    split at e
    · rename_i z
      cases e
      have w := h.2 i r ho
      cases r with
      | err c f => exact w
      | dat _ => exact w
      | obj _ => exact w
      | ro _ => exact w
      | lam i f => cases z
    · cases e⟩
def sLamO (o : OutS) : OutS := match o with
  | .nx ρ S => .nx (killR ρ) (killL S)
  | .rt r S => if noLam r then .rt r (killL S) else .stuck
  | .bk ρ S => .bk (killR ρ) (killL S)
  | .ct ρ S => .ct (killR ρ) (killL S)
  | .exc c f ρ S => .exc c f (killR ρ) (killL S)
  | .stuck => .stuck
def sLam (b : SM) : SM := fun ρ S => sLamO (b ρ S)
theorem ts_lams {X : Cx} {sts : List Stmt} {b : SM} (hl : T.lams = []) (ls : List LamI) (h : PSs X sts (tS (T.lam ls) W b)) : PSs X sts (tS T W (sLam b)) :=
  pss_le h fun D σ H ⟨β, α, S, ρ, hR, hE, hp⟩ => ⟨β, α, S, ρ, rl_lam hl hR, er_lam hl hE, by
    unfold sLam at hp
    cases q : b ρ S with
    | nx ρ1 S1 => rw [q] at hp; exact fun α' H' σ' e r y => hp α' H' σ' e (rl_unlam r) (er_unlam y)
    | bk ρ1 S1 => rw [q] at hp; exact fun α' H' σ' e r y => hp α' H' σ' e (rl_unlam r) (er_unlam y)
    | ct ρ1 S1 => rw [q] at hp; exact fun α' H' σ' e r y => hp α' H' σ' e (rl_unlam r) (er_unlam y)
    | rt r S1 =>
      rw [q] at hp
      unfold sLamO at hp
      dsimp only at hp
      split at hp
      · rename_i n
        exact fun α' H' v e R y => hp α' H' v e (rl_unlam R) (vr_unlam n y)
      · exact hp.elim
    | exc c f ρ1 S1 => rw [q] at hp; exact fun α' H' σ' cls d e r y x => hp α' H' σ' cls d e (rl_unlam r) (er_unlam y) x
    | stuck => rw [q] at hp; exact hp.elim⟩
/-- a def of data, meanwhile -/
theorem fnG_lam {P : Program} {w : World} {mg : Str → Option Value} {base : Heap} {k : Nat} {f : Addr} {fd : FuncData} {ps : List Str} {n : Nat} {m : FM} (hl : T.lams = []) (F : FnG P w T.K mg base k f fd ps (spF T n m)) : FnG P w T.K mg base k f fd ps (spF (T.lam ls) n (pureF m)) :=
  F.imp fun vs H Q E ⟨h1, β, α, S, rs, hR, hV, hp⟩ => by
    refine ⟨h1, ?_⟩
    obtain ⟨β', ds, R', V', hp'⟩ := pure_ok (W := fun cls d _ H' => E cls d H') hR hV hp
    refine ⟨β', [], [], ds.map .dat, ⟨R'.len, R'.inj, R'.off, R'.bt, R'.mt, fun k rs q => by simp at q, R'.tab⟩, DqAll.vrs (Vrs.dq (K := T.lam ls) V'), ?_⟩
    cases q : m (ds.map .dat) [] with
    | ok r S1 => rw [q] at hp'; exact fun α' H' v e R y => hp' α' H' v e (rl_lam hl R) (vr_lam hl y)
    | exc c f S1 => rw [q] at hp'; exact fun α' H' cls d e R x => hp' α' H' cls d e (rl_lam hl R) x
    | stuck => rw [q] at hp'; exact hp'.elim
end
end Pev
/-! Pev: a lambda without parameters is handed to a def, that calls it. -/
namespace Pev
open PySem PySem.Spec PyProof.Rows L2
open LamX (CodeO TabS Tabs ExtN TabB lamEnv LamS lamCx lam_start2)
/-- what a lambda needs, from now on -/
def Tb.at (T : Tb) (c : List Addr → List (Option Addr) → Hp → Prop) (cs : ∀ (β : List Addr) (α : List (Option Addr)) (H : Hp) (β' : List Addr) (α' : List (Option Addr)) (H' : Hp), α.length ≤ α'.length → (∀ (k : Nat) (a : Addr), k < α.length → α'[k]? = some (some a) → α[k]? = some (some a)) →
    Same (hid (β ++ live α) H) (hid (β' ++ live α') H') → c β α H → c β' α' H') : Tb := { T with ctx := c, ctxS := cs }
section
variable {T : Tb} {c : List Addr → List (Option Addr) → Hp → Prop} {cs : ∀ (β : List Addr) (α : List (Option Addr)) (H : Hp) (β' : List Addr) (α' : List (Option Addr)) (H' : Hp), α.length ≤ α'.length → (∀ (k : Nat) (a : Addr), k < α.length → α'[k]? = some (some a) → α[k]? = some (some a)) →
    Same (hid (β ++ live α) H) (hid (β' ++ live α') H') → c β α H → c β' α' H'} {β : List Addr} {α : List (Option Addr)} {H : Hp} {S : Sto}
theorem vr_at (hc : c β α H) {r : R} {v : V} (h : Vr T β α H r v) : Vr (T.at c cs) β α H r v := by
  cases r with
  | lam i f =>
    cases f with
    | none => obtain ⟨h1, _⟩ := h; exact ⟨h1, hc⟩
    | some d => obtain ⟨h1, _⟩ := h; exact ⟨h1, hc⟩
  | dat _ => exact h
  | obj _ => exact h
  | ro _ => exact h
  | err _ _ => exact h
theorem vr_unat (hx : ∀ β α H, T.ctx β α H) {r : R} {v : V} (h : Vr (T.at c cs) β α H r v) : Vr T β α H r v := by
  cases r with
  | lam i f =>
    cases f with
    | none => obtain ⟨h1, _⟩ := h; exact ⟨h1, hx _ _ _⟩
    | some d => obtain ⟨h1, _⟩ := h; exact ⟨h1, hx _ _ _⟩
  | dat _ => exact h
  | obj _ => exact h
  | ro _ => exact h
  | err _ _ => exact h
theorem rl_at (hc : c β α H) (h : Rl T β α S H) : Rl (T.at c cs) β α S H := ⟨h.len, h.inj, h.off, h.bt, h.mt, fun k rs q => by
  obtain ⟨a, vs, e1, e2, e3⟩ := h.cell k rs q
  exact ⟨a, vs, e1, e2, Paired.mapP e3 fun _ _ z => vr_at hc z⟩, h.tab⟩
theorem rl_unat (hx : ∀ β α H, T.ctx β α H) (h : Rl (T.at c cs) β α S H) : Rl T β α S H := ⟨h.len, h.inj, h.off, h.bt, h.mt, fun k rs q => by
  obtain ⟨a, vs, e1, e2, e3⟩ := h.cell k rs q
  exact ⟨a, vs, e1, e2, Paired.mapP e3 fun _ _ z => vr_unat hx z⟩, h.tab⟩
end
def eWork (a : Nat) (hl : Nat → Sto → Out R) : EM := fun ρ S => match ρ[a]? with
  | some (some (.lam i none)) => hl i S
  | _ => .stuck
def oNo (o : Out R) : Out R := match o with
  | .ok r S => if noLam r then .ok r S else .stuck
  | .exc c f S => .exc c f S
  | .stuck => .stuck
def hlOf (mbs : List EM) (ρ : Rho) : Nat → Sto → Out R := fun i S => match mbs[i]? with
  | some mb => oNo (mb ρ S)
  | none => .stuck
/-- a lambda's body, read -/
def LamB (X : Cx) (T : Tb) (k : Nat) (L : LamI) (mb : EM) : Prop := ∃ (params : Arguments) (body : Expr) (scope : Scope), L = lamI X params body scope ∧ LamS X.env.scope scope ∧
  (∀ (q : Str) (cl : List (Str × Addr)) (pm cv ctv : Value), bindArgs (PySem.W.kla_fn "<lambda>" q params body scope cl pm cv ctv) ⟨[], []⟩ = pure []) ∧
  ∀ (A : Around) (outer : List Env) (s : Shared) (H : Hp) (E : XK) (f c' : Addr), RoomG k (A.deeper (lamEnv X scope s.heap.objs.size f c')) → PE (lamCx X A outer s H E scope f c') body (tE T (fun cls d _ H' => E cls d H') mb)
inductive LamBs (X : Cx) (T : Tb) (k : Nat) : List LamI → List EM → Prop
  | nil : LamBs X T k [] []
  | cons {L : LamI} {ls : List LamI} {mb : EM} {mbs : List EM} : LamB X T k L mb → LamBs X T k ls mbs → LamBs X T k (L :: ls) (mb :: mbs)
theorem LamBs.get {X : Cx} {T : Tb} {k : Nat} : ∀ {ls : List LamI} {mbs : List EM} {i : Nat} {L : LamI}, LamBs X T k ls mbs → ls[i]? = some L → ∃ mb, mbs[i]? = some mb ∧ LamB X T k L mb
  | _, _, _, _, .nil, e => by simp at e
  | _, _, 0, _, .cons h _, e => by cases e; exact ⟨_, rfl, h⟩
  | _, _, i + 1, _, .cons _ t, e => by
    obtain ⟨mb, h1, h2⟩ := LamBs.get (i := i) t (by simpa using e)
    exact ⟨mb, by simpa using h1, h2⟩
section
variable {X : Cx} {T : Tb}
abbrev erS (T : Tb) (σ : L2.St) (ρ : Rho) : ∀ (β : List Addr) (α : List (Option Addr)) (H : Hp) (β' : List Addr) (α' : List (Option Addr)) (H' : Hp), α.length ≤ α'.length → (∀ (k : Nat) (a : Addr), k < α.length → α'[k]? = some (some a) → α[k]? = some (some a)) →
    Same (hid (β ++ live α) H) (hid (β' ++ live α') H') → Er T β α H σ ρ → Er T β' α' H' σ ρ := fun _ _ _ _ _ _ h1 h2 h3 h => h.lt ⟨h1, h2, h3⟩
abbrev Tb.er (T : Tb) (σ : L2.St) (ρ : Rho) : Tb := T.at (fun β α H => Er T β α H σ ρ) (erS T σ ρ)
end
end Pev
/-! Pev: G(work), G(lambda: ..). -/
namespace Pev
open PySem PySem.Spec PyProof.Rows L2
open LamX (CodeO TabS Tabs ExtN TabB lamEnv LamS lamCx lam_start2)
theorem call_at {P : Program} {w : World} {K : PySem.W.Frag} {mg : Str → Option Value} {base : Heap} {x qual : Str} {st : Stmt} {f : Addr} {fd : FuncData} {N ps : List Str} {k : Nat} (F : L2.Fun K x qual st f fd) (S : FnScope N ps (defScope st))
    {A : Around} {fs : List Env} {s : Shared} {H : Hp} {args : Args} {us : List Value} {vs : List V} {Q : VK} {E : XK} (hr : RoomG (k + 1) A) (e0 : Env0 P w K mg base A fs s H) (hb : BindsTo s fd args (ps.zip us)) (rv : Vals vs us) (hl : vs.length = ps.length)
    (hbody : ∀ (cdv : Value) (_ : fd.code = cdv), RoomG k (A.deeper (envOfC qual (defScope st) s.heap.objs.size f cdv)) → ∃ t, PSs (cxOf (L2.CX P w) P w K mg base N qual (defScope st) f cdv A fs s H E) (defBody st) t ∧ t { nx := fun _ H' => Q .non H', rt := Q } (L2.start N vs) H) :
    codeAny (model P w) A (.call (.ref f) args) (CR (L2.CX P w) fs P w H s Q E) s := by
  obtain ⟨c1, c2, kV, doc, pm, an, cdv, ct, sl, rfl, lk, hcode⟩ := F.ex
  have up : ∀ b o, base.get? b = some o → s.heap.get? b = some o := fun b o e => (e0.bs b o e).1
  have KX : K.In s.heap := e0.mod.kin.keeps up
  have par : ∀ y ∈ ps.zip us, (defScope st).names.lookup y.1 = some .local ∨ ((defScope st).names.lookup y.1 = some .cell ∧ ((cellsFrom (s.heap.objs.size + 1) (defScope st).names []).lookup y.1).isSome = true) := fun y hy =>
    (S.par y.1 (List.of_mem_zip hy).1).imp id fun q => ⟨q, PySem.W.cellsFrom_some _ _ _ (.inl q)⟩
  refine codeAny_call_function hr.toRoom.depth (KX _ _ lk) rfl S.co S.gen rfl (PySem.W.codeRec_of KX hcode) (hb _ _ _ _ (wpAny_newFunctionEnv_cells S.kind par fun env he s1 z => ?_))
  subst he
  obtain ⟨t, ht, hq⟩ := hbody cdv rfl (hr.deeper _)
  refine ⟨(e0.mod.nolimit.keeps up).keeps z.toInCall.keep, codeAny_func (wpAny_mono (ht.run [] s1 (L2.start N vs) H _ (inv_start S hr.hd e0 hl rv z) hq) (fun fl s2 hs => ?_) fun _ _ hs => hs)⟩
  have q := flow_end hs
  cases fl with
  | ret u => exact q
  | next => exact q
  | brk => exact q.elim
  | cont => exact q.elim
section
variable {X : Cx} {T : Tb} {W : WX}
end
/-! ### the lambdas of a row of statements -/
def lamOfT (X : Cx) : Expr → List LamI
  | .Tuple [.Lambda params body scope _, _] _ _ => [lamI X params body scope]
  | _ => []
def lamOfS (X : Cx) : Stmt → List LamI
  | .Assign _ (.List [e] _) _ => lamOfT X e
  | .Expr (.Call (.Attribute _ _ _) [e] _ _) _ => lamOfT X e
  | _ => []
def lamsOf (X : Cx) : List Stmt → List LamI
  | [] => []
  | st :: sts => lamOfS X st ++ lamsOf X sts
theorem ts_lamsB {X : Cx} {T : Tb} {W : WX} {sts : List Stmt} {b : SM} (hl : T.lams = []) (h : PSs X sts (tS (T.lam (lamsOf X sts)) W b)) : PSs X sts (tS T W (sLam b)) := ts_lams hl _ h
end Pev
/-! Pev: G(work) within a comprehension's block; the maker stands around it. -/
namespace Pev
open PySem PySem.Spec PyProof.Rows L2
open LamX (CodeO TabS Tabs ExtN TabB lamEnv LamS lamCx)
/-- the maker's state, as the block finds it -/
def Mk (X : Cx) (σ : L2.St) (s : Shared) (H : Hp) (fp : List Addr) : Prop := ∃ pins : List (Addr × Obj), Inv X pins σ H s ∧ ∀ b ∈ fp, FpOk X pins H b
section
variable {X : Cx} {T : Tb} {pins : List (Addr × Obj)} {σ : L2.St} {H HZ : Hp} {s s1 : Shared}
theorem lam_start3 {A : Around} {outer : List Env} {E : XK} {scope : Scope} {f c' : Addr} {h1 : Heap} {tk : Nat} (I : Inv X pins σ H s) (L : LamS X.env.scope scope) (e0 : Env0 X.prog X.w X.K X.mg X.base A outer s1 HZ) (hd : A.handled = none)
    (uc : ∀ y c, X.env.cells.lookup y = some c → HZ c = none ∧ ∀ v, s.heap.IsCell c v → s1.heap.IsCell c v) (hns : h1.Ns s1.heap.objs.size fun y => ([] : List (Str × Value)).reverse.lookup y) (kp : ∀ b o, s1.heap.get? b = some o → h1.get? b = some o) :
    Inv (lamCx X A outer s1 HZ E scope f c') [] σ HZ { s1 with heap := h1, toks := tk } := by
  have cap : ∀ {y c}, (cloFrom X.env.cells scope.names []).lookup y = some c → X.env.cells.lookup y = some c := fun {y c} e => by
    rcases cloFrom_mem (PySem.mem_of_lookup e) with m | ⟨m1, m2⟩
    · cases m
    · obtain ⟨c1, k1⟩ := L.has I.ok _ m1 rfl
      have k1 : X.env.cells.lookup y = some c1 := k1
      rw [k1]
      congr 1
      rw [m2, k1] <;> rfl
  have got : ∀ {y}, scope.names.lookup y = some .free → ∃ c, (cloFrom X.env.cells scope.names []).lookup y = some c := fun {y} e => mem_lookup (cloFrom_has (cells := X.env.cells) (acc := []) (PySem.mem_of_lookup e))
  have none_in : ∀ {b : Addr}, b ∈ ([] : List Addr) → False := fun h => List.not_mem_nil h
  have up : ∀ {c : Addr} {v : Option Value}, s1.heap.IsCell c v → h1.IsCell c v := fun {c v} ⟨o, e1, e2⟩ => ⟨o, kp _ _ e1, e2⟩
  exact {
    ok := {
      mod := e0.mod
      kind := L.kind
      glob := rfl
      blt := rfl
      above := Nat.le_refl _
      inj := fun y z c e1 e2 => I.ok.inj y z c (cap e1) (cap e2)
      has := fun y hy => by
        have hy : scope.names.lookup y = some .cell ∨ scope.names.lookup y = some .free := hy
        rcases hy with e | e
        · exact absurd rfl (L.own _ (PySem.mem_of_lookup e)).2
        · exact got e
      cab := fun y c z _ => by cases (z : false = true)
      hd := fun _ => hd
      frames := Around.frames_deeper e0.frames
      stk := .inr ⟨rfl, rfl⟩
      exf := fun b z => (none_in z).elim
      bs := e0.bs
      bsz := e0.bsz
      noex := fun b _ _ z => none_in z
      exfs := fun b z => (none_in z).elim
      funs := e0.funs
      frf := e0.frf }
    os := rfl
    bare := e0.bare
    base := Un.kept kp
    loc := ⟨_, hns, fun i y w e1 e2 e3 => by
      have e3 : Vis scope y := e3
      have fr : scope.names.lookup y = some .free := by
        rcases e3 with z | z | z
        · exact absurd rfl (L.own _ (PySem.mem_of_lookup z)).1
        · exact absurd rfl (L.own _ (PySem.mem_of_lookup z)).2
        · exact z
      have vis := L.free _ (PySem.mem_of_lookup fr) rfl
      obtain ⟨m, _, lk⟩ := I.loc
      obtain ⟨u, r, q⟩ := lk i y w e1 e2 (vis.elim (fun z => .inr (.inl z)) fun z => .inr (.inr z))
      obtain ⟨c2, h2⟩ := got fr
      refine ⟨u, r, .inr ⟨.inr fr, c2, h2, ?_⟩⟩
      rcases q with ⟨z, _⟩ | ⟨_, c3, z1, z2⟩
      · have z : X.env.scope.names.lookup y = some .local := z
        rcases vis with z' | z' <;> rw [show X.env.scope.names.lookup y = _ from z'] at z <;> cases z
      · rw [cap h2] at z1
        cases z1
        exact up ((uc _ _ (cap h2)).2 _ z2)⟩
    cell := fun y c e => by
      obtain ⟨w, z⟩ := I.cell y c (cap e)
      exact ⟨w, up ((uc _ _ (cap e)).2 _ z)⟩
    free := e0.hok.fresh (Nat.le_refl _)
    freeC := fun y c e => (uc _ _ (cap e)).1
    pin := fun q hq => (List.not_mem_nil (show q ∈ ([] : List (Addr × Obj)) from hq)).elim
    hok := e0.hok.kept kp
    len := I.len }
theorem un_cell {fs ex : List Addr} {h h' : Heap} {H H' : Hp} (u : Un fs ex H H' h h') {c : Addr} (n : H c = none) (hx : c ∉ ex) {v : Option Value} (e : h.IsCell c v) : h'.IsCell c v := by
  obtain ⟨o, e1, e2⟩ := e
  obtain ⟨sl, q⟩ := u.any e1 n hx
  exact ⟨_, q, e2⟩
theorem pe_holeB {H1 : Hp} {s0 : Shared} {fp : List Addr} {sY : Shared} {HY : Hp} {ρ : Rho} {mbs : List EM} {k i : Nat} {N : List Str} {q a : Str} {sg : Scope} {gA : Addr} {cdv : Value} {E0 : XK} {pn : List (Addr × Obj)} {xe : Value → Shared → Prop} {W : WX} {p1 p2 : Pos}
    (mk : Mk X σ s0 H1 fp) (uY : Un (frs X.stack) fp H1 HY s0.heap sY.heap) (hx : ∀ β α H, T.ctx β α H) (hB : LamBs X T k T.lams mbs) (hr : RoomG (k + 1) (X.A.deeper (envOfC q sg sY.heap.objs.size gA cdv)))
    (tk : Takes ((cxOf (L2.CX X.prog X.w) X.prog X.w X.K X.mg X.base N q sg gA cdv X.A X.stack sY HY E0).tr pn xe) W)
    (hN : N[i]? = some a) (hv : Vis sg a) (hd : (a == ("__debug__" : Str)) = false) (hcd : (a == ("__classdict__" : Str)) = false) :
    PE ((cxOf (L2.CX X.prog X.w) X.prog X.w X.K X.mg X.base N q sg gA cdv X.A X.stack sY HY E0).tr pn xe) (.Call (.Name a p1) [] [] p2) (tE (T.er σ ρ) W (eWork i (hlOf mbs ρ))) := by
  obtain ⟨pins, I, fpk⟩ := mk
  refine ⟨fun pinsZ sZ σZ HZ Q IZ h => ?_⟩
  obtain ⟨β, α, S, ρZ, hR, hE, h⟩ := h
  unfold eWork at h
  split at h
  · rename_i j e
    obtain ⟨v, hσ, ⟨a', rfl, L, pm, c', ctv, hL, hf, hc⟩, hctx⟩ := hE.2 i _ e
    have hctx : Er T β α HZ σ ρ := hctx
    have hL : T.lams[j]? = some L := hL
    obtain ⟨mb, hmb, params, body, scope, rfl, LS, hb, hbody⟩ := hB.get hL
    have hf' := (hid_some.mp hf).2.1
    have hc' := (hid_some.mp hc).2.1
    refine wpAny_Call_Name_kw (thn ((pe_var (pos := p1) (i := i) hN hv hd hcd).run pinsZ sZ σZ HZ (fun v H1 => v = .ref a' ∧ H1 = HZ) IZ ⟨.ref a', hσ, rfl, rfl⟩) fun u s2 ⟨v, H2, I2, r1, q1⟩ => ?_)
    obtain ⟨ev, eH⟩ := q1
    subst ev
    rw [eH] at I2
    obtain rfl : u = Value.ref a' := r1
    obtain ⟨of1, _, _⟩ := I2.hok a' _ hf'
    obtain ⟨⟨oc, vs, t, hoc, hdc, hvc⟩, _, _⟩ := I2.hok c' _ hc'
    refine PySem.W.callWith_F0 ⟨_, _, _, _, of1⟩ ?_
    have uZ : Un (frs X.stack) [] HY HZ sY.heap s2.heap := I2.base
    have uc : ∀ y c, X.env.cells.lookup y = some c → HZ c = none ∧ ∀ v, s0.heap.IsCell c v → s2.heap.IsCell c v := fun y c e => by
      have n0 : H1 c = none := I.freeC y c e
      have nx : c ∉ fp := fun z => (fpk c z).2.2.2.2.1 y c e rfl
      obtain ⟨w, o, ho, hd⟩ := I.cell y c e
      have n1 : HY c = none := uY.free c o ho n0 nx
      obtain ⟨sl, ho1⟩ := uY.any ho n0 nx
      exact ⟨uZ.free c _ ho1 n1 (by simp), fun v z => un_cell uZ n1 (by simp) (un_cell uY n0 nx z)⟩
    have ht : tE T (fun cls d _ H' => W cls d σZ H') mb σ HZ Q := by
      refine ⟨β, α, S, ρ, rl_unat hx hR, hctx, ?_⟩
      unfold hlOf at h
      rw [hmb] at h
      dsimp only at h
      cases q : mb ρ S with
      | ok r S1 =>
        rw [q] at h
        unfold oNo at h
        dsimp only at h
        split at h
        · exact fun α' H' v e R y => h α' H' v e (rl_at (hctx.ext e) R) (vr_at (hctx.ext e) y)
        · exact h.elim
      | exc c f S1 => rw [q] at h; exact fun α' H' cls d e R x => h α' H' cls d e (rl_at (hctx.ext e) R) x
      | stuck => rw [q] at h; exact h.elim
    have rc : codeAny (model X.prog X.w) (X.A.deeper (envOfC q sg sY.heap.objs.size gA cdv)) (.call (.ref a') ⟨[], []⟩) (CR (L2.CX X.prog X.w) (envOfC q sg sY.heap.objs.size gA cdv :: X.stack) X.prog X.w HZ s2 Q (WE W σZ)) s2 := by
      refine PySem.W.kla_callFunE hr.toRoom.depth of1 rfl LS.co LS.gen rfl ⟨c', oc, vs, t, rfl, hoc, hdc, hvc⟩ ?_
      rw [hb]
      refine wpAny_pure (wpAny_newFunctionEnv (fun y hy => (LS.own y hy).2) (fun y hy => absurd hy (by simp)) (fun h₁ hns hsb => ⟨I2.nolimit.fresh _ hsb, ?_⟩) LS.kind)
      show codeAny _ _ (.expr body (lamEnv X scope s2.heap.objs.size a' c')) _ _
      have kp : ∀ b o, s2.heap.get? b = some o → h₁.get? b = some o := fun b o e => hsb.extBut b o (Nat.ne_of_lt (Heap.lt_size e)) (Heap.get?_push_of_some _ e)
      have J : Inv (lamCx X (X.A.deeper (envOfC q sg sY.heap.objs.size gA cdv)) (envOfC q sg sY.heap.objs.size gA cdv :: X.stack) s2 HZ (WE W σZ) scope a' c') [] σ HZ { s2 with heap := h₁, toks := s2.toks + ([] : List (Str × Value)).length } :=
        lam_start3 I LS I2.env0 hr.hd uc hns kp
      refine PySem.W.kla_codeExpr (wpAny_mono ((hbody _ _ s2 HZ (WE W σZ) a' c' (hr.deeper _)).run [] _ _ HZ Q J ht) (fun v s' hq => ?_) fun e s' hq => hq)
      obtain ⟨w', H', J', rv, q⟩ := hq
      exact ⟨w', H', J'.os, J'.bare, J'.base, J'.hok, rv, q⟩
    refine wpAny_call (codeAny_mono rc fun r s' hq => ?_)
    cases r with
    | error e => exact passAt tk σZ pinsZ HZ s2 e s' I2 hq
    | ok fl =>
      cases fl with
      | ret u => exact I2.after hq
      | next => exact False.elim hq
      | brk => exact False.elim hq
      | cont => exact False.elim hq
  · exact h.elim
def eLCallB (g : FM) (me : EM) : EM := fun ρ S => (me ρ S).bind fun x S1 => match x with
  | .lam i none => g [.lam i none] S1
  | _ => .stuck
theorem tr_lcallB {W : WX} {ρ : Rho} {s0 : Shared} {H1 : Hp} {scB : Scope} {ce : Env} {fp : List Addr} {x qual a : Str} {p pos : Pos} {e : Expr} {me : EM} {st : Stmt} {gA : Addr} {fd : FuncData} {N ps : List Str} {k nN i : Nat} {b : (Nat → Sto → Out R) → SM} {mbs : List EM}
    (mk : Mk X σ s0 H1 fp) (F : L2.Fun X.K x qual st gA fd) (S : FnScope N ps (defScope st)) (hp : ps.length = 1) (eN : N.length = nN) (hx : ∀ β α H, T.ctx β α H) (hB : LamBs X T k T.lams mbs) (hr : RoomG (k + 2) X.A) (hg : Gl (X.blk s0 H1 scB ce fp) x) (hm : X.mg x = some (.ref gA)) (hk : PySem.W.keepIn X.K (.ref gA) = true) (hb : Binds X.K fd ps [])
    (tk : Takes (X.blk s0 H1 scB ce fp) W) (hN : N[i]? = some a) (hv : Vis (defScope st) a)
    (okG : ∀ (σ : L2.St) (ρ : Rho) (cdv : Value) (A : Around) (outer : List Env) (s : Shared) (H : Hp) (E : XK), RoomG (k + 1) (A.deeper (envOfC qual (defScope st) s.heap.objs.size gA cdv)) →
      (∀ (pn : List (Addr × Obj)) (xe : Value → Shared → Prop) (W' : WX), Takes ((cxOf (L2.CX X.prog X.w) X.prog X.w X.K X.mg X.base N qual (defScope st) gA cdv A outer s H E).tr pn xe) W' → ∀ p1 p2 : Pos,
        PE ((cxOf (L2.CX X.prog X.w) X.prog X.w X.K X.mg X.base N qual (defScope st) gA cdv A outer s H E).tr pn xe) (.Call (.Name a p1) [] [] p2) (tE (T.er σ ρ) W' (eWork i (hlOf mbs ρ)))) →
      PSs (cxOf (L2.CX X.prog X.w) X.prog X.w X.K X.mg X.base N qual (defScope st) gA cdv A outer s H E) (defBody st) (tS (T.er σ ρ) (fun cls d _ H' => E cls d H') (b (hlOf mbs ρ))))
    (ha : PA (X.blk s0 H1 scB ce fp) [e] (tA (T.er σ ρ) W (aCons me aNil))) (hd : (a == ("__debug__" : Str)) = false := by decide) (hcd : (a == ("__classdict__" : Str)) = false := by decide) (hdb : (x == ("__debug__" : Str)) = false := by decide)
    (he : starEach [e] (X.blk s0 H1 scB ce fp).env = (false, eval e (X.blk s0 H1 scB ce fp).env) :: starEach [] (X.blk s0 H1 scB ce fp).env := by rfl) (hpl : (backTo pos (starEach [] (X.blk s0 H1 scB ce fp).env)).any (·.1) = false := by rfl) :
    PE (X.blk s0 H1 scB ce fp) (.Call (.Name x p) [e] [] pos) (tE (T.er σ ρ) W (eLCallB (fnB nN (b (hlOf mbs ρ))) me)) := by
  subst eN
  refine ⟨fun pinsY s σY H Q I h => wpAny_Call_Name_kw (ld_glob I hg hm ?_ hdb)⟩
  obtain ⟨β, α, S0, ρY, hR, hE, h⟩ := h
  have h2 : tA (T.er σ ρ) W (aCons me aNil) σY H fun vs HY => ∃ (α1 : List (Option Addr)) (S1 : Sto) (v : V) (j : Nat), Rl (T.er σ ρ) β α1 S1 HY ∧ vs = [v] ∧ Vr (T.er σ ρ) β α1 HY (.lam j none) v ∧ PostG (T.er σ ρ) β W (Vr (T.er σ ρ) β) σY (fnB N.length (b (hlOf mbs ρ)) [.lam j none] S1) α1 HY Q := by
    refine ⟨β, α, S0, ρY, hR, hE, ?_⟩
    have q := PostG.bind (rel := Vr (T.er σ ρ) β) (show PostG (T.er σ ρ) β W (Vr (T.er σ ρ) β) σY ((me ρY S0).bind fun x S1 => match x with
      | .lam i none => fnB N.length (b (hlOf mbs ρ)) [.lam i none] S1
      | _ => .stuck) α H Q from h)
    unfold aCons aNil
    cases z : me ρY S0 with
    | stuck => rw [z] at q; exact q.elim
    | exc c f S1 => rw [z] at q; exact q
    | ok r S1 =>
      rw [z] at q
      intro α1 H1 vs e1 R1 V1
      cases V1 with
      | cons v1 t =>
        cases t with
        | nil =>
          obtain ⟨α1', S1', x', ex, e1', R1', V1', h3⟩ := q α1 H1 _ e1 R1 v1
          cases ex
          split at h3
          · rename_i j
            exact ⟨α1', S1, _, j, R1', rfl, V1', h3⟩
          · exact h3.elim
  refine PySem.W.callWith_K (h₀ := X.base) I.ok.mod.kin hk (thn (ha.run pos pinsY s σY H _ I h2) fun us s1 ⟨vs, HY, I1, rv, q⟩ => ⟨I1.kIn, ?_⟩) he hpl
  obtain ⟨α1, S1, v, j, R1, rfl, V1, h3⟩ := q
  have hl : us.length = ps.length := by rw [← rv.length, hp]; rfl
  have bt := hb s1 us I1.kIn (by rw [List.append_nil]; exact hl)
  rw [List.append_nil] at bt
  refine wpAny_call (codeAny_mono (call_at (args := ⟨us, []⟩) (Q := Q) (E := WE W σY) F S hr I1.env0 bt rv (by rw [hp]; rfl) fun cdv hc hr' => ⟨_, okG σ ρ cdv X.A X.stack s1 HY (WE W σY) hr' (fun pn xe W' tk' p1 p2 => pe_holeB mk I1.base hx hB hr' tk' hN hv hd hcd), ?_⟩) fun r s2 hq => ?_)
  · refine ⟨β, α1, S1, _, R1, er_start (T := T.er σ ρ) (.cons V1 .nil), ?_⟩
    unfold fnB at h3
    generalize hq : b (hlOf mbs ρ) (([R.lam j none] : List R).map some ++ List.replicate (N.length - ([R.lam j none] : List R).length) none) S1 = o at h3 ⊢
    cases o with
    | nx ρ S => exact fun α' H' σ' e r _ => h3 α' H' .non e r .non
    | rt r S => exact h3
    | bk ρ S => exact h3.elim
    | ct ρ S => exact h3.elim
    | exc c f ρ S => exact fun α' H' σ' cls d e r _ q => h3 α' H' cls d e r q
    | stuck => exact h3.elim
  · cases r with
    | error e => exact passAt tk σY pinsY HY s1 e s2 I1 hq
    | ok fl =>
      cases fl with
      | ret u => exact I1.after hq
      | next => exact hq.elim
      | brk => exact hq.elim
      | cont => exact hq.elim
end
end Pev
/-! Pev: [work for work, due in works if G(work) != due]: a comprehension that lets nothing through, its maker known. -/
namespace Pev
open PySem PySem.Spec PyProof.Rows L2
section
variable {X : Cx} {T : Tb} {pins : List (Addr × Obj)} {σ : L2.St} {H : Hp} {s : Shared}
def noTE : TE := fun _ _ _ => False
theorem lc_see {elt tg iter : Expr} {ifs : List Expr} {scope : Scope} {own : List (Str × Nat)} {pos : Pos} {wi : TI} {g : TG} {tt : L2.TT} {Q : VK} (calm : X.calm = true) (nd : X.N.Nodup) (I : Inv X pins σ H s) (hi : PI X tg iter wi) (ok : BlkOk X.N X.env.scope scope own)
    (hg : ∀ (s : Shared) (H : Hp) (C : Addr) (cl : List (Str × Addr)) (fp : List Addr), PG (X.blk s H scope (compEnvC scope cl C X.env) fp) tg g)
    (ht : ∀ (s : Shared) (H : Hp) (C : Addr) (cl : List (Str × Addr)) (fp : List Addr), Mk X σ s H fp → PTs (X.blk s H scope (compEnvC scope cl C X.env) fp) ifs tt)
    (hs : ∀ x, foldedSetIterable iter X.env x = pure x) (h : tLc wi g tt noTE (own.map (·.2)) σ H Q) :
    wpAny (model X.prog X.w) X.A (eval (.ListComp elt [⟨tg, iter, ifs, 0⟩] scope pos) X.env) (EP X pins σ Q) X.xe s := by
  rw [eval_ListComp]
  have cap : ∀ y ∈ scope.names, y.2 = .free → ∃ c, X.env.cells.lookup y.1 = some c := fun y my ey => I.ok.has _ (ok.free y my ey)
  refine wpAny_comprehension_free (use := none) rfl hs (closure_ok cap) ok.kind (fun y my ey => (ok.uniq y my).trans (congrArg some ey)) (thn (hi.run pins s σ H _ I h) fun xv sa wa => thn wa fun itv sb wb => ?_)
  obtain ⟨it, fp, tn, J, Hb, rfl, Ib, tr, tb, fb, run⟩ := wb
  refine wpAny_newObj_type (newEnv_comp ?_) (by show 0 ≤ sizeLine; decide)
  have dNew : Hb sb.heap.objs.size = none := Ib.hok.fresh (Nat.le_refl _)
  obtain ⟨M, ⟨m0, w0⟩, step⟩ := run _ dNew
  -- with the list that is being made
  have old : ∀ b ∈ fp, b < sb.heap.objs.size := fun b hb => let ⟨o, e, _⟩ := tr.obj _ _ tb b hb; Heap.lt_size e
  obtain ⟨sc, esc⟩ : ∃ sc : Shared, sc = { sb with heap := sb.heap.push { cls := .type "list", data := .seq ([] : List Value).toArray } } := ⟨_, rfl⟩
  have psh : ∀ b o, sb.heap.get? b = some o → sc.heap.get? b = some o := fun b o e => by rw [esc]; exact Heap.get?_push_of_some _ e
  have Ic : Inv X pins σ (upd Hb sb.heap.objs.size (.lst [])) sc := by
    rw [esc]
    exact Ib.laid (t' := sb.toks) (fun b o e => Heap.get?_push_of_some _ e) (Nat.le_refl _) ⟨Nat.zero_le _, [], 0, .nil, Heap.get?_push_size _ rfl⟩
  have fc : ∀ b ∈ fp, FpOk X pins (upd Hb sb.heap.objs.size (.lst [])) b ∧ b < sc.heap.objs.size := fun b hb =>
    ⟨⟨(upd_ne (Nat.ne_of_lt (old b hb))).trans (fb b hb).1, (fb b hb).2⟩, by rw [esc, Heap.size_push]; exact Nat.lt_succ_of_lt (old b hb)⟩
  rw [← esc]
  generalize upd Hb sb.heap.objs.size (.lst []) = Hc at Ic fc w0
  have known : Mk X σ sc Hc fp := ⟨pins, Ic, fun b hb => (fc b hb).1⟩
  have Id := block_start Ic ok nd fc
  have dg := hg sc Hc sc.heap.objs.size (cellsFrom (sc.heap.objs.size + 1) scope.names (cloFrom X.env.cells scope.names [])) fp
  have dt := ht sc Hc sc.heap.objs.size (cellsFrom (sc.heap.objs.size + 1) scope.names (cloFrom X.env.cells scope.names [])) fp known
  have tc : tn 0 (pushCells (sc.heap.push { cls := .type "dict", data := .dict #[] }) scope.names) := tr.keep _ _ _ tb fun b _ o e => pushCells_keeps _ _ _ _ (Heap.get?_push_of_some _ (psh b o e))
  show codeAny _ _ (.compStart _ 0 _ _ (compEnvC scope (cellsFrom (sc.heap.objs.size + 1) scope.names (cloFrom X.env.cells scope.names [])) sc.heap.objs.size X.env)) (compPost (model X.prog X.w) X.A X.xe none _ _ sc.heap.objs.size) _
  have loc : (compEnvC scope (cellsFrom (sc.heap.objs.size + 1) scope.names (cloFrom X.env.cells scope.names [])) sc.heap.objs.size X.env).locals = sc.heap.objs.size := rfl
  generalize compEnvC scope (cellsFrom (sc.heap.objs.size + 1) scope.names (cloFrom X.env.cells scope.names [])) sc.heap.objs.size X.env = ce at Id dg dt loc ⊢
  obtain ⟨sd, esd⟩ : ∃ sd : Shared, sd = { sc with heap := pushCells (sc.heap.push { cls := .type "dict", data := .dict #[] }) scope.names } := ⟨_, rfl⟩
  rw [← esd] at Id ⊢
  have td : tn 0 sd.heap := by rw [esd]; exact tc
  have still : ∀ {σ' : L2.St} {H' : Hp} {s' : Shared}, Inv (X.blk sc Hc scope ce fp) [] σ' H' s' → (∀ b ∈ fp, H' b = none) → ∀ b ∈ fp, FpOk (X.blk sc Hc scope ce fp) [] H' b := fun {σ' H' s'} J n b hb =>
    ⟨n b hb, (J.ok.exf b hb).1, J.ok.exfs b hb, .inl hb, (J.ok.exf b hb).2, fun p hp => (List.not_mem_nil (show p ∈ ([] : List (Addr × Obj)) from hp)).elim⟩
  have all : codeAny (model X.prog X.w) X.A (.compLoop (.ListComp elt [⟨tg, iter, ifs, 0⟩] scope pos) 0 (.ref it) (.ref sb.heap.objs.size) ce) (compPost (model X.prog X.w) X.A X.xe none (EP X pins σ Q) (.ref sb.heap.objs.size) sc.heap.objs.size) sd := by
    refine compLoop_any (fun n s' => ∃ i H', Inv (X.blk sc Hc scope ce fp) [] (wipe σ (own.map (·.2))) H' s' ∧ tn i s'.heap ∧ (∀ b ∈ fp, H' b = none) ∧ M i n H') ?_ m0 ⟨0, Hc, Id, td, fun b hb => (fc b hb).1.1, w0⟩
    rintro n s5 ⟨i, H5, I5, t5, n5, w5⟩
    rcases step i n H5 w5 with ⟨stop, q⟩ | ⟨go, Nx, more, item⟩
    · refine thnF (tr.done (X.blk sc Hc scope ce fp) rfl rfl rfl calm i [] s5 _ H5 (fun _ _ => False) I5 (still I5 n5) t5 stop) fun r s6 ⟨er, I6⟩ => ?_
      subst er
      obtain ⟨m, ns, _⟩ := I6.loc
      have ns : s6.heap.Ns ce.locals m := ns
      have nl : H5 ce.locals = none := I6.free
      rw [loc] at ns nl
      have Ie : Inv X pins σ H5 s6 := Ic.call' (ch := fp) I6.os I6.base I6.hok I6.bare fun b hb => by
        obtain ⟨_, g1, _, g3, g4, g5⟩ := (fc b hb).1
        exact ⟨g3, g1, g4, g5⟩
      obtain ⟨g0, g1, g2, g3, g4, g5⟩ := Ic.fpOk (Nat.le_refl _) nl
      exact ⟨m, ns, fun h' sbt => ⟨.ref _, H5, Ie.turned (t' := s6.toks) (fun b o hb e => (sbt.2 b hb).trans e) g0 g1 g3 g4 g5, rfl, q⟩⟩
    · refine thnF (tr.item (X.blk sc Hc scope ce fp) rfl rfl rfl calm i [] s5 _ H5 (fun _ _ => False) I5 (still I5 n5) t5 go) fun r s6 ⟨u, er, w6⟩ => ?_
      subst er
      refine thnF w6 fun _ s7 ⟨x, H7, I7, r7, y7, t7, n7⟩ => ?_
      refine thnF (dg.run _ s7 _ H7 x u _ (I7.pinned (still I7 n7) (tr.obj _ _ t7)) r7 (item x H7 y7)) fun _ s8 ⟨σ8, H8, I8, ew, q8⟩ => ?_
      refine thnF (dt.run _ s8 σ8 H8 _ I8 q8) fun b s9 ⟨H9, I9, q9⟩ => ?_
      cases b with
      | true =>
        rw [if_pos rfl] at q9
        exact q9.elim
      | false =>
        rw [if_neg Bool.false_ne_true] at q9 ⊢
        obtain ⟨m', lt, w'⟩ := more H9 q9
        have back : ∀ b ∈ fp, ∀ o, s7.heap.get? b = some o → s9.heap.get? b = some o ∧ H9 b = none := fun b hb o e => by
          have z := I9.pin (b, o) (List.mem_append_right _ (List.mem_append_right _ (mem_pinsAt hb e)))
          exact ⟨z.1, z.2.1⟩
        refine ⟨m', lt, i + 1, H9, (I9.unpinned (pins := [])).weak (by rw [← ew, wipe_length]) (fun j v e => ?_), tr.keep _ _ _ t7 fun b hb o e => (back b hb o e).1, fun b hb => ?_, w'⟩
        · rw [← ew] at e
          exact (wipe_some e).1
        · obtain ⟨o, e, _⟩ := tr.obj _ _ t7 b hb
          exact (back b hb o e).2
  exact codeAny_compStart_list all (tr.self X.A 0 _ _ _ td all)
end
end Pev
/-! Pev: the comprehension over works. -/
namespace Pev
open PySem PySem.Spec PyProof.Rows L2
section
variable {X : Cx} {T : Tb} {W : WX}
theorem er_at {c : List Addr → List (Option Addr) → Hp → Prop} {cs : ∀ (β : List Addr) (α : List (Option Addr)) (H : Hp) (β' : List Addr) (α' : List (Option Addr)) (H' : Hp), α.length ≤ α'.length → (∀ (k : Nat) (a : Addr), k < α.length → α'[k]? = some (some a) → α[k]? = some (some a)) →
    Same (hid (β ++ live α) H) (hid (β' ++ live α') H') → c β α H → c β' α' H'} {β : List Addr} {α : List (Option Addr)} {H : Hp} {σ : L2.St} {ρ : Rho} (hc : c β α H) (h : Er T β α H σ ρ) : Er (T.at c cs) β α H σ ρ := ⟨h.1, fun i r q => by
  have w := h.2 i r q
  cases r with
  | err c f => exact w
  | dat _ => exact w
  | obj _ => exact w
  | ro _ => exact w
  | lam i f => obtain ⟨u, h1, h2⟩ := w; exact ⟨u, h1, vr_at hc h2⟩⟩
theorem noTE_eq {W : WX} : tE T W (fun _ _ => .stuck) = noTE := by
  funext σ H Q
  exact propext ⟨fun ⟨_, _, _, _, _, _, z⟩ => z, fun z => z.elim⟩
def eLcW (im : IM) (g : GM) (t : (Nat → Sto → Out R) → TM) (mbs : List EM) (vs : List Nat) : EM := fun ρ S => eLc false im g (t (hlOf mbs ρ)) (fun _ _ => .stuck) vs ρ S
theorem tr_lcW {elt tg iter : Expr} {ifs : List Expr} {scope : Scope} {pos : Pos} {im : IM} {g : GM} {t : (Nat → Sto → Out R) → TM} {mbs : List EM} (vs : List (Str × Nat)) (hc : X.calm = true) (hN : X.N.Nodup) (hx : ∀ β α H, T.ctx β α H) (hi : ∀ (σ : L2.St) (ρ : Rho), PI X tg iter (tI (T.er σ ρ) W im)) (ok : BlkOk X.N X.env.scope scope vs)
    (hg : ∀ (σ : L2.St) (ρ : Rho) (s : Shared) (H : Hp) (C : Addr) (cl : List (Str × Addr)) (fp : List Addr), PG (X.blk s H scope (compEnvC scope cl C X.env) fp) tg (tG (T.er σ ρ) (vs.map (·.2)) g))
    (ht : ∀ (σ : L2.St) (ρ : Rho) (s : Shared) (H : Hp) (C : Addr) (cl : List (Str × Addr)) (fp : List Addr), Mk X σ s H fp → PTs (X.blk s H scope (compEnvC scope cl C X.env) fp) ifs (tT (T.er σ ρ) W0 (t (hlOf mbs ρ))))
    (hs : ∀ x, foldedSetIterable iter X.env x = pure x := by intro _; rfl) : PE X (.ListComp elt [⟨tg, iter, ifs, 0⟩] scope pos) (tE T W (eLcW im g t mbs (vs.map (·.2)))) := by
  refine ⟨fun pins s σ H Q I ⟨β, α, S, ρ, hR, hE, h⟩ => lc_see hc hN I (hi σ ρ) ok (hg σ ρ) (ht σ ρ) hs ?_⟩
  have h2 : tE (T.er σ ρ) W (eLc false im g (t (hlOf mbs ρ)) (fun _ _ => .stuck) (vs.map (·.2))) σ H Q := by
    refine ⟨β, α, S, ρ, rl_at hE hR, er_at hE hE, ?_⟩
    unfold eLcW at h
    cases q : eLc false im g (t (hlOf mbs ρ)) (fun _ _ => .stuck) (vs.map (·.2)) ρ S with
    | ok r S1 => rw [q] at h; exact fun α' H' v e R y => h α' H' v e (rl_unat hx R) (vr_unat hx y)
    | exc c f S1 => rw [q] at h; exact fun α' H' cls d e R x => h α' H' cls d e (rl_unat hx R) x
    | stuck => rw [q] at h; exact h.elim
  have h3 := lc_le h2
  rw [noTE_eq] at h3
  exact h3
end
end Pev
/-! Pev: the same, told for the lambdas that are about. -/
namespace Pev
open PySem PySem.Spec PyProof.Rows L2
open LamX (LamS)
section
variable {X : Cx} {T : Tb} {W : WX} {ls : List LamI} {P : Program} {w : World} {K : PySem.W.Frag} {mg : Str → Option Value} {base : Heap}
theorem tr_lcallBL {ρ : Rho} {σ : L2.St} {s0 : Shared} {H1 : Hp} {scB : Scope} {ce : PySem.Env} {fp : List Addr} {x qual a : Str} {p pos : Pos} {e : Expr} {me : EM} {st : Stmt} {gA : Addr} {fd : FuncData} {N ps : List Str} {k nN i : Nat} (b : (Nat → Sto → Out R) → SM) {mbs : List EM}
    (okG : ∀ (ls : List LamI) (σ : L2.St) (ρ : Rho) (hl : Nat → Sto → Out R) (cdv : Value) (A : Around) (outer : List PySem.Env) (s : Shared) (H : Hp) (E : XK), RoomG (k + 1) (A.deeper (envOfC qual (defScope st) s.heap.objs.size gA cdv)) →
      (∀ (pn : List (Addr × Obj)) (xe : Value → Shared → Prop) (W' : WX), Takes ((cxOf (L2.CX P w) P w K mg base N qual (defScope st) gA cdv A outer s H E).tr pn xe) W' → ∀ p1 p2 : Pos,
        PE ((cxOf (L2.CX P w) P w K mg base N qual (defScope st) gA cdv A outer s H E).tr pn xe) (.Call (.Name a p1) [] [] p2) (tE ((T.lam ls).er σ ρ) W' (eWork i hl))) →
      PSs (cxOf (L2.CX P w) P w K mg base N qual (defScope st) gA cdv A outer s H E) (defBody st) (tS ((T.lam ls).er σ ρ) (fun cls d _ H' => E cls d H') (b hl)))
    (hP : X.prog = P) (hw : X.w = w) (hK : X.K = K) (hmg : X.mg = mg) (hba : X.base = base)
    (mk : Mk X σ s0 H1 fp) (F : L2.Fun K x qual st gA fd) (S : FnScope N ps (defScope st)) (hp : ps.length = 1) (eN : N.length = nN) (hx : ∀ β α H, T.ctx β α H) (hB : LamBs X (T.lam ls) k ls mbs) (hr : RoomG (k + 2) X.A) (hg : Gl (X.blk s0 H1 scB ce fp) x) (hm : X.mg x = some (.ref gA)) (hk : PySem.W.keepIn K (.ref gA) = true) (hb : Binds K fd ps [])
    (tk : Takes (X.blk s0 H1 scB ce fp) W) (hN : N[i]? = some a) (hv : Vis (defScope st) a)
    (ha : PA (X.blk s0 H1 scB ce fp) [e] (tA ((T.lam ls).er σ ρ) W (aCons me aNil))) (hd : (a == ("__debug__" : Str)) = false := by decide) (hcd : (a == ("__classdict__" : Str)) = false := by decide) (hdb : (x == ("__debug__" : Str)) = false := by decide)
    (he : starEach [e] (X.blk s0 H1 scB ce fp).env = (false, eval e (X.blk s0 H1 scB ce fp).env) :: starEach [] (X.blk s0 H1 scB ce fp).env := by rfl) (hpl : (backTo pos (starEach [] (X.blk s0 H1 scB ce fp).env)).any (·.1) = false := by rfl) :
    PE (X.blk s0 H1 scB ce fp) (.Call (.Name x p) [e] [] pos) (tE ((T.lam ls).er σ ρ) W (eLCallB (fnB nN (b (hlOf mbs ρ))) me)) := by
  subst hP hw hK hmg hba
  exact tr_lcallB (T := T.lam ls) mk F S hp eN hx hB hr hg hm hk hb tk hN hv (fun σ ρ cdv A outer s H E => okG ls σ ρ (hlOf mbs ρ) cdv A outer s H E) ha hd hcd hdb he hpl
end
end Pev
/-! Pev: list(x) of a text too. -/
namespace PySem
open Sem (wp)
section
variable {prog : Program} {w : World} {A : Around} {E : Value → Shared → Prop} {s : Shared}
theorem pev_hint_str {x : Str} {t : Tok} {Q : Bool → Shared → Prop} (h : Q false s) : wpAny (model prog w) A (Builtin.List.listLengthHint (.str x t)) Q E s := by
  unfold Builtin.List.listLengthHint
  refine wpAny_bind (wpAny_specialOf (typeIs_str s x t) PySem.F.slot_str_len.lookup ?_)
  generalize hid : ("str.__len__" : String) = id0
  wp_delta
  rw [show splitId id0 = some ("str", "__len__") from by subst hid; decide +kernel]
  subst hid
  refine wpAny_bind (wpAny_isInstance (T := "str") (b := true) (typeIs_str s x t) (by rw [isSubtype_type]; kernel_rfl) ?_)
  refine wpAny_ite_split (fun hab => absurd hab (by decide)) (fun _ => ?_)
  refine wpAny_ite_split (fun _ => ?_) (fun hab => absurd (by decide +kernel) hab)
  refine wpAny_bind (wpAny_typeOf (typeIs_str s x t) ?_)
  exact wpAny_pure h
theorem pev_walks_text (hh : A.handled = none) (I : Addr) (x : Str) (t : Tok) : Walks prog w A I [I] [I] x.cps.size (SignAt x) (fun i h => h.IsStrIter I (strIterType x) x t i) := by
  cases ha : x.cps.all (· < 128)
  · simp only [strIterType, ha, Bool.false_eq_true, if_false]
    exact Walks.strWide hh I x t
  · simp only [strIterType, ha, if_true]
    exact Walks.strAscii hh I x t
theorem pev_extend_str {R : Result → Shared → Prop} {x : Str} {t : Tok} (hh : A.handled = none) (hn : x.cps.size ≤ sizeLine) (S : Addr) (res : Value) (c₀ : Nat) (hS : s.heap.get? S = some { cls := .type "list", data := .seq #[] c₀ })
    (hR : ∀ h' tk acc' c', (∀ b o, b ≠ S → s.heap.get? b = some o → h'.get? b = some o) → h'.get? S = some { cls := .type "list", dict := none, data := .seq acc' c', slots := #[] } →
      ItemsOf (SignAt x) acc' x.cps.size → R (.ok (.ret res)) { s with heap := h', toks := tk }) :
    wpAny (model prog w) A.in1 (Builtin.List.listExtendWith (.ref S) (.str x t) res)
      (fun fin s' => match fin with | .done f => R (.ok f) s' | .again c' => c'.quiet = true ∧ codeAny (model prog w) A c' R s') (fun e s' => R (.error e) s') s := by
  have hSI : S ≠ s.heap.objs.size := Nat.ne_of_lt (Heap.lt_size hS)
  have hSf : S ∉ [s.heap.objs.size] := fun hm => hSI (List.mem_singleton.mp hm)
  have W := (pev_walks_text (prog := prog) (w := w) (A := A.in1) hh s.heap.objs.size x t).toS
  have key : ∀ (h : Heap) (c₁ tk : Nat), h.IsStrIter s.heap.objs.size (strIterType x) x t 0 → (∀ b o, b ≠ S → s.heap.get? b = some o → h.get? b = some o) →
      h.get? S = some { cls := .type "list", data := .seq #[] c₁ } → codeAny (model prog w) A (.builtin "list.extend.loop" ⟨[.ref S, .ref s.heap.objs.size, res], []⟩) R { s with heap := h, toks := tk } := by
    intro h c₁ tk hit hk hS₁
    refine codeAny_extend_loopS W hn S hSf res x.cps.size 0 _ #[] c₁ rfl (Nat.zero_le _) hit hS₁ (ItemsOf.nil _) fun s' acc' c' hm hS' hacc => ?_
    rw [Moved.eq_with hm]
    refine hR s'.heap s'.toks acc' c' (fun b o hb e => hm.heap b o (fun hmem => ?_) (hk b o hb e)) hS' hacc
    rcases List.mem_cons.mp hmem with e' | hmem
    · exact hb e'
    · exact absurd (Heap.lt_size e) (by rw [List.mem_singleton.mp hmem]; exact Nat.lt_irrefl _)
  unfold Builtin.List.listExtendWith
  refine wpAny_bind (wpAny_typeOf (T := "str") (typeIs_str s x t) ?_)
  have h1 : Builtin.List.listSameRef (.ref S) (.str x t) = false := rfl
  have h2 : (Value.type "str" == Value.type "list") = false := by decide
  have h3 : (Value.type "str" == Value.type "tuple") = false := by decide
  simp only [h1, h2, h3, Bool.or_false, Bool.false_eq_true, if_false]
  refine wpAny_bind (wpAny_pyIter_strU ?_)
  have hS₁ := Heap.get?_push_of_some { cls := .type (strIterType x), data := .fields #[.str x t, .int 0 0] } hS
  have hit₁ : (s.heap.push { cls := .type (strIterType x), data := .fields #[.str x t, .int 0 0] }).IsStrIter s.heap.objs.size (strIterType x) x t 0 := ⟨_, Heap.get?_push_size _ rfl, rfl, rfl⟩
  refine wpAny_bind (wpAny_holding (pev_hint_str ?_))
  refine wpAny_ite_split (fun hab => ?_) (fun _ => wpAny_pure ⟨plainId_quiet F.plain_extend_loop _, key _ c₀ _ hit₁ (fun b o _ e => Heap.get?_push_of_some _ e) hS₁⟩)
  exact absurd hab (by decide +kernel)
theorem pev_list_init_str {R : Result → Shared → Prop} {x : Str} {t : Tok} (hh : A.handled = none) (hn : x.cps.size ≤ sizeLine) (S : Addr) (hS : s.heap.get? S = some { cls := .type "list", data := .seq #[] })
    (hR : ∀ h' tk acc' c', (∀ b o, b ≠ S → s.heap.get? b = some o → h'.get? b = some o) → h'.get? S = some { cls := .type "list", dict := none, data := .seq acc' c', slots := #[] } →
      ItemsOf (SignAt x) acc' x.cps.size → R (.ok (.ret .none)) { s with heap := h', toks := tk }) :
    wpAny (model prog w) A.in1 (Builtin.«list.__init__» ⟨[.ref S, .str x t], []⟩)
      (fun fin s' => match fin with | .done f => R (.ok f) s' | .again c' => c'.quiet = true ∧ codeAny (model prog w) A c' R s') (fun e s' => R (.error e) s') s := by
  show wpAny _ _ (do let old ← Builtin.List.listItems (.ref S); Builtin.List.listUpdate (.ref S) (fun _ => #[]); letGo old.toList.reverse; Builtin.List.listExtendWith (.ref S) (.str x t) .none) _ _ s
  refine wpAny_bind ?_
  unfold Builtin.List.listItems
  refine wpAny_bind (wpAny_seqItems hS rfl (wpAny_pure ?_))
  show wpAny _ _ (updateSeq S (fun _ => #[]) >>= fun _ => letGo (#[] : Array Value).toList.reverse >>= fun _ => Builtin.List.listExtendWith (.ref S) (.str x t) .none) _ _ s
  refine wpAny_bind (wpAny_updateSeq hS rfl ?_)
  have hS₂ := Heap.get?_update_self (Obj.mapSeq (fun _ => (#[] : Array Value))) hS rfl
  have oth : ∀ b o, b ≠ S → s.heap.get? b = some o → (s.heap.update S (Obj.mapSeq (fun _ => (#[] : Array Value)))).get? b = some o :=
    fun b o hb e => (Heap.get?_update_other _ _ (Ne.symm hb)).trans e
  refine wpAny_bind (wpAny_letGo ?_)
  refine pev_extend_str hh hn S .none _ hS₂ fun h' tk acc' c' hk hS' hacc => ?_
  exact hR h' tk acc' c' (fun b o hb e => hk b o hb (oth b o hb e)) hS' hacc
theorem pev_call_list_str {Q : Value → Shared → Prop} {x : Str} {t : Tok} (hh : A.handled = none) (hn : x.cps.size ≤ sizeLine)
    (hQ : ∀ h' tk acc' c', (∀ b o, s.heap.get? b = some o → h'.get? b = some o) →
      h'.get? s.heap.objs.size = some { cls := .type "list", dict := none, data := .seq acc' c', slots := #[] } → ItemsOf (SignAt x) acc' x.cps.size → Q (.ref s.heap.objs.size) { s with heap := h', toks := tk }) :
    wpAny (model prog w) A (call (.type "list") [.str x t]) Q E s := by
  refine callType_codes (Q₁ := fun obj s₁ => obj = .ref s.heap.objs.size ∧ s₁ = { s with heap := s.heap.push { cls := .type "list", data := .seq #[] } }) F.called_list (F.typeCall_list_1 _) F.entry_list_init
    (code_list_new _ ⟨rfl, rfl⟩) fun obj s₁ h₁ => ?_
  obtain ⟨rfl, rfl⟩ := h₁
  have hS : (s.heap.push { cls := .type "list", data := .seq #[] }).get? s.heap.objs.size = some { cls := .type "list", data := .seq #[] } := Heap.get?_push_size _ rfl
  refine ⟨⟨_, hS, rfl⟩, F.args_list_init_2 _ _, pev_list_init_str (A := A.in1) hh hn _ hS fun h' tk acc' c' hk hS' hacc => ?_⟩
  exact ⟨rfl, hQ h' tk acc' c' (fun b o e => hk b o (Nat.ne_of_lt (Heap.lt_size e)) (Heap.get?_push_of_some _ e)) hS' hacc⟩
end
end PySem
namespace Pev
open PySem PySem.Spec
open PyProof.Rows L2
def sgV (z : Str) : List V := z.cps.toList.map fun c => .str ⟨#[c]⟩
theorem vals_sg {x : Str} {acc : Array Value} (h : ItemsOf (SignAt x) acc x.cps.size) : Vals (sgV x) acc.toList := by
  have go : ∀ (us : List Value) (cs : List Nat), us.length = cs.length → (∀ (j : Nat) (v : Value), us[j]? = some v → ∃ (c : Nat) (u : Tok), cs[j]? = some c ∧ v = Value.str ⟨#[c]⟩ u) → Vals (cs.map fun c => V.str ⟨#[c]⟩) us := by
    intro us
    induction us with
    | nil => intro cs e _; cases cs with
      | nil => exact .nil
      | cons c cs => cases e
    | cons u us ih => intro cs e g; cases cs with
      | nil => cases e
      | cons c cs =>
        refine .cons ?_ (ih cs (by simpa using e) fun j v q => g (j + 1) v (by simpa using q))
        obtain ⟨c', t, q1, rfl⟩ := g 0 u rfl
        cases (Option.some.inj q1)
        exact ⟨t, rfl⟩
  refine go acc.toList x.cps.toList (by rw [Array.length_toList, Array.length_toList]; exact h.1) fun j v q => ?_
  obtain ⟨c, u, e1, e2⟩ := h.2 j v (by rw [← q, Array.getElem?_toList])
  exact ⟨c, u, by rw [← e1, Array.getElem?_toList], e2⟩
theorem call_list_txt {X : Cx} (hc : X.calm = true) : CallR X (.type "list") (fun xs H Q => ∃ z, xs = [.str z] ∧ z.cps.size ≤ sizeLine ∧ ∀ l, H l = none → Q (.ref l) (upd H l (.lst (sgV z)))) := by
  intro pins s σ H xs us Q I r h
  obtain ⟨z, rfl, hz, q⟩ := h
  obtain ⟨u, rfl, rx⟩ := vals1 r
  obtain ⟨t, rfl⟩ := rx
  refine pev_call_list_str (I.ok.hd hc) hz fun h' tk acc c' hk e' hi => ?_
  refine ⟨.ref s.heap.objs.size, upd H s.heap.objs.size (.lst (sgV z)), I.laid hk (Nat.le_refl _) (show ObjOk X.prog X.w _ _ _ (.lst (sgV z)) from ⟨?_, acc.toList, c', vals_sg hi, ?_⟩), rfl, q _ (I.hok.fresh (Nat.le_refl _))⟩
  · unfold sgV
    rw [List.length_map, Array.length_toList]
    exact hz
  · rw [Array.toArray_toList]; exact e'
theorem call_list_U {X : Cx} (hc : X.calm = true) : CallR X (.type "list") (fun xs H Q => (∃ p ys, xs = [.ref p] ∧ (SqL X.K H p ys ∨ SqT X.K H p ys) ∧ ∀ l, H l = none → Q (.ref l) (upd H l (.lst ys))) ∨ ∃ z, xs = [.str z] ∧ z.cps.size ≤ sizeLine ∧ ∀ l, H l = none → Q (.ref l) (upd H l (.lst (sgV z)))) := by
  intro pins s σ H xs us Q I r h
  rcases h with h | h
  · exact call_list_of pins s σ H xs us Q I r h
  · exact call_list_txt hc pins s σ H xs us Q I r h
/-- list(x), of a text too -/
def gListU (own : Bool) (xs : List R) (S : Sto) : Out R := match xs with
  | [.dat (.str z)] => if z.length ≤ sizeLine then newL own ((signs z).map .dat) S else .stuck
  | xs => gList own xs S
theorem vrs_sg {K : Tb} {β : List Addr} {α : List (Option Addr)} {H : Hp} (z : Str) : Vrs K β α H ((signs z).map .dat) (sgV z) := by
  unfold signs sgV
  generalize z.cps.toList = l
  induction l with
  | nil => exact .nil
  | cons c l ih => exact .cons (.str _) ih
theorem snd_listU {T : Tb} (own : Bool) : SndA T (fun xs H Q => (∃ p ys, xs = [.ref p] ∧ (SqL T.K H p ys ∨ SqT T.K H p ys) ∧ ∀ l, H l = none → Q (.ref l) (upd H l (.lst ys))) ∨ ∃ z, xs = [.str z] ∧ z.cps.size ≤ sizeLine ∧ ∀ l, H l = none → Q (.ref l) (upd H l (.lst (sgV z)))) (gListU own) := by
  intro β W σ α S H xs vs Q Rr hx h
  unfold gListU at h
  split at h
  · rename_i z
    obtain ⟨v, rfl, hv⟩ := vrs1 hx
    cases vr_str hv
    split at h
    · rename_i hz
      exact .inr ⟨z, rfl, hz, fun l hl => newL_ok Rr hl (vrs_sg z) h⟩
    · exact h.elim
  · exact .inl (snd_list own β W σ α S H _ vs Q Rr hx h)
end Pev
namespace Lw
open PySem PySem.Spec PyProof.Rows L2 Pev
theorem sc_is_string : FnScope ["value"] ["value"] (defScope s_is_string) := ⟨rfl, rfl, rfl, by decide +kernel, rfl, by decide +kernel, by decide +kernel⟩
theorem sc_is_text : FnScope ["value", "sign"] ["value"] (defScope s_is_text) := ⟨rfl, rfl, rfl, by decide +kernel, rfl, by decide +kernel, by decide +kernel⟩
theorem sc_is_integer : FnScope ["value"] ["value"] (defScope s_is_integer) := ⟨rfl, rfl, rfl, by decide +kernel, rfl, by decide +kernel, by decide +kernel⟩
theorem sc_need_many : FnScope ["value", "word", "least"] ["value", "word", "least"] (defScope s_need_many) := ⟨rfl, rfl, rfl, by decide +kernel, rfl, by decide +kernel, by decide +kernel⟩
theorem sc_places_of : FnScope ["length", "near", "many", "at"] ["length", "near"] (defScope s_places_of) := ⟨rfl, rfl, rfl, by decide +kernel, rfl, by decide +kernel, by decide +kernel⟩
theorem sc_looks_of : FnScope ["length", "near", "other", "longer", "found", "piece", "begin", "end", "shift"] ["length", "near", "other"] (defScope s_looks_of) := ⟨rfl, rfl, rfl, by decide +kernel, rfl, by decide +kernel, by decide +kernel⟩
theorem sc_found_looks : FnScope ["one", "other", "near", "at", "text", "places", "found", "piece", "begin", "first", "last"] ["one", "other", "near"] (defScope s_found_looks) := ⟨rfl, rfl, rfl, by decide +kernel, rfl, by decide +kernel, by decide +kernel⟩
theorem sc_is_number : FnScope ["value"] ["value"] (defScope s_is_number) := ⟨rfl, rfl, rfl, by decide +kernel, rfl, by decide +kernel, by decide +kernel⟩
theorem sc_is_sequence : FnScope ["value"] ["value"] (defScope s_is_sequence) := ⟨rfl, rfl, rfl, by decide +kernel, rfl, by decide +kernel, by decide +kernel⟩
theorem sc_is_pair : FnScope ["value"] ["value"] (defScope s_is_pair) := ⟨rfl, rfl, rfl, by decide +kernel, rfl, by decide +kernel, by decide +kernel⟩
theorem sc_are_unlike : FnScope ["values", "at", "value"] ["values"] (defScope s_are_unlike) := ⟨rfl, rfl, rfl, by decide +kernel, rfl, by decide +kernel, by decide +kernel⟩
theorem sc_spoilt_piece : FnScope ["piece", "longer", "sign"] ["piece", "longer", "sign"] (defScope s_spoilt_piece) := ⟨rfl, rfl, rfl, by decide +kernel, rfl, by decide +kernel, by decide +kernel⟩
theorem sc_spoilt_text : FnScope ["text", "near", "look", "other", "places", "sign", "ahead", "made", "behind", "piece", "begin", "end", "part", "one"] ["text", "near", "look", "other"] (defScope s_spoilt_text) := ⟨rfl, rfl, rfl, by decide +kernel, rfl, by decide +kernel, by decide +kernel⟩
theorem sc__law_box : FnScope ["script", "k", "cell"] ["script", "k"] (defScope s__law_box) := ⟨rfl, rfl, rfl, by decide +kernel, rfl, by decide +kernel, by decide +kernel⟩
theorem sc__law_take : FnScope ["box", "many", "digit", "raw"] ["box", "many"] (defScope s__law_take) := ⟨rfl, rfl, rfl, by decide +kernel, rfl, by decide +kernel, by decide +kernel⟩
theorem sc__law_mixed : FnScope ["box", "some", "left", "row", "turn"] ["box", "some"] (defScope s__law_mixed) := ⟨rfl, rfl, rfl, by decide +kernel, rfl, by decide +kernel, by decide +kernel⟩
theorem sc__law_edits : FnScope ["one", "other", "row", "at", "sign", "later", "to", "mate"] ["one", "other"] (defScope s__law_edits) := ⟨rfl, rfl, rfl, by decide +kernel, rfl, by decide +kernel, by decide +kernel⟩
theorem sc__law_looks : FnScope ["length", "near", "other", "found", "piece", "begin", "end", "at", "shift"] ["length", "near", "other"] (defScope s__law_looks) := ⟨rfl, rfl, rfl, by decide +kernel, rfl, by decide +kernel, by decide +kernel⟩
theorem sc__law_found : FnScope ["one", "other", "near", "found", "piece", "at", "part"] ["one", "other", "near"] (defScope s__law_found) := ⟨rfl, rfl, rfl, by decide +kernel, rfl, by decide +kernel, by decide +kernel⟩
theorem sc__law_is_text : FnScope ["value", "sign"] ["value"] (defScope s__law_is_text) := ⟨rfl, rfl, rfl, by decide +kernel, rfl, by decide +kernel, by decide +kernel⟩
theorem sc__law_pick : FnScope ["box", "some"] ["box", "some"] (defScope s__law_pick) := ⟨rfl, rfl, rfl, by decide +kernel, rfl, by decide +kernel, by decide +kernel⟩
theorem sc__law_refused : FnScope ["work", "e"] ["work"] (defScope s__law_refused) := ⟨rfl, rfl, rfl, by decide +kernel, rfl, by decide +kernel, by decide +kernel⟩
theorem sc__law_errors : FnScope ["box", "text", "near", "look", "other", "wrong", "odd", "bad", "works", "work", "due"] ["box", "text", "near", "look", "other"] (defScope s__law_errors) := ⟨rfl, rfl, rfl, by decide +kernel, rfl, by decide +kernel, by decide +kernel⟩
theorem sc_law : FnScope ["script", "told", "k", "box", "near", "text", "other", "looks", "look", "given"] ["script"] (defScope s_law) := ⟨rfl, rfl, rfl, by decide +kernel, rfl, by decide +kernel, by decide +kernel⟩
/-! ### the mirrors -/
def b_is_string : SM := (sRet (eUn (uIs [.str]) (eVar 0)))
def m_is_string : FM := fnB 1 b_is_string
def b_is_text : SM := (sRet (eAnd (eArgs (needN 1 (pureF m_is_string)) (aCons (eVar 0) aNil)) (eArgs gAll (aCons (eLc false (iOf (eVar 0)) (gN 1) tYes' (eChain bLe bLe (eC (.str " ")) (eVar 1) (eC (.str "~"))) [1]) aNil))))
def m_is_text : FM := fnB 2 b_is_text
def b_is_integer : SM := (sRet (eAnd (eUn (uIs [.int]) (eVar 0)) (eNot (eUn (uIs [.bl]) (eVar 0)))))
def m_is_integer : FM := fnB 1 b_is_integer
def b_need_many : SM := (sCons (sIf (mOr (mNot (mT (eArgs (needN 1 (pureF m_is_integer)) (aCons (eVar 0) aNil)))) (mB (eBin bLt (eVar 0) (eVar 2)))) (sRaise 3 (eVar 1)) sSkip)
    (sRet (eVar 0)))
def m_need_many : FM := fnB 3 b_need_many
def b_places_of : SM := (sCons (sSet 2 (eBin (bAdd false) (eVar 1) (eC (.int 1))))
    (sRet (eLc false (iArgs gRange1 (aCons (eVar 2) aNil)) (gN 3) tYes' (eArgs gTup (aCons (eBin bDiv (eBin (bMul false) (eVar 0) (eVar 3)) (eVar 2)) (aCons (eBin bDiv (eBin (bMul false) (eVar 0) (eBin (bAdd false) (eVar 3) (eC (.int 1)))) (eVar 2)) aNil))) [3])))
def m_places_of : FM := fnB 4 b_places_of
def b_looks_of : SM := (sCons (sPar2 3 4 (aCons (eBin bSub (eVar 2) (eVar 0)) (aCons (eArgs (gLst true) aNil) aNil)))
    (sCons (sFor (iArgs gEnumU (aCons (eArgs (needN 2 (pureF m_places_of)) (aCons (eVar 0) (aCons (eVar 1) aNil))) aNil)) (gTp 2 (gsCons (gN 5) (gsCons (gTp 2 (gsCons (gN 6) (gsCons (gN 7) gsNil))) gsNil))) (sFor (iArgs gRange2 (aCons (eArgs gMax2 (aCons (eBin bSub (eC (.int 0)) (eVar 5)) (aCons (eBin (bAdd false) (eBin bSub (eVar 3) (eVar 1)) (eVar 5)) aNil))) (aCons (eBin (bAdd false) (eArgs gMin2 (aCons (eVar 5) (aCons (eBin bSub (eBin (bAdd false) (eVar 3) (eVar 1)) (eVar 5)) aNil))) (eC (.int 1))) aNil))) (gN 8) (sIf (mAnd (mB (eBin bGe (eBin (bAdd false) (eVar 6) (eVar 8)) (eC (.int 0)))) (mB (eBin bLe (eBin (bAdd false) (eVar 7) (eVar 8)) (eVar 2)))) (sExpr (eBMl gAppend (eVar 4) (aCons (eArgs gTup (aCons (eVar 5) (aCons (eBin (bAdd false) (eVar 6) (eVar 8)) aNil))) aNil))) sSkip)))
    (sRet (eVar 4))))
def m_looks_of : FM := fnB 9 b_looks_of
def b_found_looks : SM := (sCons (sFor (iArgs gEnumU (aCons (eArgs gTup (aCons (eVar 0) (aCons (eVar 1) aNil))) aNil)) (gTp 2 (gsCons (gN 3) (gsCons (gN 4) gsNil))) (sIf (mNot (mT (eArgs (needN 1 (pureF m_is_text)) (aCons (eVar 4) aNil)))) (sRaise 0 (eVar 3)) sSkip))
    (sCons (sPar2 5 6 (aCons (eArgs (needN 2 (pureF m_places_of)) (aCons (eArgs gLen (aCons (eVar 0) aNil)) (aCons (eArgs (fun rs => needN 3 (pureF m_need_many) (rs ++ [.int 0].map .dat)) (aCons (eVar 2) (aCons (eC (.str "near")) aNil))) aNil))) (aCons (eArgs (gLst true) aNil) aNil)))
    (sCons (sFor (iOf (eArgs (needN 3 (pureF m_looks_of)) (aCons (eArgs gLen (aCons (eVar 0) aNil)) (aCons (eVar 2) (aCons (eArgs gLen (aCons (eVar 1) aNil)) aNil))))) (gTp 2 (gsCons (gN 7) (gsCons (gN 8) gsNil))) (sCons (sTgt (gTp 2 (gsCons (gN 9) (gsCons (gN 10) gsNil))) (eBin bIx (eVar 5) (eVar 7)))
    (sIf (mB (eBin (bEq false) (eSl false (eVar 1) (some (eVar 8)) (some (eBin bSub (eBin (bAdd false) (eVar 8) (eVar 10)) (eVar 9)))) (eSl false (eVar 0) (some (eVar 9)) (some (eVar 10))))) (sExpr (eBMl gAppend (eVar 6) (aCons (eArgs gTup (aCons (eVar 7) (aCons (eVar 8) aNil))) aNil))) sSkip)))
    (sRet (eArgs gTuple (aCons (eVar 6) aNil))))))
def m_found_looks : FM := fnB 11 b_found_looks
def b_is_number : SM := (sRet (eAnd (eArgs (needN 1 (pureF m_is_integer)) (aCons (eVar 0) aNil)) (eBin bGe (eVar 0) (eC (.int 0)))))
def m_is_number : FM := fnB 1 b_is_number
def b_is_sequence : SM := (sRet (eUn (uIs [.lst, .tup]) (eVar 0)))
def m_is_sequence : FM := fnB 1 b_is_sequence
def b_is_pair : SM := (sRet (eAnd (eArgs (needN 1 (pureF m_is_sequence)) (aCons (eVar 0) aNil)) (eBin (bEq false) (eArgs gLen (aCons (eVar 0) aNil)) (eC (.int 2)))))
def m_is_pair : FM := fnB 1 b_is_pair
def b_are_unlike : SM := (sRet (eArgs gAll (aCons (eLc false (iArgs gEnumU (aCons (eVar 0) aNil)) (gTp 2 (gsCons (gN 1) (gsCons (gN 2) gsNil))) tYes' (eBin (bIn true) (eVar 2) (eSl false (eVar 0) none (some (eVar 1)))) [1, 2]) aNil)))
def m_are_unlike : FM := fnB 3 b_are_unlike
def b_spoilt_piece : SM := (sCons (sIf (mB (eBin bGt (eVar 1) (eC (.int 0)))) (sRet (eArgs gTup (aCons (eBin (bAdd false) (eBin (bAdd false) (eSl false (eVar 0) none (some (eC (.int 1)))) (eVar 2)) (eSl false (eVar 0) (some (eC (.int 1))) none)) (aCons (eBin bSub (eVar 1) (eC (.int 1))) aNil)))) sSkip)
    (sCons (sIf (mB (eBin bLt (eVar 1) (eC (.int 0)))) (sRet (eArgs gTup (aCons (eSl false (eVar 0) (some (eC (.int 1))) none) (aCons (eBin (bAdd false) (eVar 1) (eC (.int 1))) aNil)))) sSkip)
    (sRet (eArgs gTup (aCons (eBin (bAdd false) (eVar 2) (eSl false (eVar 0) (some (eC (.int 1))) none)) (aCons (eC (.int 0)) aNil))))))
def m_spoilt_piece : FM := fnB 3 b_spoilt_piece
def b_spoilt_text : SM := (sCons (sIf (mNot (mT (eArgs (needN 1 (pureF m_is_text)) (aCons (eVar 0) aNil)))) (sRaise 0 (eUn uNeg (eC (.int 1)))) sSkip)
    (sCons (sExpr (eArgs (fun rs => needN 3 (pureF m_need_many) (rs ++ [.int 0].map .dat)) (aCons (eVar 1) (aCons (eC (.str "near")) aNil))))
    (sCons (sExpr (eArgs (fun rs => needN 3 (pureF m_need_many) (rs ++ [.int 0].map .dat)) (aCons (eVar 3) (aCons (eC (.str "other")) aNil))))
    (sCons (sIf (mOr (mB (eBin bLt (eArgs gLen (aCons (eVar 0) aNil)) (eBin (bMul false) (eC (.int 2)) (eBin (bAdd false) (eVar 1) (eC (.int 1)))))) (mNot (mT (eArgs (needN 1 (pureF m_are_unlike)) (aCons (eLc false (iOf (eVar 0)) (gN 5) tYes' (eVar 5) [5]) aNil))))) (sRaise 2 (eUn uNeg (eC (.int 1)))) sSkip)
    (sCons (sIf (mOr (mNot (mT (eArgs (needN 1 (pureF m_is_pair)) (aCons (eVar 2) aNil)))) (mNot (mT (eArgs gAll (aCons (eLc false (iOf (eVar 2)) (gN 13) tYes' (eArgs (needN 1 (pureF m_is_number)) (aCons (eVar 13) aNil)) [13]) aNil))))) (sRaise 1 (eUn uNeg (eC (.int 1)))) sSkip)
    (sCons (sIf (mB (eBin (bIn true) (eArgs gTuple (aCons (eVar 2) aNil)) (eArgs (needN 3 (pureF m_looks_of)) (aCons (eArgs gLen (aCons (eVar 0) aNil)) (aCons (eVar 1) (aCons (eVar 3) aNil)))))) (sRaise 1 (eUn uNeg (eC (.int 1)))) sSkip)
    (sCons (sPar2 4 5 (aCons (eArgs (needN 2 (pureF m_places_of)) (aCons (eArgs gLen (aCons (eVar 0) aNil)) (aCons (eVar 1) aNil))) (aCons (eBin bIx (eLc false (iOf (eC (.str "0123456789abcdefghijklmnopqrstuvwxyzABCDEFGHIJKLMNOPQRSTUVWXYZ"))) (gN 5) (mB (eBin (bIn true) (eVar 5) (eVar 0))) (eVar 5) [5]) (eC (.int 0))) aNil)))
    (sCons (sPar2 6 7 (aCons (eBin bSub (eBin bIx (eVar 2) (eC (.int 1))) (eBin bIx (eBin bIx (eVar 4) (eBin bIx (eVar 2) (eC (.int 0)))) (eC (.int 0)))) (aCons (eC (.str "")) aNil)))
    (sCons (sSet 8 (eBin bSub (eBin bSub (eVar 3) (eArgs gLen (aCons (eVar 0) aNil))) (eVar 6)))
    (sCons (sFor (iArgs gEnumU (aCons (eVar 4) aNil)) (gTp 2 (gsCons (gN 9) (gsCons (gTp 2 (gsCons (gN 10) (gsCons (gN 11) gsNil))) gsNil))) (sCons (sSet 12 (eSl false (eVar 0) (some (eVar 10)) (some (eVar 11))))
    (sCons (sIf (mB (eBin bLt (eVar 9) (eBin bIx (eVar 2) (eC (.int 0))))) (sTgt (gTp 2 (gsCons (gN 12) (gsCons (gN 6) gsNil))) (eArgs (needN 3 (pureF m_spoilt_piece)) (aCons (eVar 12) (aCons (eVar 6) (aCons (eVar 5) aNil))))) (sIf (mB (eBin bGt (eVar 9) (eBin bIx (eVar 2) (eC (.int 0))))) (sTgt (gTp 2 (gsCons (gN 12) (gsCons (gN 8) gsNil))) (eArgs (needN 3 (pureF m_spoilt_piece)) (aCons (eVar 12) (aCons (eVar 8) (aCons (eVar 5) aNil))))) sSkip))
    (sSet 7 (eBin (bAdd false) (eVar 7) (eVar 12))))))
    (sRet (eVar 7))))))))))))
def m_spoilt_text : FM := fnB 14 b_spoilt_text
def b__law_box : SM := (sCons (sSet 2 (eBin (bAdd false) (eBin (bMul false) (eC (.int 6247)) (eVar 1)) (eC (.int 733))))
    (sCons (sIf (mB (eBin bLt (eVar 1) (eArgs gLen (aCons (eVar 0) aNil)))) (sSet 2 (eArgs gAbs (aCons (eBin bIx (eVar 0) (eVar 1)) aNil))) (sIf (mB (eBin bGt (eArgs gLen (aCons (eVar 0) aNil)) (eC (.int 0)))) (sSet 2 (eBin (bAdd false) (eVar 2) (eBin (bMul false) (eBin bMod (eArgs gInt (aCons (eArgs gAbs (aCons (eBin bIx (eVar 0) (eBin bMod (eArgs gInt (aCons (eVar 1) aNil)) (eArgs gLen (aCons (eVar 0) aNil)))) aNil)) aNil)) (eC (.int 2147483629))) (eC (.int 30011))))) sSkip))
    (sRet (eArgs (gLst true) (aCons (eBin bIx (eArgs (gLst false) (aCons (eC (.int 0)) (aCons (eVar 2) aNil))) (eArgs gInt (aCons (eBin bGe (eVar 2) (eBin bPow (eC (.int 10)) (eC (.int 18)))) aNil))) (aCons (eBin (bAdd false) (eBin bMod (eArgs gInt (aCons (eBin (bAdd false) (eBin (bMul false) (eBin bMod (eArgs gInt (aCons (eVar 2) aNil)) (eC (.int 2147483629))) (eC (.int 38377))) (eBin (bMul false) (eC (.int 71129)) (eVar 1))) aNil)) (eC (.int 2147483629))) (eC (.int 1))) (aCons (eC (.int 0)) aNil)))))))
def m__law_box : FM := fnB 3 b__law_box
def b__law_take : SM := (sCons (sIf (mB (eBin bGt (eBin bIx (eVar 0) (eC (.int 0))) (eC (.int 0)))) (sCons (sSet 2 (eBin bMod (eArgs gInt (aCons (eBin bIx (eVar 0) (eC (.int 0))) aNil)) (eVar 1)))
    (sCons (sPut (eVar 0) (eC (.int 0)) (eBin bDiv (eBin bIx (eVar 0) (eC (.int 0))) (eVar 1)))
    (sRet (eVar 2)))) sSkip)
    (sCons (sPut (eVar 0) (eC (.int 2)) (eBin (bAdd false) (eBin bIx (eVar 0) (eC (.int 2))) (eC (.int 1))))
    (sCons (sSet 3 (eBin bMod (eArgs gInt (aCons (eBin (bAdd false) (eBin (bMul false) (eBin (bAdd false) (eBin bIx (eVar 0) (eC (.int 1))) (eBin (bMul false) (eC (.int 90007)) (eBin bIx (eVar 0) (eC (.int 2))))) (eC (.int 58217))) (eC (.int 43))) aNil)) (eC (.int 2147483563))))
    (sCons (sPut (eVar 0) (eC (.int 1)) (eBin (bAdd false) (eBin bMod (eArgs gInt (aCons (eBin (bAdd false) (eBin (bMul false) (eVar 3) (eC (.int 40289))) (eC (.int 27367))) aNil)) (eC (.int 2147483629))) (eC (.int 1))))
    (sRet (eBin bMod (eArgs gInt (aCons (eBin bDiv (eBin (bAdd false) (eBin (bMul false) (eVar 3) (eC (.int 2147483647))) (eBin bIx (eVar 0) (eC (.int 1)))) (eC (.int 8191))) aNil)) (eVar 1)))))))
def m__law_take : FM := fnB 4 b__law_take
def b__law_mixed : SM := (sCons (sPar2 2 3 (aCons (eArgs (gListU true) (aCons (eVar 1) aNil)) (aCons (eArgs (gLst true) aNil) aNil)))
    (sCons (sFor (iArgs gRange1 (aCons (eArgs gLen (aCons (eVar 1) aNil)) aNil)) (gN 4) (sExpr (eBMl gAppend (eVar 3) (aCons (eBMl gPopI (eVar 2) (aCons (eArgs (needN 2 m__law_take) (aCons (eVar 0) (aCons (eArgs gLen (aCons (eVar 2) aNil)) aNil))) aNil)) aNil))))
    (sRet (eVar 3))))
def m__law_mixed : FM := fnB 5 b__law_mixed
def b__law_edits : SM := (sCons (sSet 2 (eArgs (gLR1 false) (aCons (eBin (bAdd false) (eArgs gLen (aCons (eVar 1) aNil)) (eC (.int 1))) aNil)))
    (sCons (sFor (iArgs gEnumU (aCons (eVar 0) aNil)) (gTp 2 (gsCons (gN 3) (gsCons (gN 4) gsNil))) (sCons (sSet 5 (eArgs (gLst true) (aCons (eBin (bAdd false) (eVar 3) (eC (.int 1))) aNil)))
    (sCons (sFor (iArgs gEnumU (aCons (eVar 1) aNil)) (gTp 2 (gsCons (gN 6) (gsCons (gN 7) gsNil))) (sExpr (eBMl gAppend (eVar 5) (aCons (eArgs gMin3 (aCons (eBin (bAdd false) (eBin bIx (eVar 5) (eVar 6)) (eC (.int 1))) (aCons (eBin (bAdd false) (eBin bIx (eVar 2) (eBin (bAdd false) (eVar 6) (eC (.int 1)))) (eC (.int 1))) (aCons (eBin (bAdd false) (eBin bIx (eVar 2) (eVar 6)) (eArgs gInt (aCons (eBin (bEq true) (eVar 4) (eVar 7)) aNil))) aNil)))) aNil))))
    (sSet 2 (eVar 5)))))
    (sRet (eBin bIx (eVar 2) (eUn uNeg (eC (.int 1)))))))
def m__law_edits : FM := fnB 8 b__law_edits
def b__law_looks : SM := (sCons (sSet 3 (eArgs (gLst true) aNil))
    (sCons (sFor (iArgs gRange1 (aCons (eBin (bAdd false) (eVar 1) (eC (.int 1))) aNil)) (gN 4) (sCons (sPar2 5 6 (aCons (eBin bDiv (eBin (bMul false) (eVar 0) (eVar 4)) (eBin (bAdd false) (eVar 1) (eC (.int 1)))) (aCons (eBin bDiv (eBin (bMul false) (eVar 0) (eBin (bAdd false) (eVar 4) (eC (.int 1)))) (eBin (bAdd false) (eVar 1) (eC (.int 1)))) aNil)))
    (sFor (iArgs gRange1 (aCons (eBin (bAdd false) (eVar 2) (eC (.int 1))) aNil)) (gN 7) (sCons (sSet 8 (eBin bSub (eVar 7) (eVar 5)))
    (sIf (mAnd (mB (eBin bLe (eArgs gAbs (aCons (eVar 8) aNil)) (eVar 4))) (mAnd (mB (eBin bLe (eArgs gAbs (aCons (eBin bSub (eBin bSub (eVar 2) (eVar 0)) (eVar 8)) aNil)) (eBin bSub (eVar 1) (eVar 4)))) (mB (eBin bLe (eBin bSub (eBin (bAdd false) (eVar 7) (eVar 6)) (eVar 5)) (eVar 2))))) (sExpr (eBMl gAppend (eVar 3) (aCons (eArgs gTup (aCons (eVar 4) (aCons (eVar 7) aNil))) aNil))) sSkip)))))
    (sRet (eVar 3))))
def m__law_looks : FM := fnB 9 b__law_looks
def b__law_found : SM := (sCons (sSet 3 (eArgs (gLst true) aNil))
    (sCons (sFor (iOf (eArgs (needN 3 (pureF m__law_looks)) (aCons (eArgs gLen (aCons (eVar 0) aNil)) (aCons (eVar 2) (aCons (eArgs gLen (aCons (eVar 1) aNil)) aNil))))) (gTp 2 (gsCons (gN 4) (gsCons (gN 5) gsNil))) (sCons (sSet 6 (eSl false (eVar 0) (some (eBin bDiv (eBin (bMul false) (eArgs gLen (aCons (eVar 0) aNil)) (eVar 4)) (eBin (bAdd false) (eVar 2) (eC (.int 1))))) (some (eBin bDiv (eBin (bMul false) (eArgs gLen (aCons (eVar 0) aNil)) (eBin (bAdd false) (eVar 4) (eC (.int 1)))) (eBin (bAdd false) (eVar 2) (eC (.int 1)))))))
    (sIf (mB (eBin (bEq false) (eSl false (eVar 1) (some (eVar 5)) (some (eBin (bAdd false) (eVar 5) (eArgs gLen (aCons (eVar 6) aNil))))) (eVar 6))) (sExpr (eBMl gAppend (eVar 3) (aCons (eArgs gTup (aCons (eVar 4) (aCons (eVar 5) aNil))) aNil))) sSkip)))
    (sRet (eVar 3))))
def m__law_found : FM := fnB 7 b__law_found
def b__law_is_text : SM := (sRet (eAnd (eUn (uIs [.str]) (eVar 0)) (eBin (bEq false) (eLc false (iOf (eVar 0)) (gN 1) (mNot (mB (eChain bLe bLe (eC (.str " ")) (eVar 1) (eC (.str "~"))))) (eVar 1) [1]) (eArgs (gLst false) aNil))))
def m__law_is_text : FM := fnB 2 b__law_is_text
def b__law_pick : SM := (sRet (eBin bIx (eVar 1) (eArgs (needN 2 m__law_take) (aCons (eVar 0) (aCons (eArgs gLen (aCons (eVar 1) aNil)) aNil)))))
def m__law_pick : FM := fnB 2 b__law_pick
def b__law_refused (hl : Nat → Sto → Out R) : SM := (sCons (sTry (sExpr (eWork 0 hl)) [⟨[true, false, false, false], some 1, (sRet (eArgs gTup (aCons (eC (.str "text")) (aCons (eFld [0] 1) aNil))))⟩, ⟨[false, false, false, true], some 1, (sRet (eArgs gTup (aCons (eC (.str "size")) (aCons (eFld [3] 1) aNil))))⟩, ⟨[false, true, false, false], some 1, (sRet (eArgs gTup (aCons (eC (.str "index")) (aCons (eFld [1] 1) aNil))))⟩, ⟨[false, false, true, false], some 1, (sRet (eArgs gTup (aCons (eC (.str "refused")) (aCons (eFld [2] 1) aNil))))⟩])
    (sRet (eC (.none))))
def lb__law_errors_0 : List EM := [(eArgs (needN 4 (pureF m_spoilt_text)) (aCons (eVar 6) (aCons (eVar 5) (aCons (eC (.none)) (aCons (eVar 5) aNil))))), (eArgs (needN 4 (pureF m_spoilt_text)) (aCons (eVar 1) (aCons (eVar 5) (aCons (eC (.none)) (aCons (eVar 5) aNil))))), (eArgs (needN 4 (pureF m_spoilt_text)) (aCons (eVar 1) (aCons (eVar 2) (aCons (eVar 7) (aCons (eVar 5) aNil))))), (eArgs (needN 4 (pureF m_spoilt_text)) (aCons (eVar 1) (aCons (eBin bDiv (eArgs gLen (aCons (eVar 1) aNil)) (eC (.int 2))) (aCons (eVar 7) (aCons (eVar 4) aNil))))), (eArgs (needN 4 (pureF m_spoilt_text)) (aCons (eBin (bAdd false) (eVar 1) (eSl false (eVar 1) none (some (eC (.int 1))))) (aCons (eVar 2) (aCons (eVar 7) (aCons (eVar 4) aNil))))), (eArgs (needN 4 (pureF m_spoilt_text)) (aCons (eVar 1) (aCons (eVar 2) (aCons (eVar 7) (aCons (eVar 4) aNil))))), (eArgs (needN 4 (pureF m_spoilt_text)) (aCons (eVar 1) (aCons (eVar 2) (aCons (eVar 3) (aCons (eBin (bAdd false) (eBin (bAdd false) (eArgs gLen (aCons (eVar 1) aNil)) (eVar 2)) (eC (.int 1))) aNil)))))]
def b__law_errors : SM := (sCons (sSet 5 (eArgs (needN 2 m__law_pick) (aCons (eVar 0) (aCons (eArgs (gLst false) (aCons (eC (.none)) (aCons (eC (.bool true)) (aCons (eBin bSub (eC (.int 0)) (eC (.int 1))) (aCons (eC (.str "1")) aNil))))) aNil))))
    (sCons (sSet 6 (eArgs (needN 2 m__law_pick) (aCons (eVar 0) (aCons (eArgs (gLst false) (aCons (eC (.none)) (aCons (eC (.int 7)) (aCons (eArgs gTup (aCons (eC (.str "a")) aNil)) (aCons (eC (.str "a\n")) aNil))))) aNil))))
    (sCons (sSet 7 (eArgs (needN 2 m__law_pick) (aCons (eVar 0) (aCons (eArgs (gLst false) (aCons (eC (.none)) (aCons (eC (.int 3)) (aCons (eArgs gTup aNil) (aCons (eBin (bAdd false) (eVar 3) (eArgs gTup (aCons (eC (.int 0)) aNil))) (aCons (eArgs gTup (aCons (eBin (bAdd false) (eVar 2) (eC (.int 1))) (aCons (eC (.int 0)) aNil))) (aCons (eArgs gTup (aCons (eC (.int 0)) (aCons (eC (.int 1)) aNil))) (aCons (eArgs gTup (aCons (eC (.bool false)) (aCons (eC (.int 0)) aNil))) (aCons (eArgs gTup (aCons (eBin bSub (eC (.int 0)) (eC (.int 1))) (aCons (eC (.int 0)) aNil))) aNil))))))))) aNil))))
    (sLam (sCons (sSet 8 (eArgs (gLst true) (aCons (eArgs gTupL (aCons (eLam 0) (aCons (eArgs gTup (aCons (eC (.str "text")) (aCons (eBin bSub (eC (.int 0)) (eC (.int 1))) aNil))) aNil))) aNil)))
    (sCons (sExpr (eBMl gAppend (eVar 8) (aCons (eArgs gTupL (aCons (eLam 1) (aCons (eArgs gTup (aCons (eC (.str "size")) (aCons (eC (.str "near")) aNil))) aNil))) aNil)))
    (sCons (sExpr (eBMl gAppend (eVar 8) (aCons (eArgs gTupL (aCons (eLam 2) (aCons (eArgs gTup (aCons (eC (.str "size")) (aCons (eC (.str "other")) aNil))) aNil))) aNil)))
    (sCons (sExpr (eBMl gAppend (eVar 8) (aCons (eArgs gTupL (aCons (eLam 3) (aCons (eArgs gTup (aCons (eC (.str "refused")) (aCons (eBin bSub (eC (.int 0)) (eC (.int 1))) aNil))) aNil))) aNil)))
    (sCons (sExpr (eBMl gAppend (eVar 8) (aCons (eArgs gTupL (aCons (eLam 4) (aCons (eArgs gTup (aCons (eC (.str "refused")) (aCons (eBin bSub (eC (.int 0)) (eC (.int 1))) aNil))) aNil))) aNil)))
    (sCons (sExpr (eBMl gAppend (eVar 8) (aCons (eArgs gTupL (aCons (eLam 5) (aCons (eArgs gTup (aCons (eC (.str "index")) (aCons (eBin bSub (eC (.int 0)) (eC (.int 1))) aNil))) aNil))) aNil)))
    (sCons (sExpr (eBMl gAppend (eVar 8) (aCons (eArgs gTupL (aCons (eLam 6) (aCons (eArgs gTup (aCons (eC (.str "index")) (aCons (eBin bSub (eC (.int 0)) (eC (.int 1))) aNil))) aNil))) aNil)))
    (sRet (eBin (bEq false) (eLcW (iOf (eVar 8)) (gW2 9 10) (fun hl => (mB (eBin (bEq true) (eLCallB (fnB 2 (b__law_refused hl)) (eVar 9)) (eVar 10)))) lb__law_errors_0 [9, 10]) (eArgs (gLst false) aNil))))))))))))))
def m__law_errors : FM := fnB 11 b__law_errors
def b_law : SM := (sCons (sSet 1 (eArgs (needN 4 (pureF m_spoilt_text)) (aCons (eC (.str "ab")) (aCons (eC (.int 0)) (aCons (eArgs gTup (aCons (eC (.int 0)) (aCons (eC (.int 0)) aNil))) (aCons (eC (.int 2)) aNil))))))
    (sCons (sIf (mOr (mB (eBin (bEq true) (eVar 1) (eC (.str "ab")))) (mB (eBin (bEq true) (eArgs (needN 3 (pureF m_found_looks)) (aCons (eC (.str "abcd")) (aCons (eArgs (needN 4 (pureF m_spoilt_text)) (aCons (eC (.str "abcd")) (aCons (eC (.int 1)) (aCons (eArgs gTup (aCons (eC (.int 1)) (aCons (eC (.int 2)) aNil))) (aCons (eC (.int 4)) aNil))))) (aCons (eC (.int 1)) aNil)))) (eArgs gTup (aCons (eArgs gTup (aCons (eC (.int 1)) (aCons (eC (.int 2)) aNil))) aNil))))) (sRet (eC (.bool false))) sSkip)
    (sCons (sFor (iArgs gRange1 (aCons (eC (.int 2)) aNil)) (gN 2) (sCons (sSet 3 (eArgs (needN 2 m__law_box) (aCons (eVar 0) (aCons (eVar 2) aNil))))
    (sCons (sSet 4 (eArgs (needN 2 m__law_take) (aCons (eVar 3) (aCons (eC (.int 4)) aNil))))
    (sCons (sSet 5 (eBMs gJoin (eC (.str "")) (aCons (eSl false (eArgs (needN 2 m__law_mixed) (aCons (eVar 3) (aCons (eC (.str "abc xyzABC-9~")) aNil))) none (some (eBin (bAdd false) (eBin (bMul false) (eC (.int 2)) (eBin (bAdd false) (eVar 4) (eC (.int 1)))) (eArgs (needN 2 m__law_take) (aCons (eVar 3) (aCons (eC (.int 4)) aNil)))))) aNil)))
    (sCons (sSet 6 (eBin bSub (eBin (bAdd false) (eArgs gLen (aCons (eVar 5) aNil)) (eArgs (needN 2 m__law_take) (aCons (eVar 3) (aCons (eBin (bAdd false) (eBin (bMul false) (eC (.int 2)) (eVar 4)) (eC (.int 1))) aNil)))) (eVar 4)))
    (sCons (sSet 7 (eArgs (needN 3 (pureF m__law_looks)) (aCons (eArgs gLen (aCons (eVar 5) aNil)) (aCons (eVar 4) (aCons (eVar 6) aNil)))))
    (sCons (sFor (iOf (eSl false (eArgs (needN 2 m__law_mixed) (aCons (eVar 3) (aCons (eVar 7) aNil))) none (some (eC (.int 3))))) (gN 8) (sCons (sSet 9 (eArgs (gList false) (aCons (eVar 8) aNil)))
    (sCons (sSet 1 (eArgs (needN 4 fun rs => needN 4 (pureF m_spoilt_text) (permL [1, 0, 3, 2] rs)) (aCons (eVar 4) (aCons (eVar 5) (aCons (eVar 6) (aCons (eVar 9) aNil))))))
    (sCons (sIf (mOr (mNot (mT (eArgs (needN 1 (pureF m__law_is_text)) (aCons (eVar 1) aNil)))) (mOr (mB (eBin (bEq true) (eArgs gLen (aCons (eVar 1) aNil)) (eVar 6))) (mOr (mB (eBin bGt (eArgs (needN 2 (pureF m__law_edits)) (aCons (eVar 5) (aCons (eVar 1) aNil))) (eVar 4))) (mB (eBin (bEq true) (eVar 9) (eArgs (gList false) (aCons (eVar 8) aNil))))))) (sRet (eC (.bool false))) sSkip)
    (sIf (mOr (mB (eBin (bEq true) (eArgs (needN 3 (pureF m__law_found)) (aCons (eVar 5) (aCons (eVar 1) (aCons (eVar 4) aNil)))) (eArgs (gLst false) (aCons (eVar 8) aNil)))) (mB (eBin (bEq true) (eArgs (needN 3 (pureF m_found_looks)) (aCons (eVar 5) (aCons (eVar 1) (aCons (eVar 4) aNil)))) (eArgs gTup (aCons (eVar 8) aNil))))) (sRet (eC (.bool false))) sSkip)))))
    (sIf (mNot (mT (eArgs (needN 5 m__law_errors) (aCons (eVar 3) (aCons (eVar 5) (aCons (eVar 4) (aCons (eBin bIx (eVar 7) (eC (.int 0))) (aCons (eVar 6) aNil)))))))) (sRet (eC (.bool false))) sSkip))))))))
    (sRet (eC (.bool true))))))
def m_law : FM := fnB 10 b_law
end Lw
namespace Lw
open PySem Pev
open L2 (atI ixN cutS)
/-! ### numbers -/
theorem le_ii (x y : Int) (S : Sto) : bLe (.dat (.int x)) (.dat (.int y)) S = .ok (.dat (.bool (decide (x ≤ y)))) S := rfl
theorem ge_ii (x y : Int) (S : Sto) : bGe (.dat (.int x)) (.dat (.int y)) S = .ok (.dat (.bool (decide (x ≥ y)))) S := rfl
theorem gt_ii (x y : Int) (S : Sto) : bGt (.dat (.int x)) (.dat (.int y)) S = .ok (.dat (.bool (decide (x > y)))) S := rfl
theorem lt_ii (x y : Int) (S : Sto) : bLt (.dat (.int x)) (.dat (.int y)) S = .ok (.dat (.bool (decide (x < y)))) S := rfl
theorem add_ii (x y : Int) (S : Sto) : bAdd false (.dat (.int x)) (.dat (.int y)) S = .ok (.dat (.int (x + y))) S := rfl
theorem sub_ii (x y : Int) (S : Sto) : bSub (.dat (.int x)) (.dat (.int y)) S = .ok (.dat (.int (x - y))) S := rfl
theorem abs_i (x : Int) (S : Sto) : gAbs [.dat (.int x)] S = .ok (.dat (.int (if x < 0 then -x else x))) S := rfl
theorem mAnd_ok {a b : TM} {ρ : Rho} {S : Sto} {p q : Bool} (h1 : a ρ S = .ok p S) (h2 : b ρ S = .ok q S) : mAnd a b ρ S = .ok (p && q) S := by
  unfold mAnd
  rw [h1]
  cases p with
  | false => rfl
  | true => rw [Bool.true_and]; exact h2
theorem mul_ii {x y : Int} (h : mulOk x y = true) (S : Sto) : bMul false (.dat (.int x)) (.dat (.int y)) S = .ok (.dat (.int (x * y))) S := by
  unfold bMul
  dsimp only
  rw [if_pos h]
  rfl
theorem mul_nn {x y : Nat} (h : x < 1000) (S : Sto) : bMul false (.dat (.int (x : Nat))) (.dat (.int (y : Nat))) S = .ok (.dat (.int ((x * y : Nat) : Int))) S := by
  rw [mul_ii (mulL (by unfold small; exact decide_eq_true (by omega)))]
  rfl
theorem div_nn {x y : Nat} (h0 : 0 < y) (h : y < 1000) (S : Sto) : bDiv (.dat (.int (x : Nat))) (.dat (.int (y : Nat))) S = .ok (.dat (.int ((x / y : Nat) : Int))) S := by
  have e : ((x : Int)).fdiv (y : Int) = ((x / y : Nat) : Int) := by
    rw [Int.fdiv_eq_ediv_of_nonneg _ (by omega)]
    rfl
  have h1 : ((y : Int) ≠ 0) = True := eq_true (by omega)
  have h2 : ((y : Int).natAbs < 1073741824) = True := eq_true (by omega)
  simp only [Pev.fnB, Pev.OutS.toF, Pev.sCons, Pev.sSet, Pev.sRet, Pev.sRetN, Pev.sIf, Pev.sSkip, Pev.sExpr, Pev.sTgt, Pev.sFor, Pev.sRaise, Pev.sPut, Pev.putAt, Pev.sPar2, Pev.sPar3, Pev.sTry, Pev.hRun, Pev.OutS.fade, Pev.OutS.calm, Pev.Out.toS, Pev.Out.bind, Pev.noX, Pev.eVar, Pev.eC, Pev.eBin, Pev.eUn, Pev.eArgs, Pev.aCons, Pev.aNil, Pev.needN, Pev.eAnd, Pev.eOr, Pev.eNot, Pev.eIf, Pev.mAnd, Pev.mOr, Pev.mNot, Pev.mB, Pev.mT, Pev.eChain, Pev.truth, Pev.ans, Pev.ofT, Pev.ofB, Pev.bAdd, Pev.bSub, Pev.bMul, Pev.bDiv, Pev.bMod, Pev.bLt, Pev.bLe, Pev.bGt, Pev.bGe, Pev.bIsN, Pev.isNone?, Pev.uNeg, Pev.bIx, Pev.lv, Pev.lvt, Pev.gLen, Pev.gAbs, Pev.gInt, Pev.gBool, Pev.gList, Pev.gTuple, Pev.gTup, Pev.gLst, Pev.newL, Pev.newT, Pev.datAll, Pev.R.d?, Pev.uIs, Pev.tyOf, Pev.eLc, Pev.iOf, Pev.itOf, Pev.iArgs, Pev.gRange1, Pev.gRange2, Pev.gN, Pev.gTp, Pev.gsCons, Pev.gsNil, Pev.tv, Pev.eBMl, Pev.gAppend, Pev.gPop, Pev.gExtend, Pev.cellOf, Pev.eFld, Pev.tYes', Pev.wipeR, Pev.permL, List.map_cons, List.map_nil, List.length_cons, List.length_nil, List.cons_append, List.nil_append, List.append_nil, List.replicate, List.getElem?_cons_zero, List.getElem?_cons_succ, List.getElem?_nil, List.set_cons_zero, List.set_cons_succ, List.set_nil, List.filterMap_cons, List.filterMap_nil, Option.map_some, Option.map_none, Option.bind_some, Option.bind_none, if_true, if_false, Bool.not_true, Bool.not_false, Nat.reduceSub, Nat.reduceAdd, Nat.reduceEqDiff, Nat.reduceLeDiff, reduceIte, ite_true, ite_false, Bool.true_eq_false, Bool.false_eq_true, ↓reduceIte, Nat.zero_add, Nat.add_zero, Nat.sub_zero, Pev.outD_dat, Pev.snap_dat, Pev.outX, List.any_cons, List.any_nil, List.all_cons, List.all_nil, id_eq, Bool.or_false, Bool.or_true, Bool.true_or, Bool.false_or, Bool.and_true, Bool.true_and, Bool.and_false, Bool.false_and, Bool.and_self, Bool.or_self, Int.cast_ofNat_Int, decide_true, decide_false, Pev.isa_self, Pev.isa_bi, Pev.isa_tl, Pev.isa_lt, Pev.isa_ti, Pev.isa_li, Pev.isa_it, Pev.gAll, Pev.gAny, Pev.gSum, Pev.bls?, Pev.ints?, Pev.eq_ints, Pev.datAll_map, Pev.map_dat, Pev.app_map, Pev.datAll_f, Pev.ints_f, Pev.bls_f, Pev.at0, Pev.at1, Pev.at2, Pev.atLast, Pev.two_small, Pev.three_small, Pev.one_small, Pev.nil_small, Pev.oPart, Pev.toI, Pev.eSl, Pev.gSl, Pev.uRev, List.isEmpty_cons, List.isEmpty_nil, h1, h2, true_and, e]
theorem gr1 (n : Nat) (h : n ≤ 10000) (S : Sto) : gRange1 [.dat (.int (n : Nat))] S = .ok ⟨(List.range n).map fun j : Nat => R.dat (.int (j : Nat)), []⟩ S := by
  unfold gRange1
  dsimp only
  rw [inR_small h, rangeR_0]
  rfl
/-! ### texts -/
def tx (l : List Nat) : Str := ⟨l.toArray⟩
def sg (c : Nat) : PyData := .str ⟨#[c]⟩
theorem tx_codes (l : List Nat) : (tx l).cps.toList = l := rfl
theorem tx_len (l : List Nat) : (tx l).length = l.length := by simp [tx, Str.length]
def Sg (c : Nat) : Prop := 32 ≤ c ∧ c ≤ 126
def Fine (l : List Nat) : Prop := ∀ c ∈ l, Sg c
theorem fine_lay {l : List Nat} (h : Fine l) : PyData.canLay0 (.str (tx l)) = true := by
  unfold PyData.canLay0 PyData.strOk
  show (tx l).cps.all _ = true
  rw [Array.all_eq_true_iff_forall_mem]
  intro c hc'
  have := h c (by simpa [tx] using hc')
  unfold Sg at this
  exact decide_eq_true (by omega)
theorem tx_fit {l : List Nat} (h : Fine l) : Fit 0 (.str (tx l)) := ⟨fine_lay h, Nat.zero_le _⟩
theorem tx_inj {l k : List Nat} (h : tx l = tx k) : l = k := by
  have := congrArg (fun s : Str => s.cps.toList) h
  exact this
theorem eq_tx (neg : Bool) {l k : List Nat} (h1 : Fine l) (h2 : Fine k) (S : Sto) : bEq neg (.dat (.str (tx l))) (.dat (.str (tx k))) S = .ok (.dat (.bool (if neg then !decide (l = k) else decide (l = k)))) S := by
  rw [beq_dat (tx_fit h1).shaped (tx_fit h2).shaped]
  have e : PyData.eqv (.str (tx l)) (.str (tx k)) = decide (l = k) := by
    unfold PyData.eqv
    by_cases q : l = k
    · rw [q, decide_eq_true rfl]; simp
    · rw [decide_eq_false q]
      exact beq_eq_false_iff_ne.mpr fun z => q (tx_inj z)
  rw [e]
theorem fine_sub {l k : List Nat} (h : Fine l) (hs : ∀ c ∈ k, c ∈ l) : Fine k := fun c hc => h c (hs c hc)
theorem le_sg (a b : Nat) (S : Sto) : bLe (.dat (sg a)) (.dat (sg b)) S = .ok (.dat (.bool (decide (a ≤ b)))) S := by
  have e : decide (([b] : List Nat) < [a]) = decide (b < a) := by
    by_cases q : b < a
    · rw [decide_eq_true q, decide_eq_true (List.cons_lt_cons_iff.mpr (.inl q))]
    · rw [decide_eq_false q, decide_eq_false fun z => by
        rcases List.cons_lt_cons_iff.mp z with z | z
        · exact q z
        · exact absurd z.2 (List.not_lt_nil _)]
  show Out.ok (R.dat (.bool (!decide (([b] : List Nat) < [a])))) S = _
  rw [e]
  congr 3
  by_cases q : b < a
  · rw [decide_eq_true q, decide_eq_false (by omega)]; rfl
  · rw [decide_eq_false q, decide_eq_true (by omega)]; rfl
theorem chain_sg {c : Nat} (h : Sg c) (ρ : Rho) (hr : ρ[1]? = some (some (.dat (sg c)))) (S : Sto) : (eChain bLe bLe (eC (.str " ")) (eVar 1) (eC (.str "~"))) ρ S = .ok (.dat (.bool true)) S := by
  unfold Sg at h
  have l1 : bLe (.dat (.str " ")) (.dat (sg c)) S = .ok (.dat (.bool true)) S := by
    have := le_sg 32 c S
    rw [decide_eq_true h.1] at this
    exact this
  have l2 : bLe (.dat (sg c)) (.dat (.str "~")) S = .ok (.dat (.bool true)) S := by
    have := le_sg c 126 S
    rw [decide_eq_true h.2] at this
    exact this
  simp only [Pev.fnB, Pev.OutS.toF, Pev.sCons, Pev.sSet, Pev.sRet, Pev.sRetN, Pev.sIf, Pev.sSkip, Pev.sExpr, Pev.sTgt, Pev.sFor, Pev.sRaise, Pev.sPut, Pev.sAugS, Pev.sPar2, Pev.sPar3, Pev.OutS.fade, Pev.OutS.calm, Pev.Out.toS, Pev.Out.bind, Pev.noX, Pev.eVar, Pev.eC, Pev.eBin, Pev.eUn, Pev.eArgs, Pev.aCons, Pev.aNil, Pev.needN, Pev.eAnd, Pev.eOr, Pev.eNot, Pev.eIf, Pev.mAnd, Pev.mOr, Pev.mNot, Pev.mB, Pev.mT, Pev.eChain, Pev.truth, Pev.ofT, Pev.ofB, Pev.R.d?, Pev.eLc, Pev.iOf, Pev.iArgs, Pev.gN, Pev.gTp, Pev.gsCons, Pev.gsNil, Pev.tv, Pev.eBMl, Pev.eFld, Pev.tYes', Pev.wipeR, Pev.permL, List.map_cons, List.map_nil, List.length_cons, List.length_nil, List.cons_append, List.nil_append, List.append_nil, List.replicate, List.getElem?_cons_zero, List.getElem?_cons_succ, List.getElem?_nil, List.set_cons_zero, List.set_cons_succ, List.set_nil, List.filterMap_cons, List.filterMap_nil, Option.map_some, Option.map_none, Option.bind_some, Option.bind_none, if_true, if_false, Bool.not_true, Bool.not_false, Nat.reduceSub, Nat.reduceAdd, Nat.reduceEqDiff, Nat.reduceLeDiff, reduceIte, ite_true, ite_false, Bool.true_eq_false, Bool.false_eq_true, ↓reduceIte, Nat.zero_add, Nat.add_zero, Nat.sub_zero, id_eq, Bool.or_false, Bool.or_true, Bool.true_or, Bool.false_or, Bool.and_true, Bool.true_and, Bool.and_false, Bool.false_and, Bool.and_self, Bool.or_self, hr, l1, l2]
theorem lc_text {l : List Nat} (h : Fine l) (x : Option R) : lcLoop [] (gN 1) tYes' (eChain bLe bLe (eC (.str " ")) (eVar 1) (eC (.str "~"))) [x, none] (l.map fun c => R.dat (sg c)) [] = .ok (l.map fun _ => R.dat (.bool true)) [] :=
  lc_all (fun c : Nat => R.dat (sg c)) (fun _ => .dat (.bool true)) l fun c hc => ⟨_, rfl, chain_sg (h c hc) _ rfl _⟩
theorem text_ok {l : List Nat} (h : Fine l) (hl : l.length ≤ 60) : Gv m_is_text [.str (tx l)] (.bool true) := by
  have sz : (l.length ≤ sizeLine) = True := eq_true (Nat.le_trans hl (by decide))
  have st : Gv m_is_string [.str (tx l)] (.bool true) := rfl
  unfold Gv m_is_text b_is_text
  simp only [Pev.fnB, Pev.OutS.toF, Pev.sCons, Pev.sSet, Pev.sRet, Pev.sRetN, Pev.sIf, Pev.sSkip, Pev.sExpr, Pev.sTgt, Pev.sFor, Pev.sRaise, Pev.sPut, Pev.putAt, Pev.sPar2, Pev.sPar3, Pev.sTry, Pev.hRun, Pev.OutS.fade, Pev.OutS.calm, Pev.Out.toS, Pev.Out.bind, Pev.noX, Pev.eVar, Pev.eC, Pev.eBin, Pev.eUn, Pev.eArgs, Pev.aCons, Pev.aNil, Pev.needN, Pev.eAnd, Pev.eOr, Pev.eNot, Pev.eIf, Pev.mAnd, Pev.mOr, Pev.mNot, Pev.mB, Pev.mT, Pev.eChain, Pev.truth, Pev.ans, Pev.ofT, Pev.ofB, Pev.bAdd, Pev.bSub, Pev.bMul, Pev.bDiv, Pev.bMod, Pev.bLt, Pev.bLe, Pev.bGt, Pev.bGe, Pev.bIsN, Pev.isNone?, Pev.uNeg, Pev.bIx, Pev.lv, Pev.lvt, Pev.gLen, Pev.gAbs, Pev.gInt, Pev.gBool, Pev.gList, Pev.gTuple, Pev.gTup, Pev.gLst, Pev.newL, Pev.newT, Pev.datAll, Pev.R.d?, Pev.uIs, Pev.tyOf, Pev.eLc, Pev.iOf, Pev.itOf, Pev.iArgs, Pev.gRange1, Pev.gRange2, Pev.gN, Pev.gTp, Pev.gsCons, Pev.gsNil, Pev.tv, Pev.eBMl, Pev.gAppend, Pev.gPop, Pev.gExtend, Pev.cellOf, Pev.eFld, Pev.tYes', Pev.wipeR, Pev.permL, List.map_cons, List.map_nil, List.length_cons, List.length_nil, List.cons_append, List.nil_append, List.append_nil, List.replicate, List.getElem?_cons_zero, List.getElem?_cons_succ, List.getElem?_nil, List.set_cons_zero, List.set_cons_succ, List.set_nil, List.filterMap_cons, List.filterMap_nil, Option.map_some, Option.map_none, Option.bind_some, Option.bind_none, if_true, if_false, Bool.not_true, Bool.not_false, Nat.reduceSub, Nat.reduceAdd, Nat.reduceEqDiff, Nat.reduceLeDiff, reduceIte, ite_true, ite_false, Bool.true_eq_false, Bool.false_eq_true, ↓reduceIte, Nat.zero_add, Nat.add_zero, Nat.sub_zero, Pev.outD_dat, Pev.snap_dat, Pev.outX, List.any_cons, List.any_nil, List.all_cons, List.all_nil, id_eq, Bool.or_false, Bool.or_true, Bool.true_or, Bool.false_or, Bool.and_true, Bool.true_and, Bool.and_false, Bool.false_and, Bool.and_self, Bool.or_self, Int.cast_ofNat_Int, decide_true, decide_false, Pev.isa_self, Pev.isa_bi, Pev.isa_tl, Pev.isa_lt, Pev.isa_ti, Pev.isa_li, Pev.isa_it, Pev.gAll, Pev.gAny, Pev.gSum, Pev.bls?, Pev.ints?, Pev.eq_ints, Pev.datAll_map, Pev.map_dat, Pev.app_map, Pev.datAll_f, Pev.ints_f, Pev.bls_f, Pev.at0, Pev.at1, Pev.at2, Pev.atLast, Pev.two_small, Pev.three_small, Pev.one_small, Pev.nil_small, Pev.oPart, Pev.toI, Pev.eSl, Pev.gSl, Pev.uRev, List.isEmpty_cons, List.isEmpty_nil, one_call st, tx_codes, show ∀ c : Nat, PyData.str ⟨#[c]⟩ = sg c from fun _ => rfl, lc_text h, List.length_map, sz, all_yes]
theorem len_tx {l : List Nat} (h : l.length ≤ 1000) (S : Sto) : gLen [.dat (.str (tx l))] S = .ok (.dat (.int (l.length : Nat))) S := by
  have sz := sz_of (show l.length ≤ 10000 by omega)
  simp only [Pev.fnB, Pev.OutS.toF, Pev.sCons, Pev.sSet, Pev.sRet, Pev.sRetN, Pev.sIf, Pev.sSkip, Pev.sExpr, Pev.sTgt, Pev.sFor, Pev.sRaise, Pev.sPut, Pev.putAt, Pev.sPar2, Pev.sPar3, Pev.sTry, Pev.hRun, Pev.OutS.fade, Pev.OutS.calm, Pev.Out.toS, Pev.Out.bind, Pev.noX, Pev.eVar, Pev.eC, Pev.eBin, Pev.eUn, Pev.eArgs, Pev.aCons, Pev.aNil, Pev.needN, Pev.eAnd, Pev.eOr, Pev.eNot, Pev.eIf, Pev.mAnd, Pev.mOr, Pev.mNot, Pev.mB, Pev.mT, Pev.eChain, Pev.truth, Pev.ans, Pev.ofT, Pev.ofB, Pev.bAdd, Pev.bSub, Pev.bMul, Pev.bDiv, Pev.bMod, Pev.bLt, Pev.bLe, Pev.bGt, Pev.bGe, Pev.bIsN, Pev.isNone?, Pev.uNeg, Pev.bIx, Pev.lv, Pev.lvt, Pev.gLen, Pev.gAbs, Pev.gInt, Pev.gBool, Pev.gList, Pev.gTuple, Pev.gTup, Pev.gLst, Pev.newL, Pev.newT, Pev.datAll, Pev.R.d?, Pev.uIs, Pev.tyOf, Pev.eLc, Pev.iOf, Pev.itOf, Pev.iArgs, Pev.gRange1, Pev.gRange2, Pev.gN, Pev.gTp, Pev.gsCons, Pev.gsNil, Pev.tv, Pev.eBMl, Pev.gAppend, Pev.gPop, Pev.gExtend, Pev.cellOf, Pev.eFld, Pev.tYes', Pev.wipeR, Pev.permL, List.map_cons, List.map_nil, List.length_cons, List.length_nil, List.cons_append, List.nil_append, List.append_nil, List.replicate, List.getElem?_cons_zero, List.getElem?_cons_succ, List.getElem?_nil, List.set_cons_zero, List.set_cons_succ, List.set_nil, List.filterMap_cons, List.filterMap_nil, Option.map_some, Option.map_none, Option.bind_some, Option.bind_none, if_true, if_false, Bool.not_true, Bool.not_false, Nat.reduceSub, Nat.reduceAdd, Nat.reduceEqDiff, Nat.reduceLeDiff, reduceIte, ite_true, ite_false, Bool.true_eq_false, Bool.false_eq_true, ↓reduceIte, Nat.zero_add, Nat.add_zero, Nat.sub_zero, Pev.outD_dat, Pev.snap_dat, Pev.outX, List.any_cons, List.any_nil, List.all_cons, List.all_nil, id_eq, Bool.or_false, Bool.or_true, Bool.true_or, Bool.false_or, Bool.and_true, Bool.true_and, Bool.and_false, Bool.false_and, Bool.and_self, Bool.or_self, Int.cast_ofNat_Int, decide_true, decide_false, Pev.isa_self, Pev.isa_bi, Pev.isa_tl, Pev.isa_lt, Pev.isa_ti, Pev.isa_li, Pev.isa_it, Pev.gAll, Pev.gAny, Pev.gSum, Pev.bls?, Pev.ints?, Pev.eq_ints, Pev.datAll_map, Pev.map_dat, Pev.app_map, Pev.datAll_f, Pev.ints_f, Pev.bls_f, Pev.at0, Pev.at1, Pev.at2, Pev.atLast, Pev.two_small, Pev.three_small, Pev.one_small, Pev.nil_small, Pev.oPart, Pev.toI, Pev.eSl, Pev.gSl, Pev.uRev, List.isEmpty_cons, List.isEmpty_nil, tx_len, sz]
theorem sl_tx {l : List Nat} (h : l.length ≤ 1000) {i j : Nat} (hi : i ≤ l.length) (hj : j ≤ l.length) (S : Sto) : gSl false (.dat (.str (tx l))) (some (i : Int)) (some (j : Int)) S = .ok (.dat (.str (tx ((l.drop i).take (j - i))))) S := by
  have sz := sz_of (show l.length ≤ 10000 by omega)
  unfold gSl
  dsimp only
  rw [tx_len, if_pos (by rw [sz]; trivial)]
  unfold cutS
  rw [tx_len, HT.sIx_nat, HT.sIx_nat, Nat.min_eq_left hi, Nat.min_eq_left hj, tx_codes]
  rfl
theorem sl_tx0 {l : List Nat} (h : l.length ≤ 1000) {j : Nat} (hj : j ≤ l.length) (S : Sto) : gSl false (.dat (.str (tx l))) none (some (j : Int)) S = .ok (.dat (.str (tx (l.take j)))) S := by
  have sz := sz_of (show l.length ≤ 10000 by omega)
  unfold gSl
  dsimp only
  rw [tx_len, if_pos (by rw [sz]; trivial)]
  unfold cutS
  rw [tx_len, HT.sIx_none, HT.sIx_nat, Nat.min_eq_left hj, tx_codes, List.drop_zero, Nat.sub_zero]
  rfl
theorem sl_tx1 {l : List Nat} (h : l.length ≤ 1000) (i : Nat) (S : Sto) : gSl false (.dat (.str (tx l))) (some (i : Int)) none S = .ok (.dat (.str (tx (l.drop i)))) S := by
  have sz := sz_of (show l.length ≤ 10000 by omega)
  unfold gSl
  dsimp only
  rw [tx_len, if_pos (by rw [sz]; trivial)]
  unfold cutS
  rw [tx_len, HT.sIx_none, HT.sIx_nat, tx_codes]
  have e : (l.drop (min i l.length)).take (l.length - min i l.length) = l.drop i := by
    rcases Nat.le_total i l.length with q | q
    · rw [Nat.min_eq_left q, List.take_of_length_le (by rw [List.length_drop]; omega)]
    · rw [Nat.min_eq_right q, List.drop_of_length_le (Nat.le_refl _), List.drop_of_length_le q, List.take_nil]
  rw [e]
  rfl
theorem tx_app (l k : List Nat) : tx l ++ tx k = tx (l ++ k) := by
  show (⟨l.toArray ++ k.toArray⟩ : Str) = ⟨(l ++ k).toArray⟩
  simp
theorem add_tx {l k : List Nat} (h : l.length + k.length ≤ 1000) (S : Sto) : bAdd false (.dat (.str (tx l))) (.dat (.str (tx k))) S = .ok (.dat (.str (tx (l ++ k)))) S := by
  have sz := sz_of (show l.length + k.length ≤ 10000 by omega)
  unfold bAdd
  dsimp only
  rw [tx_len, tx_len, if_pos (by rw [sz]; trivial), tx_app]
  rfl
theorem join_tx (l : List Nat) : Txt.join (tx []) (l.map fun c => (⟨#[c]⟩ : Str)) = tx l := by
  have h : ∀ l : List Nat, TL.joinL [] (l.map fun c => [c]) = l := by
    intro l
    induction l with
    | nil => rfl
    | cons c l ih =>
      cases l with
      | nil => rfl
      | cons d l =>
        show [c] ++ ([] ++ TL.joinL [] ((d :: l).map fun c => [c])) = _
        rw [ih]
        rfl
  refine TL.ext_tl ?_
  rw [TL.join_eq, TL.tl_join, List.map_map]
  exact h l
theorem join_ok {l : List Nat} (hl : l.length ≤ 100) (S : Sto) : gJoin (.dat (.str "")) [.dat (.list (l.map sg))] S = .ok (.dat (.str (tx l))) S := by
  have lz := sz_of (show l.length ≤ 10000 by omega)
  have st := strs_f (fun c => (⟨#[c]⟩ : Str)) l
  have fit : (((l.map fun c => (⟨#[c]⟩ : Str)).map (·.length)).sum + (l.map fun c => (⟨#[c]⟩ : Str)).length * (Str.ofString "").length ≤ 16777216) := by
    have e : ∀ l : List Nat, ((l.map fun c => (⟨#[c]⟩ : Str)).map (·.length)).sum = l.length := by
      intro l
      induction l with
      | nil => rfl
      | cons c l ih => rw [List.map_cons, List.map_cons, List.sum_cons, ih, List.length_cons]; show 1 + _ = _; omega
    rw [e, List.length_map, show (Str.ofString "").length = 0 from rfl]
    omega
  change strs? (l.map fun c => R.dat (sg c)) = _ at st
  simp only [Pev.fnB, Pev.OutS.toF, Pev.sCons, Pev.sSet, Pev.sRet, Pev.sRetN, Pev.sIf, Pev.sSkip, Pev.sExpr, Pev.sTgt, Pev.sFor, Pev.sRaise, Pev.sPut, Pev.putAt, Pev.sPar2, Pev.sPar3, Pev.sTry, Pev.hRun, Pev.OutS.fade, Pev.OutS.calm, Pev.Out.toS, Pev.Out.bind, Pev.noX, Pev.eVar, Pev.eC, Pev.eBin, Pev.eUn, Pev.eArgs, Pev.aCons, Pev.aNil, Pev.needN, Pev.eAnd, Pev.eOr, Pev.eNot, Pev.eIf, Pev.mAnd, Pev.mOr, Pev.mNot, Pev.mB, Pev.mT, Pev.eChain, Pev.truth, Pev.ans, Pev.ofT, Pev.ofB, Pev.bAdd, Pev.bSub, Pev.bMul, Pev.bDiv, Pev.bMod, Pev.bLt, Pev.bLe, Pev.bGt, Pev.bGe, Pev.bIsN, Pev.isNone?, Pev.uNeg, Pev.bIx, Pev.lv, Pev.lvt, Pev.gLen, Pev.gAbs, Pev.gInt, Pev.gBool, Pev.gList, Pev.gTuple, Pev.gTup, Pev.gLst, Pev.newL, Pev.newT, Pev.datAll, Pev.R.d?, Pev.uIs, Pev.tyOf, Pev.eLc, Pev.iOf, Pev.itOf, Pev.iArgs, Pev.gRange1, Pev.gRange2, Pev.gN, Pev.gTp, Pev.gsCons, Pev.gsNil, Pev.tv, Pev.eBMl, Pev.gAppend, Pev.gPop, Pev.gExtend, Pev.cellOf, Pev.eFld, Pev.tYes', Pev.wipeR, Pev.permL, List.map_cons, List.map_nil, List.length_cons, List.length_nil, List.cons_append, List.nil_append, List.append_nil, List.replicate, List.getElem?_cons_zero, List.getElem?_cons_succ, List.getElem?_nil, List.set_cons_zero, List.set_cons_succ, List.set_nil, List.filterMap_cons, List.filterMap_nil, Option.map_some, Option.map_none, Option.bind_some, Option.bind_none, if_true, if_false, Bool.not_true, Bool.not_false, Nat.reduceSub, Nat.reduceAdd, Nat.reduceEqDiff, Nat.reduceLeDiff, reduceIte, ite_true, ite_false, Bool.true_eq_false, Bool.false_eq_true, ↓reduceIte, Nat.zero_add, Nat.add_zero, Nat.sub_zero, Pev.outD_dat, Pev.snap_dat, Pev.outX, List.any_cons, List.any_nil, List.all_cons, List.all_nil, id_eq, Bool.or_false, Bool.or_true, Bool.true_or, Bool.false_or, Bool.and_true, Bool.true_and, Bool.and_false, Bool.false_and, Bool.and_self, Bool.or_self, Int.cast_ofNat_Int, decide_true, decide_false, Pev.isa_self, Pev.isa_bi, Pev.isa_tl, Pev.isa_lt, Pev.isa_ti, Pev.isa_li, Pev.isa_it, Pev.gAll, Pev.gAny, Pev.gSum, Pev.bls?, Pev.ints?, Pev.eq_ints, Pev.datAll_map, Pev.map_dat, Pev.app_map, Pev.datAll_f, Pev.ints_f, Pev.bls_f, Pev.at0, Pev.at1, Pev.at2, Pev.atLast, Pev.two_small, Pev.three_small, Pev.one_small, Pev.nil_small, Pev.oPart, Pev.toI, Pev.eSl, Pev.gSl, Pev.uRev, List.isEmpty_cons, List.isEmpty_nil, gJoin, List.length_map, lz, map_dat, st]
  rw [List.length_map] at fit
  rw [if_pos fit]
  congr 3
  exact join_tx l
end Lw
namespace Lw
open PySem Pev
open L2 (atI ixN cutS)
/-! ### where pieces begin and end, where they are looked for: plain -/
def cut (L n p : Nat) : Nat := L * p / (n + 1)
theorem cut_mono (L n p : Nat) : cut L n p ≤ cut L n (p + 1) := Nat.div_le_div_right (Nat.mul_le_mul_left _ (Nat.le_succ _))
theorem cut_end (L n : Nat) : cut L n (n + 1) = L := Nat.mul_div_cancel _ (Nat.succ_pos _)
theorem cut_zero (L n : Nat) : cut L n 0 = 0 := by unfold cut; rw [Nat.mul_zero, Nat.zero_div]
theorem cut_le {L n p : Nat} (h : p ≤ n + 1) : cut L n p ≤ L := by
  have : cut L n p ≤ cut L n (n + 1) := Nat.div_le_div_right (Nat.mul_le_mul_left _ h)
  rwa [cut_end] at this
def okP (L n o p a : Nat) : Prop := (a : Int) - cut L n p ≤ p ∧ (cut L n p : Int) - a ≤ p ∧ (o : Int) - L - ((a : Int) - cut L n p) ≤ (n : Int) - p ∧ ((a : Int) - cut L n p) - ((o : Int) - L) ≤ (n : Int) - p ∧ (a : Int) + cut L n (p + 1) - cut L n p ≤ o
instance (L n o p a : Nat) : Decidable (okP L n o p a) := by unfold okP; exact inferInstance
def lkP (L n o p : Nat) : List Nat := (List.range (o + 1)).filter fun a => decide (okP L n o p a)
def lk (L n o : Nat) : List (Nat × Nat) := (List.range (n + 1)).flatMap fun p => (lkP L n o p).map fun a => (p, a)
def loP (L n o p : Nat) : Int := if (o : Int) - L - n + p > 0 - (p : Int) then (o : Int) - L - n + p else 0 - (p : Int)
def hiP (L n o p : Nat) : Int := if (o : Int) - L + n - p < (p : Int) then (o : Int) - L + n - p else (p : Int)
def inP (L n o p i : Nat) : Prop := 0 ≤ (cut L n p : Int) + (loP L n o p + i) ∧ (cut L n (p + 1) : Int) + (loP L n o p + i) ≤ o
instance (L n o p i : Nat) : Decidable (inP L n o p i) := by unfold inP; exact inferInstance
def pgP (L n o p : Nat) : List Nat := ((List.range (hiP L n o p + 1 - loP L n o p).toNat).filter fun i => decide (inP L n o p i)).map fun i : Nat => ((cut L n p : Int) + (loP L n o p + i)).toNat
theorem up_ext {l k : List Nat} (h1 : l.Pairwise (· < ·)) (h2 : k.Pairwise (· < ·)) (h : ∀ x, x ∈ l ↔ x ∈ k) : l = k :=
  List.Perm.eq_of_pairwise (le := fun x y : Nat => x < y) (fun x y _ _ q1 q2 => by omega) h1 h2 ((List.perm_ext_iff_of_nodup (h1.imp fun q => Nat.ne_of_lt q) (h2.imp fun q => Nat.ne_of_lt q)).mpr h)
theorem pg_eq {L n o p : Nat} (hp : p ≤ n) : pgP L n o p = lkP L n o p := by
  have cm := cut_mono L n p
  refine up_ext ?_ (List.Pairwise.filter _ List.pairwise_lt_range) fun x => ?_
  · unfold pgP
    rw [List.pairwise_map]
    refine (List.Pairwise.filter _ List.pairwise_lt_range).imp_of_mem fun {i j} hi hj lt => ?_
    have a := of_decide_eq_true (List.mem_filter.mp hi).2
    have b := of_decide_eq_true (List.mem_filter.mp hj).2
    unfold inP at a b
    omega
  · unfold pgP lkP
    rw [List.mem_map, List.mem_filter, List.mem_range, decide_eq_true_eq]
    constructor
    · rintro ⟨i, hi, rfl⟩
      obtain ⟨h1, h2⟩ := List.mem_filter.mp hi
      have h1 := List.mem_range.mp h1
      have h2 := of_decide_eq_true h2
      unfold inP at h2
      unfold okP
      have l0 : loP L n o p ≥ 0 - (p : Int) ∧ loP L n o p ≥ (o : Int) - L - n + p := by unfold loP; split <;> omega
      have h0 : hiP L n o p ≤ (p : Int) ∧ hiP L n o p ≤ (o : Int) - L + n - p := by unfold hiP; split <;> omega
      omega
    · rintro ⟨hx, h⟩
      unfold okP at h
      have l0 : loP L n o p = 0 - (p : Int) ∨ loP L n o p = (o : Int) - L - n + p := by unfold loP; split <;> omega
      have h0 : hiP L n o p = (p : Int) ∨ hiP L n o p = (o : Int) - L + n - p := by unfold hiP; split <;> omega
      refine ⟨((x : Int) - cut L n p - loP L n o p).toNat, List.mem_filter.mpr ⟨List.mem_range.mpr ?_, decide_eq_true ?_⟩, ?_⟩
      · omega
      · unfold inP; omega
      · omega
theorem lk_len (L n o : Nat) : (lk L n o).length ≤ (n + 1) * (o + 1) := by
  have : ∀ ps : List Nat, (ps.flatMap fun p => (lkP L n o p).map fun a => (p, a)).length ≤ ps.length * (o + 1) := by
    intro ps
    induction ps with
    | nil => simp
    | cons p ps ih =>
      rw [List.flatMap_cons, List.length_append, List.length_map, List.length_cons, Nat.succ_mul]
      have : (lkP L n o p).length ≤ o + 1 := by
        unfold lkP
        exact Nat.le_trans (List.length_filter_le _ _) (by rw [List.length_range]; exact Nat.le_refl _)
      omega
  have h := this (List.range (n + 1))
  rw [List.length_range] at h
  exact h
theorem mem_lk {L n o : Nat} {q : Nat × Nat} : q ∈ lk L n o ↔ q.1 ≤ n ∧ q.2 ≤ o ∧ okP L n o q.1 q.2 := by
  unfold lk
  rw [List.mem_flatMap]
  constructor
  · rintro ⟨p, hp, h⟩
    obtain ⟨a, ha, rfl⟩ := List.mem_map.mp h
    unfold lkP at ha
    obtain ⟨h1, h2⟩ := List.mem_filter.mp ha
    have := List.mem_range.mp hp
    have := List.mem_range.mp h1
    exact ⟨by dsimp only; omega, by dsimp only; omega, of_decide_eq_true h2⟩
  · rintro ⟨h1, h2, h3⟩
    exact ⟨q.1, List.mem_range.mpr (by omega), List.mem_map.mpr ⟨q.2, List.mem_filter.mpr ⟨List.mem_range.mpr (by omega), decide_eq_true h3⟩, rfl⟩⟩
/-! ### how many they are -/
theorem cut_lin {L n p : Nat} (h : 2 * (n + 1) ≤ L) : 2 * p ≤ cut L n p := by
  unfold cut
  rw [Nat.le_div_iff_mul_le (show 0 < n + 1 by omega)]
  have a := Nat.mul_le_mul_right p h
  have e : 2 * p * (n + 1) = 2 * (n + 1) * p := by rw [Nat.mul_assoc, Nat.mul_comm p, Nat.mul_assoc]
  rw [e]; exact a
end Lw
namespace Lw
open PySem Pev
open L2 (atI ixN cutS)
/-! ### a list that grows turn by turn -/
abbrev cel (acc : List PyData) : Sto := [.lst (acc.map R.dat)]
theorem for_app {α : Type} {g : GM} {b : SM} (enc : α → R) (f : α → List PyData) (k : Nat) (I : Rho → Prop) : ∀ (xs : List α) (acc : List PyData) (ρ : Rho), I ρ → (∀ a ∈ xs, (f a).length ≤ k) → acc.length + xs.length * k ≤ 1000 →
    (∀ a ∈ xs, ∀ acc ρ, I ρ → acc.length + k ≤ 1000 → ∃ ρ1 ρ2, g (enc a) ρ = some ρ1 ∧ b ρ1 (cel acc) = .nx ρ2 (cel (acc ++ f a)) ∧ I ρ2) →
    ∃ ρ', I ρ' ∧ forLoop [] g b (xs.map enc) ρ (cel acc) = .nx ρ' (cel (acc ++ xs.flatMap f))
  | [], acc, ρ, hI, _, _, _ => ⟨ρ, hI, by unfold forLoop; rw [List.map_nil]; dsimp only; rw [if_pos stands_nil, List.flatMap_nil, List.append_nil]⟩
  | a :: xs, acc, ρ, hI, hk, hn, h => by
    rw [List.length_cons, Nat.succ_mul] at hn
    obtain ⟨ρ1, ρ2, h1, h2, h3⟩ := h a List.mem_cons_self acc ρ hI (by omega)
    have hf := hk a List.mem_cons_self
    obtain ⟨ρ', k1, k2⟩ := for_app enc f k I xs (acc ++ f a) ρ2 h3 (fun b hb => hk b (List.mem_cons_of_mem _ hb)) (by rw [List.length_append]; omega) fun b hb => h b (List.mem_cons_of_mem _ hb)
    refine ⟨ρ', k1, ?_⟩
    rw [List.map_cons]
    conv => lhs; unfold forLoop
    rw [if_pos stands_nil, h1]
    dsimp only
    rw [h2]
    dsimp only
    rw [k2, List.flatMap_cons, List.append_assoc]
theorem app_if {t : TM} {e : EM} {ρ : Rho} {acc : List PyData} {q : Bool} {d : PyData} {j : Nat} (ht : t ρ (cel acc) = .ok q (cel acc)) (hd : q = true → e ρ (cel acc) = .ok (.dat d) (cel acc)) (hj : eVar j ρ (cel acc) = .ok (.obj 0) (cel acc)) (hl : acc.length < 10000) :
    sIf t (sExpr (eBMl gAppend (eVar j) (aCons e aNil))) sSkip ρ (cel acc) = .nx ρ (cel (acc ++ if q then [d] else [])) := by
  cases q with
  | false =>
    unfold sIf
    rw [ht]
    simp only [Bool.false_eq_true, if_false, List.append_nil]
    rfl
  | true =>
    have ap := appO (S := cel acc) (k := 0) (rs := acc.map R.dat) (mo := eVar j) (me := e) (ρ := ρ) (y := .dat d) hj rfl (hd rfl) (by rw [List.length_map]; omega)
    unfold sIf
    rw [ht]
    show sExpr (eBMl gAppend (eVar j) (aCons e aNil)) ρ (cel acc) = _
    rw [ap]
    simp only [if_true]
    show OutS.nx ρ [.lst (acc.map R.dat ++ [.dat d])] = .nx ρ [.lst ((acc ++ [d]).map R.dat)]
    rw [List.map_append]
    rfl
theorem flat_if {α : Type} (p : α → Bool) (f : α → PyData) : ∀ l : List α, (l.flatMap fun a => if p a then [f a] else []) = (l.filter p).map f
  | [] => rfl
  | a :: l => by
    rw [List.flatMap_cons, flat_if p f l, List.filter_cons]
    cases p a <;> rfl
/-! ### numbers -/
theorem add_n1 (n : Nat) (S : Sto) : bAdd false (.dat (.int (n : Nat))) (.dat (.int 1)) S = .ok (.dat (.int ((n + 1 : Nat) : Int))) S := rfl
theorem add_nn (n m : Nat) (S : Sto) : bAdd false (.dat (.int (n : Nat))) (.dat (.int (m : Nat))) S = .ok (.dat (.int ((n + m : Nat) : Int))) S := rfl
theorem gr2 (i j : Int) (h1 : -1000 ≤ i) (h2 : i ≤ 1000) (h3 : -1000 ≤ j) (h4 : j ≤ 1000) (S : Sto) : gRange2 [.dat (.int i), .dat (.int j)] S = .ok ⟨(List.range (j - i).toNat).map fun k : Nat => R.dat (.int (i + k)), []⟩ S := by
  have e : (inR i && inR j) = true := by
    unfold inR
    rw [Bool.and_eq_true]
    exact ⟨decide_eq_true (by omega), decide_eq_true (by omega)⟩
  unfold gRange2
  dsimp only
  rw [if_pos e]
  rfl
/-! ### places -/
def pr (a b : Nat) : PyData := .tuple [.int (a : Nat), .int (b : Nat)]
def prI (q : Nat × Nat) : PyData := pr q.1 q.2
def plL (L n : Nat) : List PyData := (List.range (n + 1)).map fun p => pr (cut L n p) (cut L n (p + 1))
def plE : EM := (eArgs gTup (aCons (eBin bDiv (eBin (bMul false) (eVar 0) (eVar 3)) (eVar 2)) (aCons (eBin bDiv (eBin (bMul false) (eVar 0) (eBin (bAdd false) (eVar 3) (eC (.int 1)))) (eVar 2)) aNil)))
theorem tp2n (a b : Nat) (S : Sto) : gTup [.dat (.int (a : Nat)), .dat (.int (b : Nat))] S = .ok (.dat (pr a b)) S := rfl
theorem places_ok {L n : Nat} (hL : L ≤ 100) (hn : n ≤ 100) : Gv m_places_of [.int (L : Nat), .int (n : Nat)] (.list (plL L n)) := by
  have gr := gr1 (n + 1) (by omega) []
  have sz := sz_of (show n + 1 ≤ 10000 by omega)
  have lc := lc_all (g := gN 3) (elt := plE) (ρ := [some (.dat (.int (L : Nat))), some (.dat (.int (n : Nat))), some (.dat (.int ((n + 1 : Nat) : Int))), none]) (S := []) (fun p : Nat => R.dat (.int (p : Nat))) (fun p => R.dat (pr (cut L n p) (cut L n (p + 1)))) (List.range (n + 1)) (fun p hp => by
    refine ⟨_, rfl, ?_⟩
    have hp := List.mem_range.mp hp
    have m1 := mul_nn (x := L) (y := p) (by omega) []
    have m2 := mul_nn (x := L) (y := p + 1) (by omega) []
    have d1 := div_nn (x := L * p) (y := n + 1) (by omega) (by omega) []
    have d2 := div_nn (x := L * (p + 1)) (y := n + 1) (by omega) (by omega) []
    unfold plE
    show (eArgs gTup (aCons (eBin bDiv (eBin (bMul false) (eVar 0) (eVar 3)) (eVar 2)) (aCons (eBin bDiv (eBin (bMul false) (eVar 0) (eBin (bAdd false) (eVar 3) (eC (.int 1)))) (eVar 2)) aNil))) [some (.dat (.int (L : Nat))), some (.dat (.int (n : Nat))), some (.dat (.int ((n + 1 : Nat) : Int))), some (.dat (.int (p : Nat)))] [] = _
    simp only [Pev.fnB, Pev.OutS.toF, Pev.sCons, Pev.sSet, Pev.sRet, Pev.sRetN, Pev.sIf, Pev.sSkip, Pev.sExpr, Pev.sTgt, Pev.sFor, Pev.sRaise, Pev.sPut, Pev.sAugS, Pev.sPar2, Pev.sPar3, Pev.OutS.fade, Pev.OutS.calm, Pev.Out.toS, Pev.Out.bind, Pev.noX, Pev.eVar, Pev.eC, Pev.eBin, Pev.eUn, Pev.eArgs, Pev.aCons, Pev.aNil, Pev.needN, Pev.eAnd, Pev.eOr, Pev.eNot, Pev.eIf, Pev.mAnd, Pev.mOr, Pev.mNot, Pev.mB, Pev.mT, Pev.eChain, Pev.truth, Pev.ofT, Pev.ofB, Pev.R.d?, Pev.eLc, Pev.iOf, Pev.iArgs, Pev.gN, Pev.gTp, Pev.gsCons, Pev.gsNil, Pev.tv, Pev.eBMl, Pev.eFld, Pev.tYes', Pev.wipeR, Pev.permL, List.map_cons, List.map_nil, List.length_cons, List.length_nil, List.cons_append, List.nil_append, List.append_nil, List.replicate, List.getElem?_cons_zero, List.getElem?_cons_succ, List.getElem?_nil, List.set_cons_zero, List.set_cons_succ, List.set_nil, List.filterMap_cons, List.filterMap_nil, Option.map_some, Option.map_none, Option.bind_some, Option.bind_none, if_true, if_false, Bool.not_true, Bool.not_false, Nat.reduceSub, Nat.reduceAdd, Nat.reduceEqDiff, Nat.reduceLeDiff, reduceIte, ite_true, ite_false, Bool.true_eq_false, Bool.false_eq_true, ↓reduceIte, Nat.zero_add, Nat.add_zero, Nat.sub_zero, id_eq, Bool.or_false, Bool.or_true, Bool.true_or, Bool.false_or, Bool.and_true, Bool.true_and, Bool.and_false, Bool.false_and, Bool.and_self, Bool.or_self, m1, add_n1, m2, d1, d2, tp2n]
    rfl)
  have nl := newL_f (fun p : Nat => pr (cut L n p) (cut L n (p + 1))) (List.range (n + 1)) []
  unfold plE at lc
  unfold Gv m_places_of b_places_of
  simp only [Pev.fnB, Pev.OutS.toF, Pev.sCons, Pev.sSet, Pev.sRet, Pev.sRetN, Pev.sIf, Pev.sSkip, Pev.sExpr, Pev.sTgt, Pev.sFor, Pev.sRaise, Pev.sPut, Pev.sAugS, Pev.sPar2, Pev.sPar3, Pev.OutS.fade, Pev.OutS.calm, Pev.Out.toS, Pev.Out.bind, Pev.noX, Pev.eVar, Pev.eC, Pev.eBin, Pev.eUn, Pev.eArgs, Pev.aCons, Pev.aNil, Pev.needN, Pev.eAnd, Pev.eOr, Pev.eNot, Pev.eIf, Pev.mAnd, Pev.mOr, Pev.mNot, Pev.mB, Pev.mT, Pev.eChain, Pev.truth, Pev.ofT, Pev.ofB, Pev.R.d?, Pev.eLc, Pev.iOf, Pev.iArgs, Pev.gN, Pev.gTp, Pev.gsCons, Pev.gsNil, Pev.tv, Pev.eBMl, Pev.eFld, Pev.tYes', Pev.wipeR, Pev.permL, List.map_cons, List.map_nil, List.length_cons, List.length_nil, List.cons_append, List.nil_append, List.append_nil, List.replicate, List.getElem?_cons_zero, List.getElem?_cons_succ, List.getElem?_nil, List.set_cons_zero, List.set_cons_succ, List.set_nil, List.filterMap_cons, List.filterMap_nil, Option.map_some, Option.map_none, Option.bind_some, Option.bind_none, if_true, if_false, Bool.not_true, Bool.not_false, Nat.reduceSub, Nat.reduceAdd, Nat.reduceEqDiff, Nat.reduceLeDiff, reduceIte, ite_true, ite_false, Bool.true_eq_false, Bool.false_eq_true, ↓reduceIte, Nat.zero_add, Nat.add_zero, Nat.sub_zero, id_eq, Bool.or_false, Bool.or_true, Bool.true_or, Bool.false_or, Bool.and_true, Bool.true_and, Bool.and_false, Bool.false_and, Bool.and_self, Bool.or_self, add_n1, gr, List.length_map, List.length_range, sz, lc, nl, outD_dat]
  rfl
/-- a number that is no less than the other passes -/
theorem need_ok {n : Nat} {w : Str} : Gv m_need_many [.int (n : Nat), .str w, .int 0] (.int (n : Nat)) := by
  have i1 : Gv m_is_integer [.int (n : Nat)] (.bool true) := rfl
  have i2 := one_call i1 []
  have lt : bLt (.dat (.int (n : Nat))) (.dat (.int 0)) [] = .ok (.dat (.bool false)) [] := by
    rw [lt_ii, decide_eq_false (by omega)]
  unfold Gv m_need_many b_need_many
  simp only [Pev.fnB, Pev.OutS.toF, Pev.sCons, Pev.sSet, Pev.sRet, Pev.sRetN, Pev.sIf, Pev.sSkip, Pev.sExpr, Pev.sTgt, Pev.sFor, Pev.sRaise, Pev.sPut, Pev.sAugS, Pev.sPar2, Pev.sPar3, Pev.OutS.fade, Pev.OutS.calm, Pev.Out.toS, Pev.Out.bind, Pev.noX, Pev.eVar, Pev.eC, Pev.eBin, Pev.eUn, Pev.eArgs, Pev.aCons, Pev.aNil, Pev.needN, Pev.eAnd, Pev.eOr, Pev.eNot, Pev.eIf, Pev.mAnd, Pev.mOr, Pev.mNot, Pev.mB, Pev.mT, Pev.eChain, Pev.truth, Pev.ofT, Pev.ofB, Pev.R.d?, Pev.eLc, Pev.iOf, Pev.iArgs, Pev.gN, Pev.gTp, Pev.gsCons, Pev.gsNil, Pev.tv, Pev.eBMl, Pev.eFld, Pev.tYes', Pev.wipeR, Pev.permL, List.map_cons, List.map_nil, List.length_cons, List.length_nil, List.cons_append, List.nil_append, List.append_nil, List.replicate, List.getElem?_cons_zero, List.getElem?_cons_succ, List.getElem?_nil, List.set_cons_zero, List.set_cons_succ, List.set_nil, List.filterMap_cons, List.filterMap_nil, Option.map_some, Option.map_none, Option.bind_some, Option.bind_none, if_true, if_false, Bool.not_true, Bool.not_false, Nat.reduceSub, Nat.reduceAdd, Nat.reduceEqDiff, Nat.reduceLeDiff, reduceIte, ite_true, ite_false, Bool.true_eq_false, Bool.false_eq_true, ↓reduceIte, Nat.zero_add, Nat.add_zero, Nat.sub_zero, id_eq, Bool.or_false, Bool.or_true, Bool.true_or, Bool.false_or, Bool.and_true, Bool.true_and, Bool.and_false, Bool.false_and, Bool.and_self, Bool.or_self, i2, lt, outD_dat]
end Lw
namespace Lw
open PySem Pev
open L2 (atI ixN cutS)
theorem gt_list (ds : List PyData) (S : Sto) : gTuple [.dat (.list ds)] S = .ok (.dat (.tuple ds)) S := by
  unfold gTuple
  dsimp only [lv]
  unfold newT
  rw [datAll_map]
/-! ### looks_of -/
def pairsR (f : Nat → PyData) (k m : Nat) : (pairsF k ((List.range' k m).map f)).map R.dat = (List.range' k m).map fun p : Nat => R.dat (.tuple [.int (p : Nat), f p]) := by
  induction m generalizing k with
  | zero => rfl
  | succ m ih =>
    rw [List.range'_succ, List.map_cons, List.map_cons]
    show R.dat _ :: (pairsF (k + 1) ((List.range' (k + 1) m).map f)).map R.dat = _
    rw [ih (k + 1)]
theorem en_plL (L n : Nat) (S : Sto) : gEnumU [.dat (.list (plL L n))] S = .ok ⟨(List.range (n + 1)).map fun p : Nat => R.dat (.tuple [.int (p : Nat), pr (cut L n p) (cut L n (p + 1))]), []⟩ S := by
  show Out.ok (⟨(pairsF 0 (plL L n)).map .dat, []⟩ : Items) S = _
  unfold plL
  rw [List.range_eq_range', pairsR]
def lk1 : SM := (sIf (mAnd (mB (eBin bGe (eBin (bAdd false) (eVar 6) (eVar 8)) (eC (.int 0)))) (mB (eBin bLe (eBin (bAdd false) (eVar 7) (eVar 8)) (eVar 2)))) (sExpr (eBMl gAppend (eVar 4) (aCons (eArgs gTup (aCons (eVar 5) (aCons (eBin (bAdd false) (eVar 6) (eVar 8)) aNil))) aNil))) sSkip)
def lk2 : SM := (sFor (iArgs gRange2 (aCons (eArgs gMax2 (aCons (eBin bSub (eC (.int 0)) (eVar 5)) (aCons (eBin (bAdd false) (eBin bSub (eVar 3) (eVar 1)) (eVar 5)) aNil))) (aCons (eBin (bAdd false) (eArgs gMin2 (aCons (eVar 5) (aCons (eBin bSub (eBin (bAdd false) (eVar 3) (eVar 1)) (eVar 5)) aNil))) (eC (.int 1))) aNil))) (gN 8) lk1)
def lkT : GM := (gTp 2 (gsCons (gN 5) (gsCons (gTp 2 (gsCons (gN 6) (gsCons (gN 7) gsNil))) gsNil)))
theorem looks_eq : b_looks_of = (sCons (sPar2 3 4 (aCons (eBin bSub (eVar 2) (eVar 0)) (aCons (eArgs (gLst true) aNil) aNil)))
    (sCons (sFor (iArgs gEnumU (aCons (eArgs (needN 2 (pureF m_places_of)) (aCons (eVar 0) (aCons (eVar 1) aNil))) aNil)) lkT lk2)
    (sRet (eVar 4)))) := rfl
abbrev rhoK (L n o : Nat) (x5 x6 x7 x8 : Option R) : Rho := [some (.dat (.int (L : Nat))), some (.dat (.int (n : Nat))), some (.dat (.int (o : Nat))), some (.dat (.int ((o : Int) - L))), some (.obj 0), x5, x6, x7, x8]
abbrev nR (k : Nat) : R := .dat (.int (k : Nat))
section
variable {L n o : Nat}
theorem lk1_ok {p i : Nat} {acc : List PyData} (hl : acc.length + 1 ≤ 1000) : lk1 (rhoK L n o (some (nR p)) (some (nR (cut L n p))) (some (nR (cut L n (p + 1)))) (some (.dat (.int (loP L n o p + i))))) (cel acc) = .nx (rhoK L n o (some (nR p)) (some (nR (cut L n p))) (some (nR (cut L n (p + 1)))) (some (.dat (.int (loP L n o p + i))))) (cel (acc ++ if decide (inP L n o p i) then [prI (p, ((cut L n p : Int) + (loP L n o p + i)).toNat)] else [])) := by
  refine app_if (q := decide (inP L n o p i)) ?_ ?_ rfl (by omega)
  · have e : decide (inP L n o p i) = (decide ((cut L n p : Int) + (loP L n o p + i) ≥ 0) && decide ((cut L n (p + 1) : Int) + (loP L n o p + i) ≤ o)) := by
      rw [Bool.eq_iff_iff, Bool.and_eq_true, decide_eq_true_eq, decide_eq_true_eq, decide_eq_true_eq]
      exact Iff.rfl
    rw [e]
    refine mAnd_ok ?_ ?_
    · simp only [Pev.fnB, Pev.OutS.toF, Pev.sCons, Pev.sSet, Pev.sRet, Pev.sRetN, Pev.sIf, Pev.sSkip, Pev.sExpr, Pev.sTgt, Pev.sFor, Pev.sRaise, Pev.sPut, Pev.sAugS, Pev.sPar2, Pev.sPar3, Pev.OutS.fade, Pev.OutS.calm, Pev.Out.toS, Pev.Out.bind, Pev.noX, Pev.eVar, Pev.eC, Pev.eBin, Pev.eUn, Pev.eArgs, Pev.aCons, Pev.aNil, Pev.needN, Pev.eAnd, Pev.eOr, Pev.eNot, Pev.eIf, Pev.mAnd, Pev.mOr, Pev.mNot, Pev.mB, Pev.mT, Pev.eChain, Pev.truth, Pev.ofT, Pev.ofB, Pev.R.d?, Pev.eLc, Pev.iOf, Pev.iArgs, Pev.gN, Pev.gTp, Pev.gsCons, Pev.gsNil, Pev.tv, Pev.eBMl, Pev.eFld, Pev.tYes', Pev.wipeR, Pev.permL, List.map_cons, List.map_nil, List.length_cons, List.length_nil, List.cons_append, List.nil_append, List.append_nil, List.replicate, List.getElem?_cons_zero, List.getElem?_cons_succ, List.getElem?_nil, List.set_cons_zero, List.set_cons_succ, List.set_nil, List.filterMap_cons, List.filterMap_nil, Option.map_some, Option.map_none, Option.bind_some, Option.bind_none, if_true, if_false, Bool.not_true, Bool.not_false, Nat.reduceSub, Nat.reduceAdd, Nat.reduceEqDiff, Nat.reduceLeDiff, reduceIte, ite_true, ite_false, Bool.true_eq_false, Bool.false_eq_true, ↓reduceIte, Nat.zero_add, Nat.add_zero, Nat.sub_zero, id_eq, Bool.or_false, Bool.or_true, Bool.true_or, Bool.false_or, Bool.and_true, Bool.true_and, Bool.and_false, Bool.false_and, Bool.and_self, Bool.or_self, add_ii, ge_ii]
    · simp only [Pev.fnB, Pev.OutS.toF, Pev.sCons, Pev.sSet, Pev.sRet, Pev.sRetN, Pev.sIf, Pev.sSkip, Pev.sExpr, Pev.sTgt, Pev.sFor, Pev.sRaise, Pev.sPut, Pev.sAugS, Pev.sPar2, Pev.sPar3, Pev.OutS.fade, Pev.OutS.calm, Pev.Out.toS, Pev.Out.bind, Pev.noX, Pev.eVar, Pev.eC, Pev.eBin, Pev.eUn, Pev.eArgs, Pev.aCons, Pev.aNil, Pev.needN, Pev.eAnd, Pev.eOr, Pev.eNot, Pev.eIf, Pev.mAnd, Pev.mOr, Pev.mNot, Pev.mB, Pev.mT, Pev.eChain, Pev.truth, Pev.ofT, Pev.ofB, Pev.R.d?, Pev.eLc, Pev.iOf, Pev.iArgs, Pev.gN, Pev.gTp, Pev.gsCons, Pev.gsNil, Pev.tv, Pev.eBMl, Pev.eFld, Pev.tYes', Pev.wipeR, Pev.permL, List.map_cons, List.map_nil, List.length_cons, List.length_nil, List.cons_append, List.nil_append, List.append_nil, List.replicate, List.getElem?_cons_zero, List.getElem?_cons_succ, List.getElem?_nil, List.set_cons_zero, List.set_cons_succ, List.set_nil, List.filterMap_cons, List.filterMap_nil, Option.map_some, Option.map_none, Option.bind_some, Option.bind_none, if_true, if_false, Bool.not_true, Bool.not_false, Nat.reduceSub, Nat.reduceAdd, Nat.reduceEqDiff, Nat.reduceLeDiff, reduceIte, ite_true, ite_false, Bool.true_eq_false, Bool.false_eq_true, ↓reduceIte, Nat.zero_add, Nat.add_zero, Nat.sub_zero, id_eq, Bool.or_false, Bool.or_true, Bool.true_or, Bool.false_or, Bool.and_true, Bool.true_and, Bool.and_false, Bool.false_and, Bool.and_self, Bool.or_self, add_ii, le_ii]
  · intro h
    have h := of_decide_eq_true h
    unfold inP at h
    have e : (cut L n p : Int) + (loP L n o p + i) = (((cut L n p : Int) + (loP L n o p + i)).toNat : Int) := by omega
    have tp := tp2n p ((cut L n p : Int) + (loP L n o p + i)).toNat (cel acc)
    rw [← e] at tp
    simp only [Pev.fnB, Pev.OutS.toF, Pev.sCons, Pev.sSet, Pev.sRet, Pev.sRetN, Pev.sIf, Pev.sSkip, Pev.sExpr, Pev.sTgt, Pev.sFor, Pev.sRaise, Pev.sPut, Pev.sAugS, Pev.sPar2, Pev.sPar3, Pev.OutS.fade, Pev.OutS.calm, Pev.Out.toS, Pev.Out.bind, Pev.noX, Pev.eVar, Pev.eC, Pev.eBin, Pev.eUn, Pev.eArgs, Pev.aCons, Pev.aNil, Pev.needN, Pev.eAnd, Pev.eOr, Pev.eNot, Pev.eIf, Pev.mAnd, Pev.mOr, Pev.mNot, Pev.mB, Pev.mT, Pev.eChain, Pev.truth, Pev.ofT, Pev.ofB, Pev.R.d?, Pev.eLc, Pev.iOf, Pev.iArgs, Pev.gN, Pev.gTp, Pev.gsCons, Pev.gsNil, Pev.tv, Pev.eBMl, Pev.eFld, Pev.tYes', Pev.wipeR, Pev.permL, List.map_cons, List.map_nil, List.length_cons, List.length_nil, List.cons_append, List.nil_append, List.append_nil, List.replicate, List.getElem?_cons_zero, List.getElem?_cons_succ, List.getElem?_nil, List.set_cons_zero, List.set_cons_succ, List.set_nil, List.filterMap_cons, List.filterMap_nil, Option.map_some, Option.map_none, Option.bind_some, Option.bind_none, if_true, if_false, Bool.not_true, Bool.not_false, Nat.reduceSub, Nat.reduceAdd, Nat.reduceEqDiff, Nat.reduceLeDiff, reduceIte, ite_true, ite_false, Bool.true_eq_false, Bool.false_eq_true, ↓reduceIte, Nat.zero_add, Nat.add_zero, Nat.sub_zero, id_eq, Bool.or_false, Bool.or_true, Bool.true_or, Bool.false_or, Bool.and_true, Bool.true_and, Bool.and_false, Bool.false_and, Bool.and_self, Bool.or_self, add_ii, tp]
    rfl
theorem lo_hi (hL : L ≤ 20) (hn : n ≤ 20) (ho : o ≤ 20) {p : Nat} (hp : p ≤ n) : -100 ≤ loP L n o p ∧ loP L n o p ≤ 100 ∧ -100 ≤ hiP L n o p ∧ hiP L n o p ≤ 100 ∧ (hiP L n o p + 1 - loP L n o p).toNat ≤ 41 := by
  have a : loP L n o p ≥ 0 - (p : Int) ∧ (loP L n o p = 0 - (p : Int) ∨ loP L n o p = (o : Int) - L - n + p) := by unfold loP; split <;> omega
  have b : hiP L n o p ≤ (p : Int) ∧ (hiP L n o p = (p : Int) ∨ hiP L n o p = (o : Int) - L + n - p) := by unfold hiP; split <;> omega
  omega
theorem lk2_ok (hL : L ≤ 20) (hn : n ≤ 3) (ho : o ≤ 20) {p : Nat} (hp : p ≤ n) {acc : List PyData} (hl : acc.length + 50 ≤ 1000) {x8 : Option R} : ∃ x8', lk2 (rhoK L n o (some (nR p)) (some (nR (cut L n p))) (some (nR (cut L n (p + 1)))) x8) (cel acc) = .nx (rhoK L n o (some (nR p)) (some (nR (cut L n p))) (some (nR (cut L n (p + 1)))) x8') (cel (acc ++ (lkP L n o p).map fun a => prI (p, a))) := by
  obtain ⟨b1, b2, b3, b4, b5⟩ := lo_hi hL (show n ≤ 20 by omega) ho hp
  obtain ⟨ρ', ⟨x8', rfl⟩, e⟩ := for_app (g := gN 8) (b := lk1) (fun i : Nat => R.dat (.int (loP L n o p + i))) (fun i => if decide (inP L n o p i) then [prI (p, ((cut L n p : Int) + (loP L n o p + i)).toNat)] else []) 1 (fun ρ => ∃ x8, ρ = rhoK L n o (some (nR p)) (some (nR (cut L n p))) (some (nR (cut L n (p + 1)))) x8) (List.range (hiP L n o p + 1 - loP L n o p).toNat) acc (rhoK L n o (some (nR p)) (some (nR (cut L n p))) (some (nR (cut L n (p + 1)))) x8) ⟨_, rfl⟩ (fun a _ => by split <;> simp) (by rw [List.length_range]; omega) (by
    rintro i _ acc ρ ⟨x8, rfl⟩ hl
    exact ⟨_, _, rfl, lk1_ok hl, _, rfl⟩)
  refine ⟨x8', ?_⟩
  have fe : ((List.range (hiP L n o p + 1 - loP L n o p).toNat).flatMap fun i => if decide (inP L n o p i) then [prI (p, ((cut L n p : Int) + (loP L n o p + i)).toNat)] else []) = (lkP L n o p).map fun a => prI (p, a) := by
    rw [flat_if (fun i => decide (inP L n o p i)) (fun i => prI (p, ((cut L n p : Int) + (loP L n o p + i)).toNat)), ← pg_eq hp]
    unfold pgP
    rw [List.map_map]
    rfl
  rw [fe] at e
  have mx : gMax2 [.dat (.int (0 - (p : Int))), .dat (.int ((o : Int) - L - n + p))] (cel acc) = .ok (.dat (.int (loP L n o p))) (cel acc) := rfl
  have mn : gMin2 [.dat (.int (p : Int)), .dat (.int ((o : Int) - L + n - p))] (cel acc) = .ok (.dat (.int (hiP L n o p))) (cel acc) := rfl
  have gr := gr2 (loP L n o p) (hiP L n o p + 1) (by omega) (by omega) (by omega) (by omega) (cel acc)
  unfold lk2
  show sFor _ (gN 8) lk1 _ _ = _
  unfold rhoK nR
  simp only [Pev.fnB, Pev.OutS.toF, Pev.sCons, Pev.sSet, Pev.sRet, Pev.sRetN, Pev.sIf, Pev.sSkip, Pev.sExpr, Pev.sTgt, Pev.sFor, Pev.sRaise, Pev.sPut, Pev.sAugS, Pev.sPar2, Pev.sPar3, Pev.OutS.fade, Pev.OutS.calm, Pev.Out.toS, Pev.Out.bind, Pev.noX, Pev.eVar, Pev.eC, Pev.eBin, Pev.eUn, Pev.eArgs, Pev.aCons, Pev.aNil, Pev.needN, Pev.eAnd, Pev.eOr, Pev.eNot, Pev.eIf, Pev.mAnd, Pev.mOr, Pev.mNot, Pev.mB, Pev.mT, Pev.eChain, Pev.truth, Pev.ofT, Pev.ofB, Pev.R.d?, Pev.eLc, Pev.iOf, Pev.iArgs, Pev.gN, Pev.gTp, Pev.gsCons, Pev.gsNil, Pev.tv, Pev.eBMl, Pev.eFld, Pev.tYes', Pev.wipeR, Pev.permL, List.map_cons, List.map_nil, List.length_cons, List.length_nil, List.cons_append, List.nil_append, List.append_nil, List.replicate, List.getElem?_cons_zero, List.getElem?_cons_succ, List.getElem?_nil, List.set_cons_zero, List.set_cons_succ, List.set_nil, List.filterMap_cons, List.filterMap_nil, Option.map_some, Option.map_none, Option.bind_some, Option.bind_none, if_true, if_false, Bool.not_true, Bool.not_false, Nat.reduceSub, Nat.reduceAdd, Nat.reduceEqDiff, Nat.reduceLeDiff, reduceIte, ite_true, ite_false, Bool.true_eq_false, Bool.false_eq_true, ↓reduceIte, Nat.zero_add, Nat.add_zero, Nat.sub_zero, id_eq, Bool.or_false, Bool.or_true, Bool.true_or, Bool.false_or, Bool.and_true, Bool.true_and, Bool.and_false, Bool.false_and, Bool.and_self, Bool.or_self, sub_ii, add_ii, mx, mn, gr]
  exact e
theorem looks_ok (hL : L ≤ 20) (hn : n ≤ 3) (ho : o ≤ 20) : Gv m_looks_of [.int (L : Nat), .int (n : Nat), .int (o : Nat)] (.list ((lk L n o).map prI)) := by
  have pl := two_call (places_ok (L := L) (n := n) (by omega) (by omega)) (cel [])
  have en := en_plL L n (cel [])
  have hb : ∀ p, (lkP L n o p).length ≤ 21 := fun p => by
    unfold lkP
    exact Nat.le_trans (List.length_filter_le _ _) (by rw [List.length_range]; omega)
  obtain ⟨ρ', ⟨x5, x6, x7, x8, rfl⟩, e⟩ := for_app (g := lkT) (b := lk2) (fun p : Nat => R.dat (.tuple [.int (p : Nat), pr (cut L n p) (cut L n (p + 1))])) (fun p => (lkP L n o p).map fun a => prI (p, a)) 50 (fun ρ => ∃ x5 x6 x7 x8, ρ = rhoK L n o x5 x6 x7 x8) (List.range (n + 1)) [] (rhoK L n o none none none none) ⟨_, _, _, _, rfl⟩ (fun p _ => by rw [List.length_map]; have := hb p; omega) (by rw [List.length_range]; show 0 + _ ≤ _; omega) (by
    rintro p hp acc ρ ⟨x5, x6, x7, x8, rfl⟩ hl
    have hp := List.mem_range.mp hp
    obtain ⟨x8', e⟩ := lk2_ok (L := L) (n := n) (o := o) hL hn ho (p := p) (by omega) hl (x8 := x8)
    exact ⟨_, _, rfl, e, _, _, _, _, rfl⟩)
  have e1 : sPar2 3 4 (aCons (eBin bSub (eVar 2) (eVar 0)) (aCons (eArgs (gLst true) aNil) aNil)) [some (nR L), some (nR n), some (nR o), none, none, none, none, none, none] [] = .nx (rhoK L n o none none none none) (cel []) := rfl
  have e2 : sFor (iArgs gEnumU (aCons (eArgs (needN 2 (pureF m_places_of)) (aCons (eVar 0) (aCons (eVar 1) aNil))) aNil)) lkT lk2 (rhoK L n o none none none none) (cel []) = .nx (rhoK L n o x5 x6 x7 x8) (cel ((lk L n o).map prI)) := by
    have fe : ((List.range (n + 1)).flatMap fun p => (lkP L n o p).map fun a => prI (p, a)) = (lk L n o).map prI := by
      unfold lk
      rw [List.map_flatMap]
      congr 1
      funext p
      rw [List.map_map]
      rfl
    rw [fe, List.nil_append] at e
    simp only [Pev.fnB, Pev.OutS.toF, Pev.sCons, Pev.sSet, Pev.sRet, Pev.sRetN, Pev.sIf, Pev.sSkip, Pev.sExpr, Pev.sTgt, Pev.sFor, Pev.sRaise, Pev.sPut, Pev.sAugS, Pev.sPar2, Pev.sPar3, Pev.OutS.fade, Pev.OutS.calm, Pev.Out.toS, Pev.Out.bind, Pev.noX, Pev.eVar, Pev.eC, Pev.eBin, Pev.eUn, Pev.eArgs, Pev.aCons, Pev.aNil, Pev.needN, Pev.eAnd, Pev.eOr, Pev.eNot, Pev.eIf, Pev.mAnd, Pev.mOr, Pev.mNot, Pev.mB, Pev.mT, Pev.eChain, Pev.truth, Pev.ofT, Pev.ofB, Pev.R.d?, Pev.eLc, Pev.iOf, Pev.iArgs, Pev.gN, Pev.gTp, Pev.gsCons, Pev.gsNil, Pev.tv, Pev.eBMl, Pev.eFld, Pev.tYes', Pev.wipeR, Pev.permL, List.map_cons, List.map_nil, List.length_cons, List.length_nil, List.cons_append, List.nil_append, List.append_nil, List.replicate, List.getElem?_cons_zero, List.getElem?_cons_succ, List.getElem?_nil, List.set_cons_zero, List.set_cons_succ, List.set_nil, List.filterMap_cons, List.filterMap_nil, Option.map_some, Option.map_none, Option.bind_some, Option.bind_none, if_true, if_false, Bool.not_true, Bool.not_false, Nat.reduceSub, Nat.reduceAdd, Nat.reduceEqDiff, Nat.reduceLeDiff, reduceIte, ite_true, ite_false, Bool.true_eq_false, Bool.false_eq_true, ↓reduceIte, Nat.zero_add, Nat.add_zero, Nat.sub_zero, id_eq, Bool.or_false, Bool.or_true, Bool.true_or, Bool.false_or, Bool.and_true, Bool.true_and, Bool.and_false, Bool.false_and, Bool.and_self, Bool.or_self, pl, en]
    exact e
  show outD (OutS.toF (b_looks_of [some (nR L), some (nR n), some (nR o), none, none, none, none, none, none] [])) = _
  rw [looks_eq, cons_nx e1, cons_nx e2]
  show snap (cel ((lk L n o).map prI)) depS (.obj 0) = _
  rw [show cel ((lk L n o).map prI) = [.lst ((lk L n o).map fun q => R.dat (prI q))] by unfold cel; rw [List.map_map]; rfl]
  exact snap_obj prI (lk L n o) rfl
/-! ### the law's looks -/
def lw1 : SM := (sIf (mAnd (mB (eBin bLe (eArgs gAbs (aCons (eVar 8) aNil)) (eVar 4))) (mAnd (mB (eBin bLe (eArgs gAbs (aCons (eBin bSub (eBin bSub (eVar 2) (eVar 0)) (eVar 8)) aNil)) (eBin bSub (eVar 1) (eVar 4)))) (mB (eBin bLe (eBin bSub (eBin (bAdd false) (eVar 7) (eVar 6)) (eVar 5)) (eVar 2))))) (sExpr (eBMl gAppend (eVar 3) (aCons (eArgs gTup (aCons (eVar 4) (aCons (eVar 7) aNil))) aNil))) sSkip)
def lw2 : SM := (sFor (iArgs gRange1 (aCons (eBin (bAdd false) (eVar 2) (eC (.int 1))) aNil)) (gN 7) (sCons (sSet 8 (eBin bSub (eVar 7) (eVar 5))) lw1))
def lwP : SM := (sPar2 5 6 (aCons (eBin bDiv (eBin (bMul false) (eVar 0) (eVar 4)) (eBin (bAdd false) (eVar 1) (eC (.int 1)))) (aCons (eBin bDiv (eBin (bMul false) (eVar 0) (eBin (bAdd false) (eVar 4) (eC (.int 1)))) (eBin (bAdd false) (eVar 1) (eC (.int 1)))) aNil)))
theorem lw_eq : b__law_looks = (sCons (sSet 3 (eArgs (gLst true) aNil))
    (sCons (sFor (iArgs gRange1 (aCons (eBin (bAdd false) (eVar 1) (eC (.int 1))) aNil)) (gN 4) (sCons lwP lw2))
    (sRet (eVar 3)))) := rfl
abbrev rhoW (L n o : Nat) (x4 x5 x6 x7 x8 : Option R) : Rho := [some (nR L), some (nR n), some (nR o), some (.obj 0), x4, x5, x6, x7, x8]
theorem lw1_ok {p a : Nat} {acc : List PyData} (hp : p ≤ n) (hl : acc.length + 1 ≤ 1000) : lw1 (rhoW L n o (some (nR p)) (some (nR (cut L n p))) (some (nR (cut L n (p + 1)))) (some (nR a)) (some (.dat (.int ((a : Int) - cut L n p))))) (cel acc) = .nx (rhoW L n o (some (nR p)) (some (nR (cut L n p))) (some (nR (cut L n (p + 1)))) (some (nR a)) (some (.dat (.int ((a : Int) - cut L n p))))) (cel (acc ++ if decide (okP L n o p a) then [prI (p, a)] else [])) := by
  refine app_if (q := decide (okP L n o p a)) ?_ ?_ rfl (by omega)
  · have e : decide (okP L n o p a) = (decide ((if (a : Int) - cut L n p < 0 then -((a : Int) - cut L n p) else (a : Int) - cut L n p) ≤ (p : Nat)) && (decide ((if (o : Int) - L - ((a : Int) - cut L n p) < 0 then -((o : Int) - L - ((a : Int) - cut L n p)) else (o : Int) - L - ((a : Int) - cut L n p)) ≤ (n : Int) - p) && decide ((a : Int) + cut L n (p + 1) - cut L n p ≤ o))) := by
      rw [Bool.eq_iff_iff, Bool.and_eq_true, Bool.and_eq_true, decide_eq_true_eq, decide_eq_true_eq, decide_eq_true_eq, decide_eq_true_eq]
      unfold okP
      constructor
      · intro h
        refine ⟨?_, ?_, ?_⟩
        · split <;> omega
        · split <;> omega
        · omega
      · rintro ⟨h1, h2, h3⟩
        split at h1 <;> split at h2 <;> omega
    rw [e]
    refine mAnd_ok ?_ (mAnd_ok ?_ ?_)
    · simp only [Pev.fnB, Pev.OutS.toF, Pev.sCons, Pev.sSet, Pev.sRet, Pev.sRetN, Pev.sIf, Pev.sSkip, Pev.sExpr, Pev.sTgt, Pev.sFor, Pev.sRaise, Pev.sPut, Pev.sAugS, Pev.sPar2, Pev.sPar3, Pev.OutS.fade, Pev.OutS.calm, Pev.Out.toS, Pev.Out.bind, Pev.noX, Pev.eVar, Pev.eC, Pev.eBin, Pev.eUn, Pev.eArgs, Pev.aCons, Pev.aNil, Pev.needN, Pev.eAnd, Pev.eOr, Pev.eNot, Pev.eIf, Pev.mAnd, Pev.mOr, Pev.mNot, Pev.mB, Pev.mT, Pev.eChain, Pev.truth, Pev.ofT, Pev.ofB, Pev.R.d?, Pev.eLc, Pev.iOf, Pev.iArgs, Pev.gN, Pev.gTp, Pev.gsCons, Pev.gsNil, Pev.tv, Pev.eBMl, Pev.eFld, Pev.tYes', Pev.wipeR, Pev.permL, List.map_cons, List.map_nil, List.length_cons, List.length_nil, List.cons_append, List.nil_append, List.append_nil, List.replicate, List.getElem?_cons_zero, List.getElem?_cons_succ, List.getElem?_nil, List.set_cons_zero, List.set_cons_succ, List.set_nil, List.filterMap_cons, List.filterMap_nil, Option.map_some, Option.map_none, Option.bind_some, Option.bind_none, if_true, if_false, Bool.not_true, Bool.not_false, Nat.reduceSub, Nat.reduceAdd, Nat.reduceEqDiff, Nat.reduceLeDiff, reduceIte, ite_true, ite_false, Bool.true_eq_false, Bool.false_eq_true, ↓reduceIte, Nat.zero_add, Nat.add_zero, Nat.sub_zero, id_eq, Bool.or_false, Bool.or_true, Bool.true_or, Bool.false_or, Bool.and_true, Bool.true_and, Bool.and_false, Bool.false_and, Bool.and_self, Bool.or_self, abs_i, le_ii]
    · simp only [Pev.fnB, Pev.OutS.toF, Pev.sCons, Pev.sSet, Pev.sRet, Pev.sRetN, Pev.sIf, Pev.sSkip, Pev.sExpr, Pev.sTgt, Pev.sFor, Pev.sRaise, Pev.sPut, Pev.sAugS, Pev.sPar2, Pev.sPar3, Pev.OutS.fade, Pev.OutS.calm, Pev.Out.toS, Pev.Out.bind, Pev.noX, Pev.eVar, Pev.eC, Pev.eBin, Pev.eUn, Pev.eArgs, Pev.aCons, Pev.aNil, Pev.needN, Pev.eAnd, Pev.eOr, Pev.eNot, Pev.eIf, Pev.mAnd, Pev.mOr, Pev.mNot, Pev.mB, Pev.mT, Pev.eChain, Pev.truth, Pev.ofT, Pev.ofB, Pev.R.d?, Pev.eLc, Pev.iOf, Pev.iArgs, Pev.gN, Pev.gTp, Pev.gsCons, Pev.gsNil, Pev.tv, Pev.eBMl, Pev.eFld, Pev.tYes', Pev.wipeR, Pev.permL, List.map_cons, List.map_nil, List.length_cons, List.length_nil, List.cons_append, List.nil_append, List.append_nil, List.replicate, List.getElem?_cons_zero, List.getElem?_cons_succ, List.getElem?_nil, List.set_cons_zero, List.set_cons_succ, List.set_nil, List.filterMap_cons, List.filterMap_nil, Option.map_some, Option.map_none, Option.bind_some, Option.bind_none, if_true, if_false, Bool.not_true, Bool.not_false, Nat.reduceSub, Nat.reduceAdd, Nat.reduceEqDiff, Nat.reduceLeDiff, reduceIte, ite_true, ite_false, Bool.true_eq_false, Bool.false_eq_true, ↓reduceIte, Nat.zero_add, Nat.add_zero, Nat.sub_zero, id_eq, Bool.or_false, Bool.or_true, Bool.true_or, Bool.false_or, Bool.and_true, Bool.true_and, Bool.and_false, Bool.false_and, Bool.and_self, Bool.or_self, sub_ii, abs_i, le_ii]
    · simp only [Pev.fnB, Pev.OutS.toF, Pev.sCons, Pev.sSet, Pev.sRet, Pev.sRetN, Pev.sIf, Pev.sSkip, Pev.sExpr, Pev.sTgt, Pev.sFor, Pev.sRaise, Pev.sPut, Pev.sAugS, Pev.sPar2, Pev.sPar3, Pev.OutS.fade, Pev.OutS.calm, Pev.Out.toS, Pev.Out.bind, Pev.noX, Pev.eVar, Pev.eC, Pev.eBin, Pev.eUn, Pev.eArgs, Pev.aCons, Pev.aNil, Pev.needN, Pev.eAnd, Pev.eOr, Pev.eNot, Pev.eIf, Pev.mAnd, Pev.mOr, Pev.mNot, Pev.mB, Pev.mT, Pev.eChain, Pev.truth, Pev.ofT, Pev.ofB, Pev.R.d?, Pev.eLc, Pev.iOf, Pev.iArgs, Pev.gN, Pev.gTp, Pev.gsCons, Pev.gsNil, Pev.tv, Pev.eBMl, Pev.eFld, Pev.tYes', Pev.wipeR, Pev.permL, List.map_cons, List.map_nil, List.length_cons, List.length_nil, List.cons_append, List.nil_append, List.append_nil, List.replicate, List.getElem?_cons_zero, List.getElem?_cons_succ, List.getElem?_nil, List.set_cons_zero, List.set_cons_succ, List.set_nil, List.filterMap_cons, List.filterMap_nil, Option.map_some, Option.map_none, Option.bind_some, Option.bind_none, if_true, if_false, Bool.not_true, Bool.not_false, Nat.reduceSub, Nat.reduceAdd, Nat.reduceEqDiff, Nat.reduceLeDiff, reduceIte, ite_true, ite_false, Bool.true_eq_false, Bool.false_eq_true, ↓reduceIte, Nat.zero_add, Nat.add_zero, Nat.sub_zero, id_eq, Bool.or_false, Bool.or_true, Bool.true_or, Bool.false_or, Bool.and_true, Bool.true_and, Bool.and_false, Bool.false_and, Bool.and_self, Bool.or_self, add_ii, sub_ii, le_ii]
  · intro _
    have tp := tp2n p a (cel acc)
    simp only [Pev.fnB, Pev.OutS.toF, Pev.sCons, Pev.sSet, Pev.sRet, Pev.sRetN, Pev.sIf, Pev.sSkip, Pev.sExpr, Pev.sTgt, Pev.sFor, Pev.sRaise, Pev.sPut, Pev.sAugS, Pev.sPar2, Pev.sPar3, Pev.OutS.fade, Pev.OutS.calm, Pev.Out.toS, Pev.Out.bind, Pev.noX, Pev.eVar, Pev.eC, Pev.eBin, Pev.eUn, Pev.eArgs, Pev.aCons, Pev.aNil, Pev.needN, Pev.eAnd, Pev.eOr, Pev.eNot, Pev.eIf, Pev.mAnd, Pev.mOr, Pev.mNot, Pev.mB, Pev.mT, Pev.eChain, Pev.truth, Pev.ofT, Pev.ofB, Pev.R.d?, Pev.eLc, Pev.iOf, Pev.iArgs, Pev.gN, Pev.gTp, Pev.gsCons, Pev.gsNil, Pev.tv, Pev.eBMl, Pev.eFld, Pev.tYes', Pev.wipeR, Pev.permL, List.map_cons, List.map_nil, List.length_cons, List.length_nil, List.cons_append, List.nil_append, List.append_nil, List.replicate, List.getElem?_cons_zero, List.getElem?_cons_succ, List.getElem?_nil, List.set_cons_zero, List.set_cons_succ, List.set_nil, List.filterMap_cons, List.filterMap_nil, Option.map_some, Option.map_none, Option.bind_some, Option.bind_none, if_true, if_false, Bool.not_true, Bool.not_false, Nat.reduceSub, Nat.reduceAdd, Nat.reduceEqDiff, Nat.reduceLeDiff, reduceIte, ite_true, ite_false, Bool.true_eq_false, Bool.false_eq_true, ↓reduceIte, Nat.zero_add, Nat.add_zero, Nat.sub_zero, id_eq, Bool.or_false, Bool.or_true, Bool.true_or, Bool.false_or, Bool.and_true, Bool.true_and, Bool.and_false, Bool.false_and, Bool.and_self, Bool.or_self, tp]
    rfl
theorem lw2_ok (hL : L ≤ 20) (hn : n ≤ 3) (ho : o ≤ 20) {p : Nat} (hp : p ≤ n) {acc : List PyData} (hl : acc.length + 50 ≤ 1000) {x7 x8 : Option R} : ∃ x7' x8', lw2 (rhoW L n o (some (nR p)) (some (nR (cut L n p))) (some (nR (cut L n (p + 1)))) x7 x8) (cel acc) = .nx (rhoW L n o (some (nR p)) (some (nR (cut L n p))) (some (nR (cut L n (p + 1)))) x7' x8') (cel (acc ++ (lkP L n o p).map fun a => prI (p, a))) := by
  obtain ⟨ρ', ⟨x7', x8', rfl⟩, e⟩ := for_app (g := gN 7) (b := sCons (sSet 8 (eBin bSub (eVar 7) (eVar 5))) lw1) (fun a : Nat => nR a) (fun a => if decide (okP L n o p a) then [prI (p, a)] else []) 1 (fun ρ => ∃ x7 x8, ρ = rhoW L n o (some (nR p)) (some (nR (cut L n p))) (some (nR (cut L n (p + 1)))) x7 x8) (List.range (o + 1)) acc (rhoW L n o (some (nR p)) (some (nR (cut L n p))) (some (nR (cut L n (p + 1)))) x7 x8) ⟨_, _, rfl⟩ (fun a _ => by split <;> simp) (by rw [List.length_range]; omega) (by
    rintro i _ acc ρ ⟨x7, x8, rfl⟩ hl
    refine ⟨_, _, rfl, ?_, some (nR i), some (.dat (.int ((i : Int) - cut L n p))), rfl⟩
    have e1 : sSet 8 (eBin bSub (eVar 7) (eVar 5)) (rhoW L n o (some (nR p)) (some (nR (cut L n p))) (some (nR (cut L n (p + 1)))) (some (nR i)) x8) (cel acc) = .nx (rhoW L n o (some (nR p)) (some (nR (cut L n p))) (some (nR (cut L n (p + 1)))) (some (nR i)) (some (.dat (.int ((i : Int) - cut L n p))))) (cel acc) := rfl
    exact (cons_nx e1).trans (lw1_ok hp hl))
  refine ⟨x7', x8', ?_⟩
  rw [flat_if (fun a => decide (okP L n o p a)) (fun a => prI (p, a))] at e
  have gr := gr1 (o + 1) (by omega) (cel acc)
  unfold lw2
  unfold rhoW nR
  simp only [Pev.fnB, Pev.OutS.toF, Pev.sCons, Pev.sSet, Pev.sRet, Pev.sRetN, Pev.sIf, Pev.sSkip, Pev.sExpr, Pev.sTgt, Pev.sFor, Pev.sRaise, Pev.sPut, Pev.sAugS, Pev.sPar2, Pev.sPar3, Pev.OutS.fade, Pev.OutS.calm, Pev.Out.toS, Pev.Out.bind, Pev.noX, Pev.eVar, Pev.eC, Pev.eBin, Pev.eUn, Pev.eArgs, Pev.aCons, Pev.aNil, Pev.needN, Pev.eAnd, Pev.eOr, Pev.eNot, Pev.eIf, Pev.mAnd, Pev.mOr, Pev.mNot, Pev.mB, Pev.mT, Pev.eChain, Pev.truth, Pev.ofT, Pev.ofB, Pev.R.d?, Pev.eLc, Pev.iOf, Pev.iArgs, Pev.gN, Pev.gTp, Pev.gsCons, Pev.gsNil, Pev.tv, Pev.eBMl, Pev.eFld, Pev.tYes', Pev.wipeR, Pev.permL, List.map_cons, List.map_nil, List.length_cons, List.length_nil, List.cons_append, List.nil_append, List.append_nil, List.replicate, List.getElem?_cons_zero, List.getElem?_cons_succ, List.getElem?_nil, List.set_cons_zero, List.set_cons_succ, List.set_nil, List.filterMap_cons, List.filterMap_nil, Option.map_some, Option.map_none, Option.bind_some, Option.bind_none, if_true, if_false, Bool.not_true, Bool.not_false, Nat.reduceSub, Nat.reduceAdd, Nat.reduceEqDiff, Nat.reduceLeDiff, reduceIte, ite_true, ite_false, Bool.true_eq_false, Bool.false_eq_true, ↓reduceIte, Nat.zero_add, Nat.add_zero, Nat.sub_zero, id_eq, Bool.or_false, Bool.or_true, Bool.true_or, Bool.false_or, Bool.and_true, Bool.true_and, Bool.and_false, Bool.false_and, Bool.and_self, Bool.or_self, add_n1, gr]
  exact e
theorem lawlooks_ok (hL : L ≤ 20) (hn : n ≤ 3) (ho : o ≤ 20) : Gv m__law_looks [.int (L : Nat), .int (n : Nat), .int (o : Nat)] (.list ((lk L n o).map prI)) := by
  have hb : ∀ p, (lkP L n o p).length ≤ 21 := fun p => by
    unfold lkP
    exact Nat.le_trans (List.length_filter_le _ _) (by rw [List.length_range]; omega)
  obtain ⟨ρ', ⟨x4, x5, x6, x7, x8, rfl⟩, e⟩ := for_app (g := gN 4) (b := sCons lwP lw2) (fun p : Nat => nR p) (fun p => (lkP L n o p).map fun a => prI (p, a)) 50 (fun ρ => ∃ x4 x5 x6 x7 x8, ρ = rhoW L n o x4 x5 x6 x7 x8) (List.range (n + 1)) [] (rhoW L n o none none none none none) ⟨_, _, _, _, _, rfl⟩ (fun p _ => by rw [List.length_map]; have := hb p; omega) (by rw [List.length_range]; show 0 + _ ≤ _; omega) (by
    rintro p hp acc ρ ⟨x4, x5, x6, x7, x8, rfl⟩ hl
    have hp := List.mem_range.mp hp
    have m1 := mul_nn (x := L) (y := p) (by omega) (cel acc)
    have m2 := mul_nn (x := L) (y := p + 1) (by omega) (cel acc)
    have d1 := div_nn (x := L * p) (y := n + 1) (by omega) (by omega) (cel acc)
    have d2 := div_nn (x := L * (p + 1)) (y := n + 1) (by omega) (by omega) (cel acc)
    have e1 : lwP (rhoW L n o (some (nR p)) x5 x6 x7 x8) (cel acc) = .nx (rhoW L n o (some (nR p)) (some (nR (cut L n p))) (some (nR (cut L n (p + 1)))) x7 x8) (cel acc) := by
      unfold lwP
      simp only [Pev.fnB, Pev.OutS.toF, Pev.sCons, Pev.sSet, Pev.sRet, Pev.sRetN, Pev.sIf, Pev.sSkip, Pev.sExpr, Pev.sTgt, Pev.sFor, Pev.sRaise, Pev.sPut, Pev.sAugS, Pev.sPar2, Pev.sPar3, Pev.OutS.fade, Pev.OutS.calm, Pev.Out.toS, Pev.Out.bind, Pev.noX, Pev.eVar, Pev.eC, Pev.eBin, Pev.eUn, Pev.eArgs, Pev.aCons, Pev.aNil, Pev.needN, Pev.eAnd, Pev.eOr, Pev.eNot, Pev.eIf, Pev.mAnd, Pev.mOr, Pev.mNot, Pev.mB, Pev.mT, Pev.eChain, Pev.truth, Pev.ofT, Pev.ofB, Pev.R.d?, Pev.eLc, Pev.iOf, Pev.iArgs, Pev.gN, Pev.gTp, Pev.gsCons, Pev.gsNil, Pev.tv, Pev.eBMl, Pev.eFld, Pev.tYes', Pev.wipeR, Pev.permL, List.map_cons, List.map_nil, List.length_cons, List.length_nil, List.cons_append, List.nil_append, List.append_nil, List.replicate, List.getElem?_cons_zero, List.getElem?_cons_succ, List.getElem?_nil, List.set_cons_zero, List.set_cons_succ, List.set_nil, List.filterMap_cons, List.filterMap_nil, Option.map_some, Option.map_none, Option.bind_some, Option.bind_none, if_true, if_false, Bool.not_true, Bool.not_false, Nat.reduceSub, Nat.reduceAdd, Nat.reduceEqDiff, Nat.reduceLeDiff, reduceIte, ite_true, ite_false, Bool.true_eq_false, Bool.false_eq_true, ↓reduceIte, Nat.zero_add, Nat.add_zero, Nat.sub_zero, id_eq, Bool.or_false, Bool.or_true, Bool.true_or, Bool.false_or, Bool.and_true, Bool.true_and, Bool.and_false, Bool.false_and, Bool.and_self, Bool.or_self, m1, m2, add_n1, d1, d2]
      rfl
    obtain ⟨x7', x8', e⟩ := lw2_ok (L := L) (n := n) (o := o) hL hn ho (p := p) (by omega) hl (x7 := x7) (x8 := x8)
    exact ⟨_, _, rfl, (cons_nx e1).trans e, _, _, _, _, _, rfl⟩)
  have e1 : sSet 3 (eArgs (gLst true) aNil) [some (nR L), some (nR n), some (nR o), none, none, none, none, none, none] [] = .nx (rhoW L n o none none none none none) (cel []) := rfl
  have gr := gr1 (n + 1) (by omega) (cel [])
  have e2 : sFor (iArgs gRange1 (aCons (eBin (bAdd false) (eVar 1) (eC (.int 1))) aNil)) (gN 4) (sCons lwP lw2) (rhoW L n o none none none none none) (cel []) = .nx (rhoW L n o x4 x5 x6 x7 x8) (cel ((lk L n o).map prI)) := by
    have fe : ((List.range (n + 1)).flatMap fun p => (lkP L n o p).map fun a => prI (p, a)) = (lk L n o).map prI := by
      unfold lk
      rw [List.map_flatMap]
      congr 1
      funext p
      rw [List.map_map]
      rfl
    rw [fe, List.nil_append] at e
    unfold sFor
    have ee : iArgs gRange1 (aCons (eBin (bAdd false) (eVar 1) (eC (.int 1))) aNil) (rhoW L n o none none none none none) (cel []) = .ok ⟨(List.range (n + 1)).map fun j : Nat => R.dat (.int (j : Nat)), []⟩ (cel []) := by
      unfold rhoW nR
      simp only [Pev.fnB, Pev.OutS.toF, Pev.sCons, Pev.sSet, Pev.sRet, Pev.sRetN, Pev.sIf, Pev.sSkip, Pev.sExpr, Pev.sTgt, Pev.sFor, Pev.sRaise, Pev.sPut, Pev.sAugS, Pev.sPar2, Pev.sPar3, Pev.OutS.fade, Pev.OutS.calm, Pev.Out.toS, Pev.Out.bind, Pev.noX, Pev.eVar, Pev.eC, Pev.eBin, Pev.eUn, Pev.eArgs, Pev.aCons, Pev.aNil, Pev.needN, Pev.eAnd, Pev.eOr, Pev.eNot, Pev.eIf, Pev.mAnd, Pev.mOr, Pev.mNot, Pev.mB, Pev.mT, Pev.eChain, Pev.truth, Pev.ofT, Pev.ofB, Pev.R.d?, Pev.eLc, Pev.iOf, Pev.iArgs, Pev.gN, Pev.gTp, Pev.gsCons, Pev.gsNil, Pev.tv, Pev.eBMl, Pev.eFld, Pev.tYes', Pev.wipeR, Pev.permL, List.map_cons, List.map_nil, List.length_cons, List.length_nil, List.cons_append, List.nil_append, List.append_nil, List.replicate, List.getElem?_cons_zero, List.getElem?_cons_succ, List.getElem?_nil, List.set_cons_zero, List.set_cons_succ, List.set_nil, List.filterMap_cons, List.filterMap_nil, Option.map_some, Option.map_none, Option.bind_some, Option.bind_none, if_true, if_false, Bool.not_true, Bool.not_false, Nat.reduceSub, Nat.reduceAdd, Nat.reduceEqDiff, Nat.reduceLeDiff, reduceIte, ite_true, ite_false, Bool.true_eq_false, Bool.false_eq_true, ↓reduceIte, Nat.zero_add, Nat.add_zero, Nat.sub_zero, id_eq, Bool.or_false, Bool.or_true, Bool.true_or, Bool.false_or, Bool.and_true, Bool.true_and, Bool.and_false, Bool.false_and, Bool.and_self, Bool.or_self, add_n1, gr]
    rw [ee]
    exact e
  show outD (OutS.toF (b__law_looks [some (nR L), some (nR n), some (nR o), none, none, none, none, none, none] [])) = _
  rw [lw_eq, cons_nx e1, cons_nx e2]
  show snap (cel ((lk L n o).map prI)) depS (.obj 0) = _
  rw [show cel ((lk L n o).map prI) = [.lst ((lk L n o).map fun q => R.dat (prI q))] by unfold cel; rw [List.map_map]; rfl]
  exact snap_obj prI (lk L n o) rfl
end
end Lw
namespace Lw
open PySem Pev
open L2 (atI ixN cutS)
/-! ### found_looks and the law's -/
def pc (x : List Nat) (n p : Nat) : List Nat := (x.drop (cut x.length n p)).take (cut x.length n (p + 1) - cut x.length n p)
def hitB (x y : List Nat) (n : Nat) (q : Nat × Nat) : Bool := decide ((y.drop q.2).take (cut x.length n (q.1 + 1) - cut x.length n q.1) = pc x n q.1)
def fnd (x y : List Nat) (n : Nat) : List (Nat × Nat) := (lk x.length n y.length).filter (hitB x y n)
theorem fine_sub2 {l : List Nat} (h : Fine l) (i j : Nat) : Fine ((l.drop i).take j) := fine_sub h fun c hc => List.mem_of_mem_drop (List.mem_of_mem_take hc)
theorem ix_list {α : Type} {f : α → PyData} {xs : List α} {i : Nat} {a : α} (h : xs[i]? = some a) (hl : xs.length ≤ 1000) (S : Sto) : bIx (.dat (.list (xs.map f))) (.dat (.int (i : Nat))) S = .ok (.dat (f a)) S := by
  have sz := sz_of (show xs.length ≤ 10000 by omega)
  have e := at_map (f := fun a => R.dat (f a)) (xs := xs) (i := (i : Int)) (by omega) (by rw [Int.toNat_natCast]; exact h)
  simp only [Pev.fnB, Pev.OutS.toF, Pev.sCons, Pev.sSet, Pev.sRet, Pev.sRetN, Pev.sIf, Pev.sSkip, Pev.sExpr, Pev.sTgt, Pev.sFor, Pev.sRaise, Pev.sPut, Pev.putAt, Pev.sPar2, Pev.sPar3, Pev.sTry, Pev.hRun, Pev.OutS.fade, Pev.OutS.calm, Pev.Out.toS, Pev.Out.bind, Pev.noX, Pev.eVar, Pev.eC, Pev.eBin, Pev.eUn, Pev.eArgs, Pev.aCons, Pev.aNil, Pev.needN, Pev.eAnd, Pev.eOr, Pev.eNot, Pev.eIf, Pev.mAnd, Pev.mOr, Pev.mNot, Pev.mB, Pev.mT, Pev.eChain, Pev.truth, Pev.ans, Pev.ofT, Pev.ofB, Pev.bAdd, Pev.bSub, Pev.bMul, Pev.bDiv, Pev.bMod, Pev.bLt, Pev.bLe, Pev.bGt, Pev.bGe, Pev.bIsN, Pev.isNone?, Pev.uNeg, Pev.bIx, Pev.lv, Pev.lvt, Pev.gLen, Pev.gAbs, Pev.gInt, Pev.gBool, Pev.gList, Pev.gTuple, Pev.gTup, Pev.gLst, Pev.newL, Pev.newT, Pev.datAll, Pev.R.d?, Pev.uIs, Pev.tyOf, Pev.eLc, Pev.iOf, Pev.itOf, Pev.iArgs, Pev.gRange1, Pev.gRange2, Pev.gN, Pev.gTp, Pev.gsCons, Pev.gsNil, Pev.tv, Pev.eBMl, Pev.gAppend, Pev.gPop, Pev.gExtend, Pev.cellOf, Pev.eFld, Pev.tYes', Pev.wipeR, Pev.permL, List.map_cons, List.map_nil, List.length_cons, List.length_nil, List.cons_append, List.nil_append, List.append_nil, List.replicate, List.getElem?_cons_zero, List.getElem?_cons_succ, List.getElem?_nil, List.set_cons_zero, List.set_cons_succ, List.set_nil, List.filterMap_cons, List.filterMap_nil, Option.map_some, Option.map_none, Option.bind_some, Option.bind_none, if_true, if_false, Bool.not_true, Bool.not_false, Nat.reduceSub, Nat.reduceAdd, Nat.reduceEqDiff, Nat.reduceLeDiff, reduceIte, ite_true, ite_false, Bool.true_eq_false, Bool.false_eq_true, ↓reduceIte, Nat.zero_add, Nat.add_zero, Nat.sub_zero, Pev.outD_dat, Pev.snap_dat, Pev.outX, List.any_cons, List.any_nil, List.all_cons, List.all_nil, id_eq, Bool.or_false, Bool.or_true, Bool.true_or, Bool.false_or, Bool.and_true, Bool.true_and, Bool.and_false, Bool.false_and, Bool.and_self, Bool.or_self, Int.cast_ofNat_Int, decide_true, decide_false, Pev.isa_self, Pev.isa_bi, Pev.isa_tl, Pev.isa_lt, Pev.isa_ti, Pev.isa_li, Pev.isa_it, Pev.gAll, Pev.gAny, Pev.gSum, Pev.bls?, Pev.ints?, Pev.eq_ints, Pev.datAll_map, Pev.map_dat, Pev.app_map, Pev.datAll_f, Pev.ints_f, Pev.bls_f, Pev.at0, Pev.at1, Pev.at2, Pev.atLast, Pev.two_small, Pev.three_small, Pev.one_small, Pev.nil_small, Pev.oPart, Pev.toI, Pev.eSl, Pev.gSl, Pev.uRev, List.isEmpty_cons, List.isEmpty_nil, List.length_map, sz, map_dat, e]
theorem toI_i (i : Int) (S : Sto) : toI (.dat (.int i)) S = .ok (some i) S := rfl
abbrev T2 (x : List Nat) : R := .dat (.str (tx x))
section
variable {x y : List Nat} {n : Nat}
theorem pc_len {p : Nat} (hp : p ≤ n) : (pc x n p).length = cut x.length n (p + 1) - cut x.length n p := by
  have := cut_le (L := x.length) (n := n) (p := p + 1) (by omega)
  have := cut_mono x.length n p
  unfold pc
  rw [List.length_take, List.length_drop]
  omega
def fd1 : SM := (sFor (iArgs gEnumU (aCons (eArgs gTup (aCons (eVar 0) (aCons (eVar 1) aNil))) aNil)) (gTp 2 (gsCons (gN 3) (gsCons (gN 4) gsNil))) (sIf (mNot (mT (eArgs (needN 1 (pureF m_is_text)) (aCons (eVar 4) aNil)))) (sRaise 0 (eVar 3)) sSkip))
def fd2 : SM := (sPar2 5 6 (aCons (eArgs (needN 2 (pureF m_places_of)) (aCons (eArgs gLen (aCons (eVar 0) aNil)) (aCons (eArgs (fun rs => needN 3 (pureF m_need_many) (rs ++ [.int 0].map .dat)) (aCons (eVar 2) (aCons (eC (.str "near")) aNil))) aNil))) (aCons (eArgs (gLst true) aNil) aNil)))
def fdI : EM := (eArgs (needN 3 (pureF m_looks_of)) (aCons (eArgs gLen (aCons (eVar 0) aNil)) (aCons (eVar 2) (aCons (eArgs gLen (aCons (eVar 1) aNil)) aNil))))
def fdP : SM := (sTgt (gTp 2 (gsCons (gN 9) (gsCons (gN 10) gsNil))) (eBin bIx (eVar 5) (eVar 7)))
def fdB : SM := (sIf (mB (eBin (bEq false) (eSl false (eVar 1) (some (eVar 8)) (some (eBin bSub (eBin (bAdd false) (eVar 8) (eVar 10)) (eVar 9)))) (eSl false (eVar 0) (some (eVar 9)) (some (eVar 10))))) (sExpr (eBMl gAppend (eVar 6) (aCons (eArgs gTup (aCons (eVar 7) (aCons (eVar 8) aNil))) aNil))) sSkip)
def fdT : GM := (gTp 2 (gsCons (gN 7) (gsCons (gN 8) gsNil)))
theorem fd_eq : b_found_looks = sCons fd1 (sCons fd2 (sCons (sFor (iOf fdI) fdT (sCons fdP fdB)) (sRet (eArgs gTuple (aCons (eVar 6) aNil))))) := rfl
abbrev rhoF (x y : List Nat) (n : Nat) (x3 x4 x5 x6 x7 x8 x9 x10 : Option R) : Rho := [some (T2 x), some (T2 y), some (nR n), x3, x4, x5, x6, x7, x8, x9, x10]
theorem fd1_ok (hx : Fine x) (hy : Fine y) (lx : x.length ≤ 60) (ly : y.length ≤ 60) : fd1 (rhoF x y n none none none none none none none none) [] = .nx (rhoF x y n (some (nR 1)) (some (T2 y)) none none none none none none) [] := by
  have t1 := one_call (text_ok hx lx) []
  have t2 := one_call (text_ok hy ly) []
  have it : gEnumU [.dat (.tuple [.str (tx x), .str (tx y)])] [] = .ok ⟨[.dat (.tuple [.int 0, .str (tx x)]), .dat (.tuple [.int 1, .str (tx y)])], []⟩ [] := rfl
  have tp : gTup [T2 x, T2 y] [] = .ok (.dat (.tuple [.str (tx x), .str (tx y)])) [] := rfl
  unfold fd1
  simp only [Pev.fnB, Pev.OutS.toF, Pev.sCons, Pev.sSet, Pev.sRet, Pev.sRetN, Pev.sIf, Pev.sSkip, Pev.sExpr, Pev.sTgt, Pev.sFor, Pev.sRaise, Pev.sPut, Pev.sAugS, Pev.sPar2, Pev.sPar3, Pev.OutS.fade, Pev.OutS.calm, Pev.Out.toS, Pev.Out.bind, Pev.noX, Pev.eVar, Pev.eC, Pev.eBin, Pev.eUn, Pev.eArgs, Pev.aCons, Pev.aNil, Pev.needN, Pev.eAnd, Pev.eOr, Pev.eNot, Pev.eIf, Pev.mAnd, Pev.mOr, Pev.mNot, Pev.mB, Pev.mT, Pev.eChain, Pev.truth, Pev.ofT, Pev.ofB, Pev.R.d?, Pev.eLc, Pev.iOf, Pev.iArgs, Pev.gN, Pev.gTp, Pev.gsCons, Pev.gsNil, Pev.tv, Pev.eBMl, Pev.eFld, Pev.tYes', Pev.wipeR, Pev.permL, List.map_cons, List.map_nil, List.length_cons, List.length_nil, List.cons_append, List.nil_append, List.append_nil, List.replicate, List.getElem?_cons_zero, List.getElem?_cons_succ, List.getElem?_nil, List.set_cons_zero, List.set_cons_succ, List.set_nil, List.filterMap_cons, List.filterMap_nil, Option.map_some, Option.map_none, Option.bind_some, Option.bind_none, if_true, if_false, Bool.not_true, Bool.not_false, Nat.reduceSub, Nat.reduceAdd, Nat.reduceEqDiff, Nat.reduceLeDiff, reduceIte, ite_true, ite_false, Bool.true_eq_false, Bool.false_eq_true, ↓reduceIte, Nat.zero_add, Nat.add_zero, Nat.sub_zero, id_eq, Bool.or_false, Bool.or_true, Bool.true_or, Bool.false_or, Bool.and_true, Bool.true_and, Bool.and_false, Bool.false_and, Bool.and_self, Bool.or_self, tp, it, forLoop, stands_nil, t1, t2]
  rfl
theorem ixpl {L p : Nat} (hn : n ≤ 20) (hp : p ≤ n) (S : Sto) : bIx (.dat (.list (plL L n))) (.dat (.int (p : Nat))) S = .ok (.dat (pr (cut L n p) (cut L n (p + 1)))) S :=
  ix_list (f := fun p : Nat => pr (cut L n p) (cut L n (p + 1))) (xs := List.range (n + 1)) (List.getElem?_range (by omega)) (by rw [List.length_range]; omega) S
theorem fdB_ok (hx : Fine x) (hy : Fine y) (lx : x.length ≤ 20) (ly : y.length ≤ 20) (hn : n ≤ 3) {p a : Nat} (hq : (p, a) ∈ lk x.length n y.length) {acc : List PyData} (hl : acc.length + 1 ≤ 1000) {x9 x10 : Option R} :
    (sCons fdP fdB) (rhoF x y n (some (nR 1)) (some (T2 y)) (some (.dat (.list (plL x.length n)))) (some (.obj 0)) (some (nR p)) (some (nR a)) x9 x10) (cel acc) = .nx (rhoF x y n (some (nR 1)) (some (T2 y)) (some (.dat (.list (plL x.length n)))) (some (.obj 0)) (some (nR p)) (some (nR a)) (some (nR (cut x.length n p))) (some (nR (cut x.length n (p + 1))))) (cel (acc ++ if hitB x y n (p, a) then [prI (p, a)] else [])) := by
  obtain ⟨hp, ha, hk⟩ := mem_lk.mp hq
  dsimp only at hp ha hk
  unfold okP at hk
  have cm := cut_mono x.length n p
  have cl := cut_le (L := x.length) (n := n) (p := p + 1) (by omega)
  have ip := ixpl (L := x.length) (n := n) (p := p) (by omega) hp (cel acc)
  have e1 : fdP (rhoF x y n (some (nR 1)) (some (T2 y)) (some (.dat (.list (plL x.length n)))) (some (.obj 0)) (some (nR p)) (some (nR a)) x9 x10) (cel acc) = .nx (rhoF x y n (some (nR 1)) (some (T2 y)) (some (.dat (.list (plL x.length n)))) (some (.obj 0)) (some (nR p)) (some (nR a)) (some (nR (cut x.length n p))) (some (nR (cut x.length n (p + 1))))) (cel acc) := by
    unfold fdP
    unfold sTgt
    rw [show (eBin bIx (eVar 5) (eVar 7)) (rhoF x y n (some (nR 1)) (some (T2 y)) (some (.dat (.list (plL x.length n)))) (some (.obj 0)) (some (nR p)) (some (nR a)) x9 x10) (cel acc) = _ from ip]
    rfl
  rw [cons_nx e1]
  refine app_if (q := hitB x y n (p, a)) ?_ ?_ rfl (by omega)
  · have s1 := sl_tx (l := y) (by omega) (i := a) (j := a + cut x.length n (p + 1) - cut x.length n p) (by omega) (by omega) (cel acc)
    have s2 := sl_tx (l := x) (by omega) (i := cut x.length n p) (j := cut x.length n (p + 1)) (by omega) (by omega) (cel acc)
    have ei : ((a + cut x.length n (p + 1) : Nat) : Int) - (cut x.length n p : Nat) = ((a + cut x.length n (p + 1) - cut x.length n p : Nat) : Int) := by omega
    have eq := eq_tx false (fine_sub2 hy a (a + cut x.length n (p + 1) - cut x.length n p - a)) (fine_sub2 hx (cut x.length n p) (cut x.length n (p + 1) - cut x.length n p)) (cel acc)
    rw [if_neg (by simp)] at eq
    have sb := sub_ii ((a + cut x.length n (p + 1) : Nat) : Int) (cut x.length n p : Nat) (cel acc)
    rw [ei] at sb
    have eh : hitB x y n (p, a) = decide ((y.drop a).take (a + cut x.length n (p + 1) - cut x.length n p - a) = (x.drop (cut x.length n p)).take (cut x.length n (p + 1) - cut x.length n p)) := by
      unfold hitB pc
      rw [show a + cut x.length n (p + 1) - cut x.length n p - a = cut x.length n (p + 1) - cut x.length n p by omega]
    rw [eh]
    unfold rhoF nR T2
    simp only [Pev.fnB, Pev.OutS.toF, Pev.sCons, Pev.sSet, Pev.sRet, Pev.sRetN, Pev.sIf, Pev.sSkip, Pev.sExpr, Pev.sTgt, Pev.sFor, Pev.sRaise, Pev.sPut, Pev.sAugS, Pev.sPar2, Pev.sPar3, Pev.OutS.fade, Pev.OutS.calm, Pev.Out.toS, Pev.Out.bind, Pev.noX, Pev.eVar, Pev.eC, Pev.eBin, Pev.eUn, Pev.eArgs, Pev.aCons, Pev.aNil, Pev.needN, Pev.eAnd, Pev.eOr, Pev.eNot, Pev.eIf, Pev.mAnd, Pev.mOr, Pev.mNot, Pev.mB, Pev.mT, Pev.eChain, Pev.truth, Pev.ofT, Pev.ofB, Pev.R.d?, Pev.eLc, Pev.iOf, Pev.iArgs, Pev.gN, Pev.gTp, Pev.gsCons, Pev.gsNil, Pev.tv, Pev.eBMl, Pev.eFld, Pev.tYes', Pev.wipeR, Pev.permL, List.map_cons, List.map_nil, List.length_cons, List.length_nil, List.cons_append, List.nil_append, List.append_nil, List.replicate, List.getElem?_cons_zero, List.getElem?_cons_succ, List.getElem?_nil, List.set_cons_zero, List.set_cons_succ, List.set_nil, List.filterMap_cons, List.filterMap_nil, Option.map_some, Option.map_none, Option.bind_some, Option.bind_none, if_true, if_false, Bool.not_true, Bool.not_false, Nat.reduceSub, Nat.reduceAdd, Nat.reduceEqDiff, Nat.reduceLeDiff, reduceIte, ite_true, ite_false, Bool.true_eq_false, Bool.false_eq_true, ↓reduceIte, Nat.zero_add, Nat.add_zero, Nat.sub_zero, id_eq, Bool.or_false, Bool.or_true, Bool.true_or, Bool.false_or, Bool.and_true, Bool.true_and, Bool.and_false, Bool.false_and, Bool.and_self, Bool.or_self, eSl, oPart, toI_i, add_nn, sb, s1, s2, eq]
  · intro _
    have tp := tp2n p a (cel acc)
    simp only [Pev.fnB, Pev.OutS.toF, Pev.sCons, Pev.sSet, Pev.sRet, Pev.sRetN, Pev.sIf, Pev.sSkip, Pev.sExpr, Pev.sTgt, Pev.sFor, Pev.sRaise, Pev.sPut, Pev.sAugS, Pev.sPar2, Pev.sPar3, Pev.OutS.fade, Pev.OutS.calm, Pev.Out.toS, Pev.Out.bind, Pev.noX, Pev.eVar, Pev.eC, Pev.eBin, Pev.eUn, Pev.eArgs, Pev.aCons, Pev.aNil, Pev.needN, Pev.eAnd, Pev.eOr, Pev.eNot, Pev.eIf, Pev.mAnd, Pev.mOr, Pev.mNot, Pev.mB, Pev.mT, Pev.eChain, Pev.truth, Pev.ofT, Pev.ofB, Pev.R.d?, Pev.eLc, Pev.iOf, Pev.iArgs, Pev.gN, Pev.gTp, Pev.gsCons, Pev.gsNil, Pev.tv, Pev.eBMl, Pev.eFld, Pev.tYes', Pev.wipeR, Pev.permL, List.map_cons, List.map_nil, List.length_cons, List.length_nil, List.cons_append, List.nil_append, List.append_nil, List.replicate, List.getElem?_cons_zero, List.getElem?_cons_succ, List.getElem?_nil, List.set_cons_zero, List.set_cons_succ, List.set_nil, List.filterMap_cons, List.filterMap_nil, Option.map_some, Option.map_none, Option.bind_some, Option.bind_none, if_true, if_false, Bool.not_true, Bool.not_false, Nat.reduceSub, Nat.reduceAdd, Nat.reduceEqDiff, Nat.reduceLeDiff, reduceIte, ite_true, ite_false, Bool.true_eq_false, Bool.false_eq_true, ↓reduceIte, Nat.zero_add, Nat.add_zero, Nat.sub_zero, id_eq, Bool.or_false, Bool.or_true, Bool.true_or, Bool.false_or, Bool.and_true, Bool.true_and, Bool.and_false, Bool.false_and, Bool.and_self, Bool.or_self, tp]
    rfl
theorem it_lk (S : Sto) (l : List (Nat × Nat)) : itOf (.dat (.list (l.map prI))) S = .ok ⟨l.map fun q => R.dat (prI q), []⟩ S := by
  show Out.ok (⟨(l.map prI).map .dat, []⟩ : Items) S = _
  rw [map_dat]
theorem lk_small (hL : x.length ≤ 20) (hy : y.length ≤ 20) (hn : n ≤ 3) : (lk x.length n y.length).length ≤ 84 := by
  have := lk_len x.length n y.length
  have h2 : (n + 1) * (y.length + 1) ≤ 4 * 21 := Nat.mul_le_mul (by omega) (by omega)
  omega
theorem gt_cel (l : List PyData) : gTuple [.obj 0] (cel l) = .ok (.dat (.tuple l)) (cel l) := by
  unfold gTuple
  dsimp only [lv, cel]
  simp only [List.getElem?_cons_zero]
  unfold newT
  rw [datAll_map]
theorem found_ok (hx : Fine x) (hy : Fine y) (lx : x.length ≤ 20) (ly : y.length ≤ 20) (hn : n ≤ 3) : Gv m_found_looks [.str (tx x), .str (tx y), .int (n : Nat)] (.tuple ((fnd x y n).map prI)) := by
  have e1 := fd1_ok (n := n) hx hy (by omega) (by omega)
  have e2 : fd2 (rhoF x y n (some (nR 1)) (some (T2 y)) none none none none none none) [] = .nx (rhoF x y n (some (nR 1)) (some (T2 y)) (some (.dat (.list (plL x.length n)))) (some (.obj 0)) none none none none) (cel []) := by
    have gl := len_tx (l := x) (by omega) []
    have n1 := three_call (need_ok (n := n) (w := "near")) []
    have pl := two_call (places_ok (L := x.length) (n := n) (by omega) (by omega)) []
    have gg : gLst true [] [] = .ok (.obj 0) [.lst []] := rfl
    unfold fd2 rhoF T2 nR
    simp only [Pev.fnB, Pev.OutS.toF, Pev.sCons, Pev.sSet, Pev.sRet, Pev.sRetN, Pev.sIf, Pev.sSkip, Pev.sExpr, Pev.sTgt, Pev.sFor, Pev.sRaise, Pev.sPut, Pev.sAugS, Pev.sPar2, Pev.sPar3, Pev.OutS.fade, Pev.OutS.calm, Pev.Out.toS, Pev.Out.bind, Pev.noX, Pev.eVar, Pev.eC, Pev.eBin, Pev.eUn, Pev.eArgs, Pev.aCons, Pev.aNil, Pev.needN, Pev.eAnd, Pev.eOr, Pev.eNot, Pev.eIf, Pev.mAnd, Pev.mOr, Pev.mNot, Pev.mB, Pev.mT, Pev.eChain, Pev.truth, Pev.ofT, Pev.ofB, Pev.R.d?, Pev.eLc, Pev.iOf, Pev.iArgs, Pev.gN, Pev.gTp, Pev.gsCons, Pev.gsNil, Pev.tv, Pev.eBMl, Pev.eFld, Pev.tYes', Pev.wipeR, Pev.permL, List.map_cons, List.map_nil, List.length_cons, List.length_nil, List.cons_append, List.nil_append, List.append_nil, List.replicate, List.getElem?_cons_zero, List.getElem?_cons_succ, List.getElem?_nil, List.set_cons_zero, List.set_cons_succ, List.set_nil, List.filterMap_cons, List.filterMap_nil, Option.map_some, Option.map_none, Option.bind_some, Option.bind_none, if_true, if_false, Bool.not_true, Bool.not_false, Nat.reduceSub, Nat.reduceAdd, Nat.reduceEqDiff, Nat.reduceLeDiff, reduceIte, ite_true, ite_false, Bool.true_eq_false, Bool.false_eq_true, ↓reduceIte, Nat.zero_add, Nat.add_zero, Nat.sub_zero, id_eq, Bool.or_false, Bool.or_true, Bool.true_or, Bool.false_or, Bool.and_true, Bool.true_and, Bool.and_false, Bool.false_and, Bool.and_self, Bool.or_self, gl, n1, pl, gg]
    rfl
  have ei : iOf fdI (rhoF x y n (some (nR 1)) (some (T2 y)) (some (.dat (.list (plL x.length n)))) (some (.obj 0)) none none none none) (cel []) = .ok ⟨(lk x.length n y.length).map fun q => R.dat (prI q), []⟩ (cel []) := by
    have g1 := len_tx (l := x) (by omega) (cel [])
    have g2 := len_tx (l := y) (by omega) (cel [])
    have lo := three_call (looks_ok (L := x.length) (n := n) (o := y.length) lx hn ly) (cel [])
    have it := it_lk (cel []) (lk x.length n y.length)
    unfold fdI rhoF T2 nR
    simp only [Pev.fnB, Pev.OutS.toF, Pev.sCons, Pev.sSet, Pev.sRet, Pev.sRetN, Pev.sIf, Pev.sSkip, Pev.sExpr, Pev.sTgt, Pev.sFor, Pev.sRaise, Pev.sPut, Pev.sAugS, Pev.sPar2, Pev.sPar3, Pev.OutS.fade, Pev.OutS.calm, Pev.Out.toS, Pev.Out.bind, Pev.noX, Pev.eVar, Pev.eC, Pev.eBin, Pev.eUn, Pev.eArgs, Pev.aCons, Pev.aNil, Pev.needN, Pev.eAnd, Pev.eOr, Pev.eNot, Pev.eIf, Pev.mAnd, Pev.mOr, Pev.mNot, Pev.mB, Pev.mT, Pev.eChain, Pev.truth, Pev.ofT, Pev.ofB, Pev.R.d?, Pev.eLc, Pev.iOf, Pev.iArgs, Pev.gN, Pev.gTp, Pev.gsCons, Pev.gsNil, Pev.tv, Pev.eBMl, Pev.eFld, Pev.tYes', Pev.wipeR, Pev.permL, List.map_cons, List.map_nil, List.length_cons, List.length_nil, List.cons_append, List.nil_append, List.append_nil, List.replicate, List.getElem?_cons_zero, List.getElem?_cons_succ, List.getElem?_nil, List.set_cons_zero, List.set_cons_succ, List.set_nil, List.filterMap_cons, List.filterMap_nil, Option.map_some, Option.map_none, Option.bind_some, Option.bind_none, if_true, if_false, Bool.not_true, Bool.not_false, Nat.reduceSub, Nat.reduceAdd, Nat.reduceEqDiff, Nat.reduceLeDiff, reduceIte, ite_true, ite_false, Bool.true_eq_false, Bool.false_eq_true, ↓reduceIte, Nat.zero_add, Nat.add_zero, Nat.sub_zero, id_eq, Bool.or_false, Bool.or_true, Bool.true_or, Bool.false_or, Bool.and_true, Bool.true_and, Bool.and_false, Bool.false_and, Bool.and_self, Bool.or_self, g1, g2, lo, it]
  obtain ⟨ρ', ⟨x7, x8, x9, x10, rfl⟩, e⟩ := for_app (g := fdT) (b := sCons fdP fdB) (fun q : Nat × Nat => R.dat (prI q)) (fun q => if hitB x y n q then [prI q] else []) 1 (fun ρ => ∃ x7 x8 x9 x10, ρ = rhoF x y n (some (nR 1)) (some (T2 y)) (some (.dat (.list (plL x.length n)))) (some (.obj 0)) x7 x8 x9 x10) (lk x.length n y.length) [] (rhoF x y n (some (nR 1)) (some (T2 y)) (some (.dat (.list (plL x.length n)))) (some (.obj 0)) none none none none) ⟨_, _, _, _, rfl⟩ (fun p _ => by split <;> simp) (by have := lk_small (n := n) lx ly hn; show 0 + _ ≤ _; omega) (by
    rintro ⟨p, a⟩ hq acc ρ ⟨x7, x8, x9, x10, rfl⟩ hl
    exact ⟨_, _, rfl, fdB_ok hx hy lx ly hn hq hl, _, _, _, _, rfl⟩)
  have e3 : sFor (iOf fdI) fdT (sCons fdP fdB) (rhoF x y n (some (nR 1)) (some (T2 y)) (some (.dat (.list (plL x.length n)))) (some (.obj 0)) none none none none) (cel []) = .nx (rhoF x y n (some (nR 1)) (some (T2 y)) (some (.dat (.list (plL x.length n)))) (some (.obj 0)) x7 x8 x9 x10) (cel ((fnd x y n).map prI)) := by
    rw [flat_if, List.nil_append] at e
    unfold sFor
    rw [ei]
    exact e
  show outD (OutS.toF (b_found_looks (rhoF x y n none none none none none none none none) [])) = _
  rw [fd_eq, cons_nx e1, cons_nx e2, cons_nx e3]
  have gt := gt_cel ((fnd x y n).map prI)
  unfold rhoF
  simp only [Pev.fnB, Pev.OutS.toF, Pev.sCons, Pev.sSet, Pev.sRet, Pev.sRetN, Pev.sIf, Pev.sSkip, Pev.sExpr, Pev.sTgt, Pev.sFor, Pev.sRaise, Pev.sPut, Pev.sAugS, Pev.sPar2, Pev.sPar3, Pev.OutS.fade, Pev.OutS.calm, Pev.Out.toS, Pev.Out.bind, Pev.noX, Pev.eVar, Pev.eC, Pev.eBin, Pev.eUn, Pev.eArgs, Pev.aCons, Pev.aNil, Pev.needN, Pev.eAnd, Pev.eOr, Pev.eNot, Pev.eIf, Pev.mAnd, Pev.mOr, Pev.mNot, Pev.mB, Pev.mT, Pev.eChain, Pev.truth, Pev.ofT, Pev.ofB, Pev.R.d?, Pev.eLc, Pev.iOf, Pev.iArgs, Pev.gN, Pev.gTp, Pev.gsCons, Pev.gsNil, Pev.tv, Pev.eBMl, Pev.eFld, Pev.tYes', Pev.wipeR, Pev.permL, List.map_cons, List.map_nil, List.length_cons, List.length_nil, List.cons_append, List.nil_append, List.append_nil, List.replicate, List.getElem?_cons_zero, List.getElem?_cons_succ, List.getElem?_nil, List.set_cons_zero, List.set_cons_succ, List.set_nil, List.filterMap_cons, List.filterMap_nil, Option.map_some, Option.map_none, Option.bind_some, Option.bind_none, if_true, if_false, Bool.not_true, Bool.not_false, Nat.reduceSub, Nat.reduceAdd, Nat.reduceEqDiff, Nat.reduceLeDiff, reduceIte, ite_true, ite_false, Bool.true_eq_false, Bool.false_eq_true, ↓reduceIte, Nat.zero_add, Nat.add_zero, Nat.sub_zero, id_eq, Bool.or_false, Bool.or_true, Bool.true_or, Bool.false_or, Bool.and_true, Bool.true_and, Bool.and_false, Bool.false_and, Bool.and_self, Bool.or_self, gt, outD_dat]
/-! the law's -/
def lfI : EM := (eArgs (needN 3 (pureF m__law_looks)) (aCons (eArgs gLen (aCons (eVar 0) aNil)) (aCons (eVar 2) (aCons (eArgs gLen (aCons (eVar 1) aNil)) aNil))))
def lfP : SM := (sSet 6 (eSl false (eVar 0) (some (eBin bDiv (eBin (bMul false) (eArgs gLen (aCons (eVar 0) aNil)) (eVar 4)) (eBin (bAdd false) (eVar 2) (eC (.int 1))))) (some (eBin bDiv (eBin (bMul false) (eArgs gLen (aCons (eVar 0) aNil)) (eBin (bAdd false) (eVar 4) (eC (.int 1)))) (eBin (bAdd false) (eVar 2) (eC (.int 1)))))))
def lfB : SM := (sIf (mB (eBin (bEq false) (eSl false (eVar 1) (some (eVar 5)) (some (eBin (bAdd false) (eVar 5) (eArgs gLen (aCons (eVar 6) aNil))))) (eVar 6))) (sExpr (eBMl gAppend (eVar 3) (aCons (eArgs gTup (aCons (eVar 4) (aCons (eVar 5) aNil))) aNil))) sSkip)
def lfT : GM := (gTp 2 (gsCons (gN 4) (gsCons (gN 5) gsNil)))
theorem lf_eq : b__law_found = sCons (sSet 3 (eArgs (gLst true) aNil)) (sCons (sFor (iOf lfI) lfT (sCons lfP lfB)) (sRet (eVar 3))) := rfl
abbrev rhoG (x y : List Nat) (n : Nat) (x3 x4 x5 x6 : Option R) : Rho := [some (T2 x), some (T2 y), some (nR n), x3, x4, x5, x6]
theorem lfB_ok (hx : Fine x) (hy : Fine y) (lx : x.length ≤ 20) (ly : y.length ≤ 20) (hn : n ≤ 3) {p a : Nat} (hq : (p, a) ∈ lk x.length n y.length) {acc : List PyData} (hl : acc.length + 1 ≤ 1000) {x6 : Option R} :
    (sCons lfP lfB) (rhoG x y n (some (.obj 0)) (some (nR p)) (some (nR a)) x6) (cel acc) = .nx (rhoG x y n (some (.obj 0)) (some (nR p)) (some (nR a)) (some (T2 (pc x n p)))) (cel (acc ++ if hitB x y n (p, a) then [prI (p, a)] else [])) := by
  obtain ⟨hp, ha, hk⟩ := mem_lk.mp hq
  dsimp only at hp ha hk
  unfold okP at hk
  have cm := cut_mono x.length n p
  have cl := cut_le (L := x.length) (n := n) (p := p + 1) (by omega)
  have e1 : lfP (rhoG x y n (some (.obj 0)) (some (nR p)) (some (nR a)) x6) (cel acc) = .nx (rhoG x y n (some (.obj 0)) (some (nR p)) (some (nR a)) (some (T2 (pc x n p)))) (cel acc) := by
    have gl := len_tx (l := x) (by omega) (cel acc)
    have m1 := mul_nn (x := x.length) (y := p) (by omega) (cel acc)
    have m2 := mul_nn (x := x.length) (y := p + 1) (by omega) (cel acc)
    have d1 : bDiv (.dat (.int ((x.length * p : Nat) : Int))) (.dat (.int ((n + 1 : Nat) : Int))) (cel acc) = .ok (.dat (.int (cut x.length n p : Nat))) (cel acc) := div_nn (x := x.length * p) (y := n + 1) (by omega) (by omega) (cel acc)
    have d2 : bDiv (.dat (.int ((x.length * (p + 1) : Nat) : Int))) (.dat (.int ((n + 1 : Nat) : Int))) (cel acc) = .ok (.dat (.int (cut x.length n (p + 1) : Nat))) (cel acc) := div_nn (x := x.length * (p + 1)) (y := n + 1) (by omega) (by omega) (cel acc)
    have s2 := sl_tx (l := x) (by omega) (i := cut x.length n p) (j := cut x.length n (p + 1)) (by omega) (by omega) (cel acc)
    unfold lfP rhoG T2 nR
    simp only [Pev.fnB, Pev.OutS.toF, Pev.sCons, Pev.sSet, Pev.sRet, Pev.sRetN, Pev.sIf, Pev.sSkip, Pev.sExpr, Pev.sTgt, Pev.sFor, Pev.sRaise, Pev.sPut, Pev.sAugS, Pev.sPar2, Pev.sPar3, Pev.OutS.fade, Pev.OutS.calm, Pev.Out.toS, Pev.Out.bind, Pev.noX, Pev.eVar, Pev.eC, Pev.eBin, Pev.eUn, Pev.eArgs, Pev.aCons, Pev.aNil, Pev.needN, Pev.eAnd, Pev.eOr, Pev.eNot, Pev.eIf, Pev.mAnd, Pev.mOr, Pev.mNot, Pev.mB, Pev.mT, Pev.eChain, Pev.truth, Pev.ofT, Pev.ofB, Pev.R.d?, Pev.eLc, Pev.iOf, Pev.iArgs, Pev.gN, Pev.gTp, Pev.gsCons, Pev.gsNil, Pev.tv, Pev.eBMl, Pev.eFld, Pev.tYes', Pev.wipeR, Pev.permL, List.map_cons, List.map_nil, List.length_cons, List.length_nil, List.cons_append, List.nil_append, List.append_nil, List.replicate, List.getElem?_cons_zero, List.getElem?_cons_succ, List.getElem?_nil, List.set_cons_zero, List.set_cons_succ, List.set_nil, List.filterMap_cons, List.filterMap_nil, Option.map_some, Option.map_none, Option.bind_some, Option.bind_none, if_true, if_false, Bool.not_true, Bool.not_false, Nat.reduceSub, Nat.reduceAdd, Nat.reduceEqDiff, Nat.reduceLeDiff, reduceIte, ite_true, ite_false, Bool.true_eq_false, Bool.false_eq_true, ↓reduceIte, Nat.zero_add, Nat.add_zero, Nat.sub_zero, id_eq, Bool.or_false, Bool.or_true, Bool.true_or, Bool.false_or, Bool.and_true, Bool.true_and, Bool.and_false, Bool.false_and, Bool.and_self, Bool.or_self, eSl, oPart, toI_i, gl, m1, m2, add_n1, d1, d2, s2]
    rfl
  rw [cons_nx e1]
  refine app_if (q := hitB x y n (p, a)) ?_ ?_ rfl (by omega)
  · have pl := pc_len (x := x) hp
    have gl := len_tx (l := pc x n p) (by omega) (cel acc)
    have s1 := sl_tx (l := y) (by omega) (i := a) (j := a + (pc x n p).length) (by omega) (by omega) (cel acc)
    have eq := eq_tx false (fine_sub2 hy a (a + (pc x n p).length - a)) (show Fine (pc x n p) from fine_sub2 hx _ _) (cel acc)
    rw [if_neg (by simp)] at eq
    have eh : hitB x y n (p, a) = decide ((y.drop a).take (a + (pc x n p).length - a) = pc x n p) := by
      unfold hitB
      rw [show a + (pc x n p).length - a = cut x.length n (p + 1) - cut x.length n p by omega]
    rw [eh]
    unfold rhoG nR T2
    simp only [Pev.fnB, Pev.OutS.toF, Pev.sCons, Pev.sSet, Pev.sRet, Pev.sRetN, Pev.sIf, Pev.sSkip, Pev.sExpr, Pev.sTgt, Pev.sFor, Pev.sRaise, Pev.sPut, Pev.sAugS, Pev.sPar2, Pev.sPar3, Pev.OutS.fade, Pev.OutS.calm, Pev.Out.toS, Pev.Out.bind, Pev.noX, Pev.eVar, Pev.eC, Pev.eBin, Pev.eUn, Pev.eArgs, Pev.aCons, Pev.aNil, Pev.needN, Pev.eAnd, Pev.eOr, Pev.eNot, Pev.eIf, Pev.mAnd, Pev.mOr, Pev.mNot, Pev.mB, Pev.mT, Pev.eChain, Pev.truth, Pev.ofT, Pev.ofB, Pev.R.d?, Pev.eLc, Pev.iOf, Pev.iArgs, Pev.gN, Pev.gTp, Pev.gsCons, Pev.gsNil, Pev.tv, Pev.eBMl, Pev.eFld, Pev.tYes', Pev.wipeR, Pev.permL, List.map_cons, List.map_nil, List.length_cons, List.length_nil, List.cons_append, List.nil_append, List.append_nil, List.replicate, List.getElem?_cons_zero, List.getElem?_cons_succ, List.getElem?_nil, List.set_cons_zero, List.set_cons_succ, List.set_nil, List.filterMap_cons, List.filterMap_nil, Option.map_some, Option.map_none, Option.bind_some, Option.bind_none, if_true, if_false, Bool.not_true, Bool.not_false, Nat.reduceSub, Nat.reduceAdd, Nat.reduceEqDiff, Nat.reduceLeDiff, reduceIte, ite_true, ite_false, Bool.true_eq_false, Bool.false_eq_true, ↓reduceIte, Nat.zero_add, Nat.add_zero, Nat.sub_zero, id_eq, Bool.or_false, Bool.or_true, Bool.true_or, Bool.false_or, Bool.and_true, Bool.true_and, Bool.and_false, Bool.false_and, Bool.and_self, Bool.or_self, eSl, oPart, toI_i, gl, add_nn, s1, eq]
  · intro _
    have tp := tp2n p a (cel acc)
    simp only [Pev.fnB, Pev.OutS.toF, Pev.sCons, Pev.sSet, Pev.sRet, Pev.sRetN, Pev.sIf, Pev.sSkip, Pev.sExpr, Pev.sTgt, Pev.sFor, Pev.sRaise, Pev.sPut, Pev.sAugS, Pev.sPar2, Pev.sPar3, Pev.OutS.fade, Pev.OutS.calm, Pev.Out.toS, Pev.Out.bind, Pev.noX, Pev.eVar, Pev.eC, Pev.eBin, Pev.eUn, Pev.eArgs, Pev.aCons, Pev.aNil, Pev.needN, Pev.eAnd, Pev.eOr, Pev.eNot, Pev.eIf, Pev.mAnd, Pev.mOr, Pev.mNot, Pev.mB, Pev.mT, Pev.eChain, Pev.truth, Pev.ofT, Pev.ofB, Pev.R.d?, Pev.eLc, Pev.iOf, Pev.iArgs, Pev.gN, Pev.gTp, Pev.gsCons, Pev.gsNil, Pev.tv, Pev.eBMl, Pev.eFld, Pev.tYes', Pev.wipeR, Pev.permL, List.map_cons, List.map_nil, List.length_cons, List.length_nil, List.cons_append, List.nil_append, List.append_nil, List.replicate, List.getElem?_cons_zero, List.getElem?_cons_succ, List.getElem?_nil, List.set_cons_zero, List.set_cons_succ, List.set_nil, List.filterMap_cons, List.filterMap_nil, Option.map_some, Option.map_none, Option.bind_some, Option.bind_none, if_true, if_false, Bool.not_true, Bool.not_false, Nat.reduceSub, Nat.reduceAdd, Nat.reduceEqDiff, Nat.reduceLeDiff, reduceIte, ite_true, ite_false, Bool.true_eq_false, Bool.false_eq_true, ↓reduceIte, Nat.zero_add, Nat.add_zero, Nat.sub_zero, id_eq, Bool.or_false, Bool.or_true, Bool.true_or, Bool.false_or, Bool.and_true, Bool.true_and, Bool.and_false, Bool.false_and, Bool.and_self, Bool.or_self, tp]
    rfl
theorem lawfound_ok (hx : Fine x) (hy : Fine y) (lx : x.length ≤ 20) (ly : y.length ≤ 20) (hn : n ≤ 3) : Gv m__law_found [.str (tx x), .str (tx y), .int (n : Nat)] (.list ((fnd x y n).map prI)) := by
  have e1 : sSet 3 (eArgs (gLst true) aNil) (rhoG x y n none none none none) [] = .nx (rhoG x y n (some (.obj 0)) none none none) (cel []) := rfl
  have ei : iOf lfI (rhoG x y n (some (.obj 0)) none none none) (cel []) = .ok ⟨(lk x.length n y.length).map fun q => R.dat (prI q), []⟩ (cel []) := by
    have g1 := len_tx (l := x) (by omega) (cel [])
    have g2 := len_tx (l := y) (by omega) (cel [])
    have lo := three_call (lawlooks_ok (L := x.length) (n := n) (o := y.length) lx hn ly) (cel [])
    have it := it_lk (cel []) (lk x.length n y.length)
    unfold lfI rhoG T2 nR
    simp only [Pev.fnB, Pev.OutS.toF, Pev.sCons, Pev.sSet, Pev.sRet, Pev.sRetN, Pev.sIf, Pev.sSkip, Pev.sExpr, Pev.sTgt, Pev.sFor, Pev.sRaise, Pev.sPut, Pev.sAugS, Pev.sPar2, Pev.sPar3, Pev.OutS.fade, Pev.OutS.calm, Pev.Out.toS, Pev.Out.bind, Pev.noX, Pev.eVar, Pev.eC, Pev.eBin, Pev.eUn, Pev.eArgs, Pev.aCons, Pev.aNil, Pev.needN, Pev.eAnd, Pev.eOr, Pev.eNot, Pev.eIf, Pev.mAnd, Pev.mOr, Pev.mNot, Pev.mB, Pev.mT, Pev.eChain, Pev.truth, Pev.ofT, Pev.ofB, Pev.R.d?, Pev.eLc, Pev.iOf, Pev.iArgs, Pev.gN, Pev.gTp, Pev.gsCons, Pev.gsNil, Pev.tv, Pev.eBMl, Pev.eFld, Pev.tYes', Pev.wipeR, Pev.permL, List.map_cons, List.map_nil, List.length_cons, List.length_nil, List.cons_append, List.nil_append, List.append_nil, List.replicate, List.getElem?_cons_zero, List.getElem?_cons_succ, List.getElem?_nil, List.set_cons_zero, List.set_cons_succ, List.set_nil, List.filterMap_cons, List.filterMap_nil, Option.map_some, Option.map_none, Option.bind_some, Option.bind_none, if_true, if_false, Bool.not_true, Bool.not_false, Nat.reduceSub, Nat.reduceAdd, Nat.reduceEqDiff, Nat.reduceLeDiff, reduceIte, ite_true, ite_false, Bool.true_eq_false, Bool.false_eq_true, ↓reduceIte, Nat.zero_add, Nat.add_zero, Nat.sub_zero, id_eq, Bool.or_false, Bool.or_true, Bool.true_or, Bool.false_or, Bool.and_true, Bool.true_and, Bool.and_false, Bool.false_and, Bool.and_self, Bool.or_self, g1, g2, lo, it]
  obtain ⟨ρ', ⟨x4, x5, x6, rfl⟩, e⟩ := for_app (g := lfT) (b := sCons lfP lfB) (fun q : Nat × Nat => R.dat (prI q)) (fun q => if hitB x y n q then [prI q] else []) 1 (fun ρ => ∃ x4 x5 x6, ρ = rhoG x y n (some (.obj 0)) x4 x5 x6) (lk x.length n y.length) [] (rhoG x y n (some (.obj 0)) none none none) ⟨_, _, _, rfl⟩ (fun p _ => by split <;> simp) (by have := lk_small (n := n) lx ly hn; show 0 + _ ≤ _; omega) (by
    rintro ⟨p, a⟩ hq acc ρ ⟨x4, x5, x6, rfl⟩ hl
    exact ⟨_, _, rfl, lfB_ok hx hy lx ly hn hq hl, _, _, _, rfl⟩)
  have e3 : sFor (iOf lfI) lfT (sCons lfP lfB) (rhoG x y n (some (.obj 0)) none none none) (cel []) = .nx (rhoG x y n (some (.obj 0)) x4 x5 x6) (cel ((fnd x y n).map prI)) := by
    rw [flat_if, List.nil_append] at e
    unfold sFor
    rw [ei]
    exact e
  show outD (OutS.toF (b__law_found (rhoG x y n none none none none) [])) = _
  rw [lf_eq, cons_nx e1, cons_nx e3]
  show snap (cel ((fnd x y n).map prI)) depS (.obj 0) = _
  rw [show cel ((fnd x y n).map prI) = [.lst ((fnd x y n).map fun q => R.dat (prI q))] by unfold cel; rw [List.map_map]; rfl]
  exact snap_obj prI (fnd x y n) rfl
end
end Lw
namespace Lw
open PySem Pev
open L2 (atI ixN cutS)
/-! ### how texts are put beside one another -/
inductive Al : List Nat → List Nat → Nat → Prop
  | nil : Al [] [] 0
  | keep {x y k} (c : Nat) : Al x y k → Al (x ++ [c]) (y ++ [c]) k
  | sub {x y k} (c d : Nat) : Al x y k → Al (x ++ [c]) (y ++ [d]) (k + 1)
  | del {x y k} (c : Nat) : Al x y k → Al (x ++ [c]) y (k + 1)
  | ins {x y k} (d : Nat) : Al x y k → Al x (y ++ [d]) (k + 1)
theorem Al.sym {x y : List Nat} {k : Nat} (h : Al x y k) : Al y x k := by
  induction h with
  | nil => exact .nil
  | keep c _ ih => exact .keep c ih
  | sub c d _ ih => exact .sub d c ih
  | del c _ ih => exact .ins c ih
  | ins d _ ih => exact .del d ih
theorem Al.len {x y : List Nat} {k : Nat} (h : Al x y k) : x.length ≤ y.length + k ∧ y.length ≤ x.length + k := by
  induction h with
  | nil => exact ⟨Nat.le_refl _, Nat.le_refl _⟩
  | keep c _ ih => simp only [List.length_append, List.length_cons, List.length_nil]; omega
  | sub c d _ ih => simp only [List.length_append, List.length_cons, List.length_nil]; omega
  | del c _ ih => simp only [List.length_append, List.length_cons, List.length_nil]; omega
  | ins d _ ih => simp only [List.length_append, List.length_cons, List.length_nil]; omega
theorem Al.zero {x y : List Nat} {k : Nat} (h : Al x y k) (hk : k = 0) : x = y := by
  induction h with
  | nil => rfl
  | keep c _ ih => rw [ih hk]
  | sub c d _ ih => omega
  | del c _ ih => omega
  | ins d _ ih => omega
theorem snoc_cases {α : Type} (l : List α) : l = [] ∨ ∃ k c, l = k ++ [c] := by
  rcases List.eq_nil_or_concat l with h | ⟨k, c, h⟩
  · exact .inl h
  · exact .inr ⟨k, c, by rw [h, List.concat_eq_append]⟩
theorem snoc_eq {x x1 x2 : List Nat} {c : Nat} (h : x ++ [c] = x1 ++ x2) : (x2 = [] ∧ x1 = x ++ [c]) ∨ ∃ z, x2 = z ++ [c] ∧ x = x1 ++ z := by
  rcases snoc_cases x2 with rfl | ⟨z, d, rfl⟩
  · exact .inl ⟨rfl, by rw [List.append_nil] at h; exact h.symm⟩
  · rw [← List.append_assoc] at h
    obtain ⟨a, b⟩ := List.append_inj' h rfl
    exact .inr ⟨z, by rw [show d = c from (List.cons.inj b).1.symm], a⟩
theorem Al.split {x y : List Nat} {k : Nat} (h : Al x y k) : ∀ x1 x2, x = x1 ++ x2 → ∃ y1 y2 k1 k2, y = y1 ++ y2 ∧ k = k1 + k2 ∧ Al x1 y1 k1 ∧ Al x2 y2 k2 := by
  induction h with
  | nil =>
    intro x1 x2 e
    obtain ⟨rfl, rfl⟩ := List.append_eq_nil_iff.mp e.symm
    exact ⟨[], [], 0, 0, rfl, rfl, .nil, .nil⟩
  | @keep x y k c h ih =>
    intro x1 x2 e
    rcases snoc_eq e with ⟨rfl, rfl⟩ | ⟨z, rfl, e'⟩
    · exact ⟨_, [], _, 0, (List.append_nil _).symm, rfl, .keep c h, .nil⟩
    · obtain ⟨y1, y2, k1, k2, e1, e2, h1, h2⟩ := ih x1 z e'
      exact ⟨y1, y2 ++ [c], k1, k2, by rw [e1, List.append_assoc], e2, h1, .keep c h2⟩
  | @sub x y k c d h ih =>
    intro x1 x2 e
    rcases snoc_eq e with ⟨rfl, rfl⟩ | ⟨z, rfl, e'⟩
    · exact ⟨_, [], _, 0, (List.append_nil _).symm, rfl, .sub c d h, .nil⟩
    · obtain ⟨y1, y2, k1, k2, e1, e2, h1, h2⟩ := ih x1 z e'
      exact ⟨y1, y2 ++ [d], k1, k2 + 1, by rw [e1, List.append_assoc], by omega, h1, .sub c d h2⟩
  | @del x y k c h ih =>
    intro x1 x2 e
    rcases snoc_eq e with ⟨rfl, rfl⟩ | ⟨z, rfl, e'⟩
    · exact ⟨_, [], _, 0, (List.append_nil _).symm, rfl, .del c h, .nil⟩
    · obtain ⟨y1, y2, k1, k2, e1, e2, h1, h2⟩ := ih x1 z e'
      exact ⟨y1, y2, k1, k2 + 1, e1, by omega, h1, .del c h2⟩
  | @ins x y k d h ih =>
    intro x1 x2 e
    obtain ⟨y1, y2, k1, k2, e1, e2, h1, h2⟩ := ih x1 x2 e
    exact ⟨y1, y2 ++ [d], k1, k2 + 1, by rw [e1, List.append_assoc], by omega, h1, .ins d h2⟩
theorem Al.tail {y : List Nat} : Al [] y y.length := by
  have h : ∀ m (y : List Nat), y.length = m → Al [] y m := by
    intro m
    induction m with
    | zero => intro y h; rw [List.length_eq_zero_iff.mp h]; exact .nil
    | succ m ih =>
      intro y h
      rcases snoc_cases y with rfl | ⟨z, d, rfl⟩
      · cases h
      · exact .ins d (ih z (by simpa using h))
  exact h _ y rfl
/-! ### the law's count of edits -/
def RowAt (S : Sto) (rx : R) (row : List Nat) : Prop := rx = .dat (.list (row.map fun n : Nat => .int (n : Nat))) ∨ ∃ k, rx = .obj k ∧ S[k]? = some (.lst (row.map nR))
theorem ix_obj {S : Sto} {k : Nat} {rs : List R} {i : Nat} {r : R} (h : S[k]? = some (.lst rs)) (hr : rs[i]? = some r) : bIx (.obj k) (.dat (.int (i : Nat))) S = .ok r S := by
  have e := at_map (f := fun r : R => r) (xs := rs) (i := (i : Int)) (by omega) (by rw [Int.toNat_natCast]; exact hr)
  rw [List.map_id'] at e
  unfold bIx
  dsimp only [lv]
  rw [h]
  dsimp only
  rw [e]
theorem RowAt.ix {S : Sto} {rx : R} {row : List Nat} (h : RowAt S rx row) (hl : row.length ≤ 1000) {i v : Nat} (hv : row[i]? = some v) : bIx rx (.dat (.int (i : Nat))) S = .ok (nR v) S := by
  rcases h with rfl | ⟨k, rfl, h⟩
  · exact ix_list hv hl S
  · exact ix_obj h (by rw [List.getElem?_map, hv]; rfl)
theorem RowAt.more {S : Sto} {rx : R} {row : List Nat} (h : RowAt S rx row) (T : Sto) : RowAt (S ++ T) rx row := by
  rcases h with h | ⟨k, e, h⟩
  · exact .inl h
  · exact .inr ⟨k, e, by rw [List.getElem?_append_left (List.getElem?_eq_some_iff.mp h).1]; exact h⟩
theorem RowAt.last {S : Sto} {rx : R} {row : List Nat} {v : Nat} (h : RowAt S rx (row ++ [v])) : bIx rx (.dat (.int (-1))) S = .ok (nR v) S := by
  rcases h with rfl | ⟨k, rfl, h⟩
  · unfold bIx
    dsimp only [lv]
    rw [map_dat, List.map_append, show List.map (fun a : Nat => R.dat (.int (a : Nat))) [v] = [nR v] from rfl, atLast]
  · unfold bIx
    dsimp only [lv]
    rw [h]
    dsimp only
    rw [List.map_append, show List.map nR [v] = [nR v] from rfl, atLast]
/-- so many edits, and no fewer -/
def Mn (x y : List Nat) (v : Nat) : Prop := Al x y v ∧ ∀ k, Al x y k → v ≤ k
theorem snoc_inj {x y : List Nat} {c d : Nat} (h : x ++ [c] = y ++ [d]) : x = y ∧ c = d := by
  obtain ⟨a, b⟩ := List.append_inj' h rfl
  exact ⟨a, (List.cons.inj b).1⟩
theorem Al.inv {a b : List Nat} {k : Nat} (h : Al a b k) {x y : List Nat} {c d : Nat} (h1 : a = x ++ [c]) (h2 : b = y ++ [d]) : (c = d ∧ Al x y k) ∨ ∃ j, k = j + 1 ∧ (Al x y j ∨ Al x (y ++ [d]) j ∨ Al (x ++ [c]) y j) := by
  cases h with
  | nil => simp at h1
  | keep e h =>
    obtain ⟨rfl, rfl⟩ := snoc_inj h1
    obtain ⟨rfl, rfl⟩ := snoc_inj h2
    exact .inl ⟨rfl, h⟩
  | sub e f h =>
    obtain ⟨rfl, rfl⟩ := snoc_inj h1
    obtain ⟨rfl, rfl⟩ := snoc_inj h2
    exact .inr ⟨_, rfl, .inl h⟩
  | del e h =>
    obtain ⟨rfl, rfl⟩ := snoc_inj h1
    subst h2
    exact .inr ⟨_, rfl, .inr (.inl h)⟩
  | ins e h =>
    obtain ⟨rfl, rfl⟩ := snoc_inj h2
    subst h1
    exact .inr ⟨_, rfl, .inr (.inr h)⟩
def RowA (x y row : List Nat) : Prop := ∀ (j v : Nat), row[j]? = some v → Mn x (y.take j) v
def edI : SM := (sExpr (eBMl gAppend (eVar 5) (aCons (eArgs gMin3 (aCons (eBin (bAdd false) (eBin bIx (eVar 5) (eVar 6)) (eC (.int 1))) (aCons (eBin (bAdd false) (eBin bIx (eVar 2) (eBin (bAdd false) (eVar 6) (eC (.int 1)))) (eC (.int 1))) (aCons (eBin (bAdd false) (eBin bIx (eVar 2) (eVar 6)) (eArgs gInt (aCons (eBin (bEq true) (eVar 4) (eVar 7)) aNil))) aNil)))) aNil)))
def edF : SM := (sFor (iArgs gEnumU (aCons (eVar 1) aNil)) (gTp 2 (gsCons (gN 6) (gsCons (gN 7) gsNil))) edI)
def edO : SM := (sCons (sSet 5 (eArgs (gLst true) (aCons (eBin (bAdd false) (eVar 3) (eC (.int 1))) aNil))) (sCons edF (sSet 2 (eVar 5))))
theorem ed_eq : b__law_edits = sCons (sSet 2 (eArgs (gLR1 false) (aCons (eBin (bAdd false) (eArgs gLen (aCons (eVar 1) aNil)) (eC (.int 1))) aNil)))
    (sCons (sFor (iArgs gEnumU (aCons (eVar 0) aNil)) (gTp 2 (gsCons (gN 3) (gsCons (gN 4) gsNil))) edO) (sRet (eBin bIx (eVar 2) (eUn uNeg (eC (.int 1)))))) := rfl
abbrev rhoE (x y : List Nat) (x2 x3 x4 x5 x6 x7 : Option R) : Rho := [some (T2 x), some (T2 y), x2, x3, x4, x5, x6, x7]
theorem en_tx (l : List Nat) (S : Sto) : gEnumU [T2 l] S = .ok ⟨(l.zipIdx 0).map fun p => R.dat (.tuple [.int (p.2 : Nat), sg p.1]), []⟩ S := by
  show Out.ok (⟨(pairsF 0 (l.map sg)).map .dat, []⟩ : Items) S = _
  rw [pairs_f]
theorem one_sg {c : Nat} (h : Sg c) : Fine [c] := fun d hd => by
  rw [List.mem_singleton.mp hd]
  exact h
theorem eq_sgs {c d : Nat} (h : Sg c) (h2 : Sg d) (S : Sto) : bEq true (.dat (sg c)) (.dat (sg d)) S = .ok (.dat (.bool (!decide (c = d)))) S := by
  have e := eq_tx true (one_sg h) (one_sg h2) S
  rw [if_pos rfl] at e
  have e2 : decide ([c] = [d]) = decide (c = d) := by
    by_cases q : c = d
    · rw [q, decide_eq_true rfl, decide_eq_true rfl]
    · rw [decide_eq_false q, decide_eq_false fun z => q (List.cons.inj z).1]
  rw [e2] at e
  exact e
theorem take_snoc {l : List Nat} {i c : Nat} (h : l[i]? = some c) : l.take (i + 1) = l.take i ++ [c] := by
  rw [List.take_add_one, h]
  rfl
section
variable {x y : List Nat}
theorem edI_ok (ly : y.length ≤ 100) {S : Sto} {rx : R} {row later : List Nat} {i j c d : Nat} (hc : x[i]? = some c) (hd : y[j]? = some d) (fc : Sg c) (fd : Sg d) (hr : RowAt S rx row) (hl : row.length = y.length + 1) (hA : RowA (x.take i) y row) (hB : RowA (x.take (i + 1)) y later) (hn : later.length = j + 1) :
    ∃ v, RowA (x.take (i + 1)) y (later ++ [v]) ∧ edI (rhoE x y (some rx) (some (nR i)) (some (.dat (sg c))) (some (.obj S.length)) (some (nR j)) (some (.dat (sg d)))) (S ++ [.lst (later.map nR)]) = .nx (rhoE x y (some rx) (some (nR i)) (some (.dat (sg c))) (some (.obj S.length)) (some (nR j)) (some (.dat (sg d)))) (S ++ [.lst ((later ++ [v]).map nR)]) := by
  have hj := (List.getElem?_eq_some_iff.mp hd).1
  obtain ⟨u, hu⟩ : ∃ u, later[j]? = some u := ⟨_, List.getElem?_eq_getElem (by omega)⟩
  obtain ⟨v, hv⟩ : ∃ v, row[j + 1]? = some v := ⟨_, List.getElem?_eq_getElem (by omega)⟩
  obtain ⟨w, hw⟩ : ∃ w, row[j]? = some w := ⟨_, List.getElem?_eq_getElem (by omega)⟩
  have au := hB j u hu
  have av := hA _ v hv
  have aw := hA _ w hw
  have hcell : (S ++ [.lst (later.map nR)])[S.length]? = some (.lst (later.map nR)) := by rw [List.getElem?_append_right (Nat.le_refl _), Nat.sub_self]; rfl
  have i1 : bIx (.obj S.length) (.dat (.int (j : Nat))) (S ++ [.lst (later.map nR)]) = .ok (nR u) (S ++ [.lst (later.map nR)]) := ix_obj hcell (by rw [List.getElem?_map, hu]; rfl)
  have hr' := hr.more [.lst (later.map nR)]
  have i2 := hr'.ix (by omega) hv
  have i3 := hr'.ix (by omega) hw
  have eq := eq_sgs fc fd (S ++ [.lst (later.map nR)])
  have gi : gInt [.dat (.bool (!decide (c = d)))] (S ++ [.lst (later.map nR)]) = .ok (nR (if c = d then 0 else 1)) (S ++ [.lst (later.map nR)]) := by
    by_cases q : c = d
    · rw [if_pos q, decide_eq_true q]; rfl
    · rw [if_neg q, decide_eq_false q]; rfl
  have mn : gMin3 [nR (u + 1), nR (v + 1), nR (w + if c = d then 0 else 1)] (S ++ [.lst (later.map nR)]) = .ok (nR (min (min (u + 1) (v + 1)) (w + if c = d then 0 else 1))) (S ++ [.lst (later.map nR)]) := by
    show Out.ok (R.dat (.int (min (min ((u + 1 : Nat) : Int) ((v + 1 : Nat) : Int)) ((w + if c = d then 0 else 1 : Nat) : Int)))) _ = _
    congr 3
    omega
  have e1 : (eArgs gMin3 (aCons (eBin (bAdd false) (eBin bIx (eVar 5) (eVar 6)) (eC (.int 1))) (aCons (eBin (bAdd false) (eBin bIx (eVar 2) (eBin (bAdd false) (eVar 6) (eC (.int 1)))) (eC (.int 1))) (aCons (eBin (bAdd false) (eBin bIx (eVar 2) (eVar 6)) (eArgs gInt (aCons (eBin (bEq true) (eVar 4) (eVar 7)) aNil))) aNil)))) (rhoE x y (some rx) (some (nR i)) (some (.dat (sg c))) (some (.obj S.length)) (some (nR j)) (some (.dat (sg d)))) (S ++ [.lst (later.map nR)]) = .ok (nR (min (min (u + 1) (v + 1)) (w + if c = d then 0 else 1))) (S ++ [.lst (later.map nR)]) := by
    unfold rhoE nR T2 at *
    rcases hr with q | ⟨k0, q, _⟩ <;> subst q <;> simp only [Pev.fnB, Pev.OutS.toF, Pev.sCons, Pev.sSet, Pev.sRet, Pev.sRetN, Pev.sIf, Pev.sSkip, Pev.sExpr, Pev.sTgt, Pev.sFor, Pev.sRaise, Pev.sPut, Pev.sAugS, Pev.sPar2, Pev.sPar3, Pev.OutS.fade, Pev.OutS.calm, Pev.Out.toS, Pev.Out.bind, Pev.noX, Pev.eVar, Pev.eC, Pev.eBin, Pev.eUn, Pev.eArgs, Pev.aCons, Pev.aNil, Pev.needN, Pev.eAnd, Pev.eOr, Pev.eNot, Pev.eIf, Pev.mAnd, Pev.mOr, Pev.mNot, Pev.mB, Pev.mT, Pev.eChain, Pev.truth, Pev.ofT, Pev.ofB, Pev.R.d?, Pev.eLc, Pev.iOf, Pev.iArgs, Pev.gN, Pev.gTp, Pev.gsCons, Pev.gsNil, Pev.tv, Pev.eBMl, Pev.eFld, Pev.tYes', Pev.wipeR, Pev.permL, List.map_cons, List.map_nil, List.length_cons, List.length_nil, List.cons_append, List.nil_append, List.append_nil, List.replicate, List.getElem?_cons_zero, List.getElem?_cons_succ, List.getElem?_nil, List.set_cons_zero, List.set_cons_succ, List.set_nil, List.filterMap_cons, List.filterMap_nil, Option.map_some, Option.map_none, Option.bind_some, Option.bind_none, if_true, if_false, Bool.not_true, Bool.not_false, Nat.reduceSub, Nat.reduceAdd, Nat.reduceEqDiff, Nat.reduceLeDiff, reduceIte, ite_true, ite_false, Bool.true_eq_false, Bool.false_eq_true, ↓reduceIte, Nat.zero_add, Nat.add_zero, Nat.sub_zero, id_eq, Bool.or_false, Bool.or_true, Bool.true_or, Bool.false_or, Bool.and_true, Bool.true_and, Bool.and_false, Bool.false_and, Bool.and_self, Bool.or_self, i1, add_n1, i2, i3, eq, gi, add_nn, mn]
  have ap := appO (S := S ++ [.lst (later.map nR)]) (k := S.length) (rs := later.map nR) (mo := eVar 5) (ρ := rhoE x y (some rx) (some (nR i)) (some (.dat (sg c))) (some (.obj S.length)) (some (nR j)) (some (.dat (sg d)))) rfl hcell e1 (by rw [List.length_map]; omega)
  refine ⟨min (min (u + 1) (v + 1)) (w + if c = d then 0 else 1), fun t r ht => ?_, ?_⟩
  rotate_left
  · unfold edI
    rw [ap, List.set_append_right _ _ (Nat.le_refl _), Nat.sub_self, List.map_append]
    rfl
  · rw [List.getElem?_append] at ht
    split at ht
    · exact hB t r ht
    · rename_i hh
      have hz : t - later.length = 0 := by
        have := (List.getElem?_eq_some_iff.mp ht).1
        simp at this
        omega
      rw [hz] at ht
      have hr := Option.some.inj ht
      rw [← hr, show t = j + 1 by omega, take_snoc hc, take_snoc hd]
      rw [take_snoc hc] at au
      rw [take_snoc hd] at av
      obtain ⟨au, mu⟩ := au
      obtain ⟨av, mv⟩ := av
      obtain ⟨aw, mw⟩ := aw
      have q1 : Al (x.take i ++ [c]) (y.take j ++ [d]) (u + 1) := .ins d au
      have q2 : Al (x.take i ++ [c]) (y.take j ++ [d]) (v + 1) := .del c av
      have q3 : Al (x.take i ++ [c]) (y.take j ++ [d]) (w + if c = d then 0 else 1) := by
        split
        · rename_i q
          rw [q]
          exact .keep d aw
        · exact .sub c d aw
      have q : min (min (u + 1) (v + 1)) (w + if c = d then 0 else 1) = u + 1 ∨ min (min (u + 1) (v + 1)) (w + if c = d then 0 else 1) = v + 1 ∨ min (min (u + 1) (v + 1)) (w + if c = d then 0 else 1) = w + if c = d then 0 else 1 := by omega
      refine ⟨?_, fun k hk => ?_⟩
      · rcases q with q | q | q
        · rw [q]; exact q1
        · rw [q]; exact q2
        · rw [q]; exact q3
      · rcases hk.inv rfl rfl with ⟨e, hk⟩ | ⟨m, rfl, hk | hk | hk⟩
        · have := mw _ hk
          rw [if_pos e]
          omega
        · have := mw _ hk
          split <;> omega
        · have := mv _ hk
          omega
        · have := mu _ hk
          omega
theorem edF_ok (hy : Fine y) (ly : y.length ≤ 100) {S : Sto} {rx : R} {row : List Nat} {i c : Nat} {x6 x7 : Option R} (hc : x[i]? = some c) (fc : Sg c) (hr : RowAt S rx row) (hl : row.length = y.length + 1) (hA : RowA (x.take i) y row) (hB : RowA (x.take (i + 1)) y [i + 1]) :
    ∃ later x6' x7', RowA (x.take (i + 1)) y later ∧ later.length = y.length + 1 ∧ edF (rhoE x y (some rx) (some (nR i)) (some (.dat (sg c))) (some (.obj S.length)) x6 x7) (S ++ [.lst [nR (i + 1)]]) = .nx (rhoE x y (some rx) (some (nR i)) (some (.dat (sg c))) (some (.obj S.length)) x6' x7') (S ++ [.lst (later.map nR)]) := by
  obtain ⟨ρ', S', e, x6', x7', later, rfl, rfl, h1, h2⟩ := for_nx (keep := []) (g := (gTp 2 (gsCons (gN 6) (gsCons (gN 7) gsNil)))) (b := edI) (fun j ρ S' => ∃ x6 x7 later, ρ = rhoE x y (some rx) (some (nR i)) (some (.dat (sg c))) (some (.obj S.length)) x6 x7 ∧ S' = S ++ [.lst (later.map nR)] ∧ RowA (x.take (i + 1)) y later ∧ later.length = j + 1) ((y.zipIdx 0).map fun p => R.dat (.tuple [.int (p.2 : Nat), sg p.1])) (ρ := rhoE x y (some rx) (some (nR i)) (some (.dat (sg c))) (some (.obj S.length)) x6 x7) (S := S ++ [.lst [nR (i + 1)]]) ⟨x6, x7, [i + 1], rfl, rfl, hB, rfl⟩ (fun _ _ _ _ _ => stands_nil) (by
    rintro j q ρ S' hq ⟨x6, x7, later, rfl, rfl, h1, h2⟩
    rw [List.getElem?_map] at hq
    obtain ⟨⟨d, j'⟩, hz, rfl⟩ := Option.map_eq_some_iff.mp hq
    rw [List.getElem?_zipIdx] at hz
    obtain ⟨d', hd, e⟩ := Option.map_eq_some_iff.mp hz
    have e1 : d' = d := (Prod.mk.inj e).1
    have e2 : j = j' := by have := (Prod.mk.inj e).2; omega
    subst e1; subst e2
    obtain ⟨v, v1, v2⟩ := edI_ok ly hc hd fc (hy _ (List.mem_of_getElem? hd)) hr hl hA h1 h2
    exact ⟨_, rfl, _, _, v2, _, _, _, rfl, rfl, v1, by rw [List.length_append, h2]; rfl⟩)
  rw [List.length_map, List.length_zipIdx] at h2
  refine ⟨later, x6', x7', h1, h2, ?_⟩
  have en := en_tx y (S ++ [.lst [nR (i + 1)]])
  unfold edF sFor
  rw [show iArgs gEnumU (aCons (eVar 1) aNil) (rhoE x y (some rx) (some (nR i)) (some (.dat (sg c))) (some (.obj S.length)) x6 x7) (S ++ [.lst [nR (i + 1)]]) = _ from en]
  exact e
theorem edits_ok (hx : Fine x) (hy : Fine y) (lx : x.length ≤ 100) (ly : y.length ≤ 100) : ∃ v, Mn x y v ∧ Gv m__law_edits [.str (tx x), .str (tx y)] (.int (v : Nat)) := by
  have e1 : (sSet 2 (eArgs (gLR1 false) (aCons (eBin (bAdd false) (eArgs gLen (aCons (eVar 1) aNil)) (eC (.int 1))) aNil))) (rhoE x y none none none none none none) [] = .nx (rhoE x y (some (.dat (.list ((List.range (y.length + 1)).map fun n : Nat => .int (n : Nat))))) none none none none none) [] := by
    have gl := len_tx (l := y) (by omega) []
    have rg : gLR1 false [.dat (.int ((y.length + 1 : Nat) : Int))] [] = .ok (.dat (.list ((List.range (y.length + 1)).map fun n : Nat => .int (n : Nat)))) [] := by
      have i0 := inR_small (n := y.length + 1) (by omega)
      have i1 : inR 0 = true := rfl
      have nl := newL_f (fun n : Nat => PyData.int (n : Nat)) (List.range (y.length + 1)) []
      have i2 : decide (((y.length + 1 : Nat) : Int).toNat ≤ 16777216) = true := decide_eq_true (by omega)
      unfold gLR1 rgL
      simp only [i0, i1, i2, Bool.and_self, if_true, Int.sub_zero, rangeR_0, nl]
    unfold rhoE T2
    simp only [Pev.fnB, Pev.OutS.toF, Pev.sCons, Pev.sSet, Pev.sRet, Pev.sRetN, Pev.sIf, Pev.sSkip, Pev.sExpr, Pev.sTgt, Pev.sFor, Pev.sRaise, Pev.sPut, Pev.sAugS, Pev.sPar2, Pev.sPar3, Pev.OutS.fade, Pev.OutS.calm, Pev.Out.toS, Pev.Out.bind, Pev.noX, Pev.eVar, Pev.eC, Pev.eBin, Pev.eUn, Pev.eArgs, Pev.aCons, Pev.aNil, Pev.needN, Pev.eAnd, Pev.eOr, Pev.eNot, Pev.eIf, Pev.mAnd, Pev.mOr, Pev.mNot, Pev.mB, Pev.mT, Pev.eChain, Pev.truth, Pev.ofT, Pev.ofB, Pev.R.d?, Pev.eLc, Pev.iOf, Pev.iArgs, Pev.gN, Pev.gTp, Pev.gsCons, Pev.gsNil, Pev.tv, Pev.eBMl, Pev.eFld, Pev.tYes', Pev.wipeR, Pev.permL, List.map_cons, List.map_nil, List.length_cons, List.length_nil, List.cons_append, List.nil_append, List.append_nil, List.replicate, List.getElem?_cons_zero, List.getElem?_cons_succ, List.getElem?_nil, List.set_cons_zero, List.set_cons_succ, List.set_nil, List.filterMap_cons, List.filterMap_nil, Option.map_some, Option.map_none, Option.bind_some, Option.bind_none, if_true, if_false, Bool.not_true, Bool.not_false, Nat.reduceSub, Nat.reduceAdd, Nat.reduceEqDiff, Nat.reduceLeDiff, reduceIte, ite_true, ite_false, Bool.true_eq_false, Bool.false_eq_true, ↓reduceIte, Nat.zero_add, Nat.add_zero, Nat.sub_zero, id_eq, Bool.or_false, Bool.or_true, Bool.true_or, Bool.false_or, Bool.and_true, Bool.true_and, Bool.and_false, Bool.false_and, Bool.and_self, Bool.or_self, gl, add_n1, rg]
  obtain ⟨ρ', S', e, rx, row, x3, x4, x5, x6, x7, rfl, h1, h2, h3⟩ := for_nx (keep := []) (g := (gTp 2 (gsCons (gN 3) (gsCons (gN 4) gsNil)))) (b := edO) (fun i ρ S => ∃ rx row x3 x4 x5 x6 x7, ρ = rhoE x y (some rx) x3 x4 x5 x6 x7 ∧ RowAt S rx row ∧ row.length = y.length + 1 ∧ RowA (x.take i) y row) ((x.zipIdx 0).map fun p => R.dat (.tuple [.int (p.2 : Nat), sg p.1])) (ρ := rhoE x y (some (.dat (.list ((List.range (y.length + 1)).map fun n : Nat => .int (n : Nat))))) none none none none none) (S := []) ⟨_, List.range (y.length + 1), none, none, none, none, none, rfl, .inl rfl, List.length_range, fun j v hv => by
      have hj := (List.getElem?_eq_some_iff.mp hv).1
      rw [List.length_range] at hj
      rw [List.getElem?_range hj] at hv
      rw [← Option.some.inj hv, List.take_zero]
      have := Al.tail (y := y.take j)
      rw [List.length_take, Nat.min_eq_left (by omega)] at this
      refine ⟨this, fun k hk => ?_⟩
      have := hk.len.2
      rw [List.length_take, Nat.min_eq_left (by omega)] at this
      simpa using this⟩ (fun _ _ _ _ _ => stands_nil) (by
    rintro i q ρ S hq ⟨rx, row, x3, x4, x5, x6, x7, rfl, h1, h2, h3⟩
    rw [List.getElem?_map] at hq
    obtain ⟨⟨c, i'⟩, hz, rfl⟩ := Option.map_eq_some_iff.mp hq
    rw [List.getElem?_zipIdx] at hz
    obtain ⟨c', hc, e⟩ := Option.map_eq_some_iff.mp hz
    have e1 : c' = c := (Prod.mk.inj e).1
    have e2 : i = i' := by have := (Prod.mk.inj e).2; omega
    subst e1; subst e2
    have hi := (List.getElem?_eq_some_iff.mp hc).1
    obtain ⟨later, x6', x7', l1, l2, l3⟩ := edF_ok (x6 := x6) (x7 := x7) hy ly hc (hx _ (List.mem_of_getElem? hc)) h1 h2 h3 (by
      intro j v hv
      cases j with
      | zero =>
        rw [← Option.some.inj hv, List.take_zero]
        have := (Al.tail (y := x.take (i + 1))).sym
        rw [List.length_take, Nat.min_eq_left (by omega)] at this
        refine ⟨this, fun k hk => ?_⟩
        have := hk.len.1
        rw [List.length_take, Nat.min_eq_left (by omega)] at this
        simpa using this
      | succ j => simp at hv)
    have s1 : sSet 5 (eArgs (gLst true) (aCons (eBin (bAdd false) (eVar 3) (eC (.int 1))) aNil)) (rhoE x y (some rx) (some (nR i)) (some (.dat (sg c'))) x5 x6 x7) S = .nx (rhoE x y (some rx) (some (nR i)) (some (.dat (sg c'))) (some (.obj S.length)) x6 x7) (S ++ [.lst [nR (i + 1)]]) := rfl
    refine ⟨_, rfl, _, _, ((cons_nx s1).trans (cons_nx l3)).trans rfl, .obj S.length, later, _, _, _, _, _, rfl, .inr ⟨_, rfl, by rw [List.getElem?_append_right (Nat.le_refl _), Nat.sub_self]; rfl⟩, l2, l1⟩)
  rw [List.length_map, List.length_zipIdx, List.take_length] at h3
  obtain ⟨z, v, rfl⟩ : ∃ z v, row = z ++ [v] := by
    rcases snoc_cases row with rfl | h
    · cases h2
    · exact h
  have hz : z.length = y.length := by simpa using h2
  refine ⟨v, ?_, ?_⟩
  · have := h3 y.length v (by rw [← hz, List.getElem?_append_right (Nat.le_refl _), Nat.sub_self]; rfl)
    rwa [List.take_length] at this
  · have e2 : (sFor (iArgs gEnumU (aCons (eVar 0) aNil)) (gTp 2 (gsCons (gN 3) (gsCons (gN 4) gsNil))) edO) (rhoE x y (some (.dat (.list ((List.range (y.length + 1)).map fun n : Nat => .int (n : Nat))))) none none none none none) [] = .nx (rhoE x y (some rx) x3 x4 x5 x6 x7) S' := by
      have en := en_tx x []
      unfold sFor
      rw [show iArgs gEnumU (aCons (eVar 0) aNil) (rhoE x y (some (.dat (.list ((List.range (y.length + 1)).map fun n : Nat => .int (n : Nat))))) none none none none none) [] = _ from en]
      exact e
    have la := h1.last
    show outD (OutS.toF (b__law_edits (rhoE x y none none none none none none) [])) = _
    rw [ed_eq, cons_nx e1, cons_nx e2]
    have un : uNeg (.dat (.int 1)) S' = .ok (.dat (.int (-1))) S' := rfl
    unfold rhoE
    rcases h1 with q | ⟨k0, q, _⟩ <;> subst q <;> simp only [Pev.fnB, Pev.OutS.toF, Pev.sCons, Pev.sSet, Pev.sRet, Pev.sRetN, Pev.sIf, Pev.sSkip, Pev.sExpr, Pev.sTgt, Pev.sFor, Pev.sRaise, Pev.sPut, Pev.sAugS, Pev.sPar2, Pev.sPar3, Pev.OutS.fade, Pev.OutS.calm, Pev.Out.toS, Pev.Out.bind, Pev.noX, Pev.eVar, Pev.eC, Pev.eBin, Pev.eUn, Pev.eArgs, Pev.aCons, Pev.aNil, Pev.needN, Pev.eAnd, Pev.eOr, Pev.eNot, Pev.eIf, Pev.mAnd, Pev.mOr, Pev.mNot, Pev.mB, Pev.mT, Pev.eChain, Pev.truth, Pev.ofT, Pev.ofB, Pev.R.d?, Pev.eLc, Pev.iOf, Pev.iArgs, Pev.gN, Pev.gTp, Pev.gsCons, Pev.gsNil, Pev.tv, Pev.eBMl, Pev.eFld, Pev.tYes', Pev.wipeR, Pev.permL, List.map_cons, List.map_nil, List.length_cons, List.length_nil, List.cons_append, List.nil_append, List.append_nil, List.replicate, List.getElem?_cons_zero, List.getElem?_cons_succ, List.getElem?_nil, List.set_cons_zero, List.set_cons_succ, List.set_nil, List.filterMap_cons, List.filterMap_nil, Option.map_some, Option.map_none, Option.bind_some, Option.bind_none, if_true, if_false, Bool.not_true, Bool.not_false, Nat.reduceSub, Nat.reduceAdd, Nat.reduceEqDiff, Nat.reduceLeDiff, reduceIte, ite_true, ite_false, Bool.true_eq_false, Bool.false_eq_true, ↓reduceIte, Nat.zero_add, Nat.add_zero, Nat.sub_zero, id_eq, Bool.or_false, Bool.or_true, Bool.true_or, Bool.false_or, Bool.and_true, Bool.true_and, Bool.and_false, Bool.false_and, Bool.and_self, Bool.or_self, un, la, outD_dat]
end
end Lw
namespace Lw
open PySem Pev
open L2 (atI ixN cutS)
/-! ### draws -/
def Tk (k : Nat) (S : Sto) : Prop := ∃ a b c, S[k]? = some (three a b c)
/-- only one cell may have changed -/
def Ot (k : Nat) (S S' : Sto) : Prop := S'.length = S.length ∧ ∀ i, i ≠ k → S'[i]? = S[i]?
theorem Ot.set (k : Nat) (S : Sto) (c : Cell) : Ot k S (S.set k c) := ⟨List.length_set, fun i hi => List.getElem?_set_ne (Ne.symm hi)⟩
theorem Tk.set {k : Nat} {S : Sto} (h : Tk k S) (a b c : Int) : Tk k (S.set k (three a b c)) := by
  obtain ⟨_, _, _, h⟩ := h
  exact ⟨a, b, c, set_at (List.getElem?_eq_some_iff.mp h).1⟩
theorem Tk.ne {k j : Nat} {S : Sto} (h : Tk k S) (c : Cell) (hj : j ≠ k) : Tk k (S.set j c) := by
  obtain ⟨x, y, z, h⟩ := h
  exact ⟨x, y, z, by rw [List.getElem?_set_ne hj]; exact h⟩
theorem Tk.more {k : Nat} {S : Sto} (h : Tk k S) (T : Sto) : Tk k (S ++ T) := by
  obtain ⟨a, b, c, h⟩ := h
  exact ⟨a, b, c, by rw [List.getElem?_append_left (List.getElem?_eq_some_iff.mp h).1]; exact h⟩
theorem Tk.lt {k : Nat} {S : Sto} (h : Tk k S) : k < S.length := by
  obtain ⟨a, b, c, h⟩ := h
  exact (List.getElem?_eq_some_iff.mp h).1
theorem draw {S : Sto} {k : Nat} (h : Tk k S) (many : Nat) (h0 : 0 < many) (hb : many < 1000000) : ∃ (x : Nat) (S' : Sto), x < many ∧ Tk k S' ∧ Ot k S S' ∧ m__law_take [.obj k, .dat (.int (many : Nat))] S = .ok (nR x) S' := by
  obtain ⟨a, b, c, hS⟩ := h
  obtain ⟨x, a', b', c', h1, h2, h3⟩ := take_ok (p := 90007) (q := 58217) (r := 43) (s := 40289) (t := 27367) rfl rfl rfl hS (many := (many : Int)) (by omega) (by omega)
  obtain ⟨n, rfl⟩ : ∃ n : Nat, x = (n : Int) := ⟨x.toNat, by omega⟩
  exact ⟨n, _, by omega, Tk.set ⟨a, b, c, hS⟩ a' b' c', Ot.set _ _ _, h3⟩
theorem pick {S : Sto} {k : Nat} (h : Tk k S) {ds : List PyData} (h0 : 0 < ds.length) (hb : ds.length < 1000000) : ∃ (d : PyData) (S' : Sto), d ∈ ds ∧ Tk k S' ∧ m__law_pick [.obj k, .dat (.list ds)] S = .ok (.dat d) S' := by
  obtain ⟨a, b, c, hS⟩ := h
  obtain ⟨d, a', b', c', h1, h2⟩ := pick_ok (p := 90007) (q := 58217) (r := 43) (s := 40289) (t := 27367) rfl rfl rfl hS h0 hb
  exact ⟨d, _, h1, Tk.set ⟨a, b, c, hS⟩ a' b' c', h2⟩
theorem newbox {ns : List Int} {j : Nat} {S : Sto} (hk : j < 100) (hl : ns.length ≤ 63) : ∃ S', Tk S.length S' ∧ m__law_box [.ro (ns.map .int), nR j] S = .ok (.obj S.length) S' := by
  obtain ⟨x, y, e⟩ := box_ok (a := 6247) (b := 733) (m := 30011) (c := 38377) (d := 71129) rfl rfl rfl rfl (S := S) hk hl
  exact ⟨_, ⟨x, y, 0, by rw [List.getElem?_append_right (Nat.le_refl _), Nat.sub_self]; rfl⟩, e⟩
/-! ### things mixed -/
theorem appO2 {S S2 : Sto} {k : Nat} {rs0 rs : List R} {mo me : EM} {ρ : Rho} {y : R} (ho : mo ρ S = .ok (.obj k) S) (hk : S[k]? = some (.lst rs0)) (hy : me ρ S = .ok y S2) (hk2 : S2[k]? = some (.lst rs)) (hl : rs.length < 10000) : sExpr (eBMl gAppend mo (aCons me aNil)) ρ S = .nx ρ (S2.set k (.lst (rs ++ [y]))) := by
  have sz := sz_lt (show rs.length ≤ 10000 by omega)
  have l0 : lv S (.obj k) = some rs0 := by
    unfold lv
    dsimp only
    rw [hk]
  show ((eBMl gAppend mo (aCons me aNil)) ρ S).toS ρ _ = _
  unfold eBMl
  rw [ho]
  show ((match lv S (.obj k) with
    | some _ => ((aCons me aNil) ρ S).bind fun xs S2 => gAppend (.obj k) xs S2
    | none => .stuck) : Out R).toS ρ _ = _
  rw [l0]
  have a1 : (aCons me aNil) ρ S = .ok [y] S2 := by
    unfold aCons
    rw [hy]
    rfl
  dsimp only
  rw [a1]
  show (gAppend (.obj k) [y] S2).toS ρ _ = _
  unfold gAppend Pev.cellOf
  dsimp only
  rw [hk2]
  dsimp only
  rw [if_pos (of_eq_true sz)]
  rfl
def mxP : EM := (eBMl gPopI (eVar 2) (aCons (eArgs (needN 2 m__law_take) (aCons (eVar 0) (aCons (eArgs gLen (aCons (eVar 2) aNil)) aNil))) aNil))
def mxB : SM := (sExpr (eBMl gAppend (eVar 3) (aCons mxP aNil)))
theorem mixed_eq : b__law_mixed = (sCons (sPar2 2 3 (aCons (eArgs (gListU true) (aCons (eVar 1) aNil)) (aCons (eArgs (gLst true) aNil) aNil)))
    (sCons (sFor (iArgs gRange1 (aCons (eArgs gLen (aCons (eVar 1) aNil)) aNil)) (gN 4) mxB) (sRet (eVar 3)))) := rfl
theorem erase_perm {α : Type} {l : List α} {i : Nat} (h : i < l.length) : (l[i] :: l.eraseIdx i).Perm l := by
  induction l generalizing i with
  | nil => simp at h
  | cons a l ih =>
    cases i with
    | zero => exact List.Perm.refl _
    | succ i =>
      rw [List.eraseIdx_cons_succ]
      exact (List.Perm.swap _ _ _).trans (List.Perm.cons a (ih (by simpa using h)))
theorem mixed_ok {α : Type} (f : α → PyData) (xs : List α) (hl : xs.length ≤ 100) {arg : PyData} (hlen : ∀ S, gLen [.dat arg] S = .ok (nR xs.length) S) (hlist : ∀ S, gListU true [.dat arg] S = .ok (.obj S.length) (S ++ [.lst (xs.map fun a => R.dat (f a))])) {S : Sto} {k : Nat} (h : Tk k S) :
    ∃ (ys : List α) (S' : Sto), ys.Perm xs ∧ Tk k S' ∧ S'[S.length + 1]? = some (.lst (ys.map fun a => R.dat (f a))) ∧ m__law_mixed [.obj k, .dat arg] S = .ok (.obj (S.length + 1)) S' := by
  have hk := h.lt
  have e1 : (sPar2 2 3 (aCons (eArgs (gListU true) (aCons (eVar 1) aNil)) (aCons (eArgs (gLst true) aNil) aNil))) [some (.obj k), some (.dat arg), none, none, none] S = .nx [some (.obj k), some (.dat arg), some (.obj S.length), some (.obj (S.length + 1)), none] (S ++ [.lst (xs.map fun a => R.dat (f a))] ++ [.lst []]) := by
    have hg := hlist S
    have g2 : gLst true [] (S ++ [.lst (xs.map fun a => R.dat (f a))]) = .ok (.obj (S.length + 1)) (S ++ [.lst (xs.map fun a => R.dat (f a))] ++ [.lst []]) := by
      show Out.ok (R.obj (S ++ [Cell.lst (xs.map fun a => R.dat (f a))]).length) _ = _
      rw [List.length_append]
      rfl
    simp only [Pev.fnB, Pev.OutS.toF, Pev.sCons, Pev.sSet, Pev.sRet, Pev.sRetN, Pev.sIf, Pev.sSkip, Pev.sExpr, Pev.sTgt, Pev.sFor, Pev.sRaise, Pev.sPut, Pev.sAugS, Pev.sPar2, Pev.sPar3, Pev.OutS.fade, Pev.OutS.calm, Pev.Out.toS, Pev.Out.bind, Pev.noX, Pev.eVar, Pev.eC, Pev.eBin, Pev.eUn, Pev.eArgs, Pev.aCons, Pev.aNil, Pev.needN, Pev.eAnd, Pev.eOr, Pev.eNot, Pev.eIf, Pev.mAnd, Pev.mOr, Pev.mNot, Pev.mB, Pev.mT, Pev.eChain, Pev.truth, Pev.ofT, Pev.ofB, Pev.R.d?, Pev.eLc, Pev.iOf, Pev.iArgs, Pev.gN, Pev.gTp, Pev.gsCons, Pev.gsNil, Pev.tv, Pev.eBMl, Pev.eFld, Pev.tYes', Pev.wipeR, Pev.permL, List.map_cons, List.map_nil, List.length_cons, List.length_nil, List.cons_append, List.nil_append, List.append_nil, List.replicate, List.getElem?_cons_zero, List.getElem?_cons_succ, List.getElem?_nil, List.set_cons_zero, List.set_cons_succ, List.set_nil, List.filterMap_cons, List.filterMap_nil, Option.map_some, Option.map_none, Option.bind_some, Option.bind_none, if_true, if_false, Bool.not_true, Bool.not_false, Nat.reduceSub, Nat.reduceAdd, Nat.reduceEqDiff, Nat.reduceLeDiff, reduceIte, ite_true, ite_false, Bool.true_eq_false, Bool.false_eq_true, ↓reduceIte, Nat.zero_add, Nat.add_zero, Nat.sub_zero, id_eq, Bool.or_false, Bool.or_true, Bool.true_or, Bool.false_or, Bool.and_true, Bool.true_and, Bool.and_false, Bool.false_and, Bool.and_self, Bool.or_self, hg, g2]
  have c1 : (S ++ [.lst (xs.map fun a => R.dat (f a))] ++ [.lst []])[S.length]? = some (.lst (xs.map fun a => R.dat (f a))) := by
    rw [List.append_assoc, List.getElem?_append_right (Nat.le_refl _), Nat.sub_self]; rfl
  have c2 : (S ++ [.lst (xs.map fun a => R.dat (f a))] ++ [.lst []])[S.length + 1]? = some (.lst []) := by
    rw [List.append_assoc, List.getElem?_append_right (by omega), show S.length + 1 - S.length = 1 by omega]; rfl
  obtain ⟨ρ', S', e, left, row, x4, rfl, t1, t2, t3, t4, t5⟩ := for_nx (keep := []) (g := gN 4) (b := mxB) (fun i ρ S' => ∃ (left row : List α) (x4 : Option R), ρ = [some (.obj k), some (.dat arg), some (.obj S.length), some (.obj (S.length + 1)), x4] ∧ Tk k S' ∧ S'[S.length]? = some (.lst (left.map fun a => R.dat (f a))) ∧ S'[S.length + 1]? = some (.lst (row.map fun a => R.dat (f a))) ∧ (row ++ left).Perm xs ∧ row.length = i) ((List.range xs.length).map fun j : Nat => R.dat (.int (j : Nat)))
    (ρ := [some (.obj k), some (.dat arg), some (.obj S.length), some (.obj (S.length + 1)), none]) (S := S ++ [.lst (xs.map fun a => R.dat (f a))] ++ [.lst []]) ⟨xs, [], none, rfl, (h.more _).more _, c1, c2, List.Perm.refl _, rfl⟩ (fun _ _ _ _ _ => stands_nil) (by
    rintro i q ρ S1 hq ⟨left, row, x4, rfl, t1, t2, t3, t4, t5⟩
    have hi := (List.getElem?_eq_some_iff.mp hq).1
    rw [List.length_map, List.length_range] at hi
    rw [List.getElem?_map, List.getElem?_range hi] at hq
    have := Option.some.inj hq
    subst this
    have pl := t4.length_eq
    rw [List.length_append] at pl
    obtain ⟨x, S2, d1, d2, d3, d4⟩ := draw t1 left.length (by omega) (by omega)
    have gl : gLen [.obj S.length] S1 = .ok (nR left.length) S1 := by
      have := lenO t2 (by rw [List.length_map]; omega)
      rwa [List.length_map] at this
    have k2 : S2[S.length]? = some (.lst (left.map fun a => R.dat (f a))) := by rw [d3.2 _ (by omega)]; exact t2
    have k3 : S2[S.length + 1]? = some (.lst (row.map fun a => R.dat (f a))) := by rw [d3.2 _ (by omega)]; exact t3
    have pp := popI_ok k2 (show (left.map fun a => R.dat (f a))[x]? = some (R.dat (f left[x])) by rw [List.getElem?_map, List.getElem?_eq_getElem d1]; rfl) (by rw [List.length_map]; omega)
    have em : (left.map fun a => R.dat (f a)).eraseIdx x = (left.eraseIdx x).map fun a => R.dat (f a) := by
      rw [List.eraseIdx_eq_take_drop_succ, ← List.map_take, ← List.map_drop, ← List.map_append, ← List.eraseIdx_eq_take_drop_succ]
    rw [em] at pp
    have l0 : lv S1 (.obj S.length) = some (left.map fun a => R.dat (f a)) := by
      unfold lv
      dsimp only
      rw [t2]
    have hy : mxP [some (.obj k), some (.dat arg), some (.obj S.length), some (.obj (S.length + 1)), some (nR i)] S1 = .ok (.dat (f left[x])) (S2.set S.length (.lst ((left.eraseIdx x).map fun a => R.dat (f a)))) := by
      unfold mxP
      unfold nR at *
      simp only [Pev.fnB, Pev.OutS.toF, Pev.sCons, Pev.sSet, Pev.sRet, Pev.sRetN, Pev.sIf, Pev.sSkip, Pev.sExpr, Pev.sTgt, Pev.sFor, Pev.sRaise, Pev.sPut, Pev.sAugS, Pev.sPar2, Pev.sPar3, Pev.OutS.fade, Pev.OutS.calm, Pev.Out.toS, Pev.Out.bind, Pev.noX, Pev.eVar, Pev.eC, Pev.eBin, Pev.eUn, Pev.eArgs, Pev.aCons, Pev.aNil, Pev.needN, Pev.eAnd, Pev.eOr, Pev.eNot, Pev.eIf, Pev.mAnd, Pev.mOr, Pev.mNot, Pev.mB, Pev.mT, Pev.eChain, Pev.truth, Pev.ofT, Pev.ofB, Pev.R.d?, Pev.eLc, Pev.iOf, Pev.iArgs, Pev.gN, Pev.gTp, Pev.gsCons, Pev.gsNil, Pev.tv, Pev.eBMl, Pev.eFld, Pev.tYes', Pev.wipeR, Pev.permL, List.map_cons, List.map_nil, List.length_cons, List.length_nil, List.cons_append, List.nil_append, List.append_nil, List.replicate, List.getElem?_cons_zero, List.getElem?_cons_succ, List.getElem?_nil, List.set_cons_zero, List.set_cons_succ, List.set_nil, List.filterMap_cons, List.filterMap_nil, Option.map_some, Option.map_none, Option.bind_some, Option.bind_none, if_true, if_false, Bool.not_true, Bool.not_false, Nat.reduceSub, Nat.reduceAdd, Nat.reduceEqDiff, Nat.reduceLeDiff, reduceIte, ite_true, ite_false, Bool.true_eq_false, Bool.false_eq_true, ↓reduceIte, Nat.zero_add, Nat.add_zero, Nat.sub_zero, id_eq, Bool.or_false, Bool.or_true, Bool.true_or, Bool.false_or, Bool.and_true, Bool.true_and, Bool.and_false, Bool.false_and, Bool.and_self, Bool.or_self, l0, gl, d4, pp]
    have hk2 : (S2.set S.length (.lst ((left.eraseIdx x).map fun a => R.dat (f a))))[S.length + 1]? = some (.lst (row.map fun a => R.dat (f a))) := by
      rw [List.getElem?_set_ne (by omega)]; exact k3
    have ap := appO2 (mo := eVar 3) (ρ := [some (.obj k), some (.dat arg), some (.obj S.length), some (.obj (S.length + 1)), some (nR i)]) rfl t3 hy hk2 (by rw [List.length_map]; omega)
    have z1 : S.length < S2.length := (List.getElem?_eq_some_iff.mp k2).1
    have z2 : S.length + 1 < (S2.set S.length (.lst ((left.eraseIdx x).map fun a => R.dat (f a)))).length := (List.getElem?_eq_some_iff.mp hk2).1
    refine ⟨_, rfl, _, _, ap, left.eraseIdx x, row ++ [left[x]], _, rfl, (d2.ne _ (by omega)).ne _ (by omega), ?_, ?_, ?_, ?_⟩
    · rw [List.getElem?_set_ne (by omega)]; exact set_at z1
    · rw [set_at z2, List.map_append]; rfl
    · rw [List.append_assoc]
      exact (List.Perm.append_left row (erase_perm d1)).trans t4
    · rw [List.length_append, t5]; rfl)
  rw [List.length_map, List.length_range] at t5
  have pl := t4.length_eq
  rw [List.length_append] at pl
  have : left = [] := List.eq_nil_of_length_eq_zero (by omega)
  subst this
  rw [List.append_nil] at t4
  refine ⟨row, S', t4, t1, t3, ?_⟩
  have e2 : (sFor (iArgs gRange1 (aCons (eArgs gLen (aCons (eVar 1) aNil)) aNil)) (gN 4) mxB) [some (.obj k), some (.dat arg), some (.obj S.length), some (.obj (S.length + 1)), none] (S ++ [.lst (xs.map fun a => R.dat (f a))] ++ [.lst []]) = .nx [some (.obj k), some (.dat arg), some (.obj S.length), some (.obj (S.length + 1)), x4] S' := by
    have gl := hlen (S ++ [.lst (xs.map fun a => R.dat (f a))] ++ [.lst []])
    have gr := gr1 xs.length (by omega) (S ++ [.lst (xs.map fun a => R.dat (f a))] ++ [.lst []])
    have ei : (iArgs gRange1 (aCons (eArgs gLen (aCons (eVar 1) aNil)) aNil)) [some (.obj k), some (.dat arg), some (.obj S.length), some (.obj (S.length + 1)), none] (S ++ [.lst (xs.map fun a => R.dat (f a))] ++ [.lst []]) = .ok ⟨(List.range xs.length).map fun j : Nat => R.dat (.int (j : Nat)), []⟩ (S ++ [.lst (xs.map fun a => R.dat (f a))] ++ [.lst []]) := by
      unfold nR at gl
      simp only [Pev.fnB, Pev.OutS.toF, Pev.sCons, Pev.sSet, Pev.sRet, Pev.sRetN, Pev.sIf, Pev.sSkip, Pev.sExpr, Pev.sTgt, Pev.sFor, Pev.sRaise, Pev.sPut, Pev.sAugS, Pev.sPar2, Pev.sPar3, Pev.OutS.fade, Pev.OutS.calm, Pev.Out.toS, Pev.Out.bind, Pev.noX, Pev.eVar, Pev.eC, Pev.eBin, Pev.eUn, Pev.eArgs, Pev.aCons, Pev.aNil, Pev.needN, Pev.eAnd, Pev.eOr, Pev.eNot, Pev.eIf, Pev.mAnd, Pev.mOr, Pev.mNot, Pev.mB, Pev.mT, Pev.eChain, Pev.truth, Pev.ofT, Pev.ofB, Pev.R.d?, Pev.eLc, Pev.iOf, Pev.iArgs, Pev.gN, Pev.gTp, Pev.gsCons, Pev.gsNil, Pev.tv, Pev.eBMl, Pev.eFld, Pev.tYes', Pev.wipeR, Pev.permL, List.map_cons, List.map_nil, List.length_cons, List.length_nil, List.cons_append, List.nil_append, List.append_nil, List.replicate, List.getElem?_cons_zero, List.getElem?_cons_succ, List.getElem?_nil, List.set_cons_zero, List.set_cons_succ, List.set_nil, List.filterMap_cons, List.filterMap_nil, Option.map_some, Option.map_none, Option.bind_some, Option.bind_none, if_true, if_false, Bool.not_true, Bool.not_false, Nat.reduceSub, Nat.reduceAdd, Nat.reduceEqDiff, Nat.reduceLeDiff, reduceIte, ite_true, ite_false, Bool.true_eq_false, Bool.false_eq_true, ↓reduceIte, Nat.zero_add, Nat.add_zero, Nat.sub_zero, id_eq, Bool.or_false, Bool.or_true, Bool.true_or, Bool.false_or, Bool.and_true, Bool.true_and, Bool.and_false, Bool.false_and, Bool.and_self, Bool.or_self, gl, gr]
    unfold sFor
    rw [ei]
    exact e
  show OutS.toF (b__law_mixed [some (.obj k), some (.dat arg), none, none, none] S) = _
  rw [mixed_eq, cons_nx e1, cons_nx e2]
  rfl
end Lw
namespace Lw
open PySem Pev
open L2 (atI ixN cutS)
/-! ### spoilt texts: plain -/
def sp (w : List Nat) (d : Int) (s : Nat) : List Nat := if d > 0 then w.take 1 ++ [s] ++ w.drop 1 else if d < 0 then w.drop 1 else [s] ++ w.drop 1
def nx (d : Int) : Int := if d > 0 then d - 1 else if d < 0 then d + 1 else 0
def nxs (k : Nat) (d : Int) : Int := if d ≥ 0 then (if d ≥ k then d - k else 0) else (if -d ≥ k then d + k else 0)
theorem nx_nxs (k : Nat) (d : Int) : nx (nxs k d) = nxs (k + 1) d := by
  unfold nx nxs
  repeat' split
  all_goals omega
theorem nxs_0 (d : Int) : nxs 0 d = d := by unfold nxs; repeat' split
                                            all_goals omega
theorem nxs_end {k : Nat} {d : Int} (h1 : d ≤ k) (h2 : -d ≤ k) : nxs k d = 0 := by
  unfold nxs
  repeat' split
  all_goals omega
theorem sp_len {w : List Nat} (hw : 2 ≤ w.length) (d : Int) (s : Nat) : ((sp w d s).length : Int) = w.length + (d - nx d) := by
  unfold sp nx
  split
  · simp only [List.length_append, List.length_take, List.length_drop, List.length_cons, List.length_nil]; omega
  · split
    · simp only [List.length_drop]; omega
    · simp only [List.length_append, List.length_drop, List.length_cons, List.length_nil]; omega
section
variable (x : List Nat) (n q : Nat) (ah be : Int) (s : Nat)
def part (p : Nat) : List Nat := if p < q then sp (pc x n p) (nxs p ah) s else if q < p then sp (pc x n p) (nxs (p - q - 1) be) s else pc x n p
def ml (i : Nat) : List Nat := (List.range i).flatMap (part x n q ah be s)
end
section
variable {x : List Nat} {n q : Nat} {ah be : Int} {s : Nat}
theorem ml_succ (i : Nat) : ml x n q ah be s (i + 1) = ml x n q ah be s i ++ part x n q ah be s i := by
  unfold ml
  rw [List.range_succ, List.flatMap_append, List.flatMap_cons, List.flatMap_nil, List.append_nil]
theorem cut_two (h : 2 * (n + 1) ≤ x.length) (p : Nat) : cut x.length n p + 2 ≤ cut x.length n (p + 1) := by
  unfold cut
  have : x.length * (p + 1) = x.length * p + x.length := Nat.mul_succ _ _
  rw [this]
  have h2 : (x.length * p + 2 * (n + 1)) / (n + 1) = x.length * p / (n + 1) + 2 := by
    rw [Nat.mul_comm 2, Nat.add_mul_div_left _ _ (by omega)]
  have h3 : (x.length * p + 2 * (n + 1)) / (n + 1) ≤ (x.length * p + x.length) / (n + 1) := Nat.div_le_div_right (by omega)
  omega
theorem pc_two (h : 2 * (n + 1) ≤ x.length) {p : Nat} (hp : p ≤ n) : 2 ≤ (pc x n p).length := by
  rw [pc_len hp]
  have := cut_two h p
  omega
theorem part_len (h : 2 * (n + 1) ≤ x.length) {p : Nat} (hp : p ≤ n) : ((part x n q ah be s p).length : Int) = cut x.length n (p + 1) - cut x.length n p + (if p < q then nxs p ah - nxs (p + 1) ah else if q < p then nxs (p - q - 1) be - nxs (p - q) be else 0) := by
  have l := pc_len (x := x) hp
  have c := cut_mono x.length n p
  unfold part
  split
  · rw [sp_len (pc_two h hp), nx_nxs]; omega
  · split
    · rw [sp_len (pc_two h hp), nx_nxs, show p - q - 1 + 1 = p - q by omega]; omega
    · omega
theorem ml_len (h : 2 * (n + 1) ≤ x.length) : ∀ {i : Nat}, i ≤ q → q ≤ n → ((ml x n q ah be s i).length : Int) = cut x.length n i + ah - nxs i ah
  | 0, _, _ => by rw [cut_zero, nxs_0]; show (0 : Int) = _; omega
  | i + 1, hi, hq => by
    have ih := ml_len h (i := i) (by omega) hq
    have pl := part_len (q := q) (ah := ah) (be := be) (s := s) h (p := i) (by omega)
    rw [if_pos (by omega)] at pl
    rw [ml_succ, List.length_append]
    omega
theorem ml_len2 (h : 2 * (n + 1) ≤ x.length) (h1 : ah ≤ q) (h2 : -ah ≤ q) (hq : q ≤ n) : ∀ {i : Nat}, q + i ≤ n → ((ml x n q ah be s (q + 1 + i)).length : Int) = cut x.length n (q + 1 + i) + ah + be - nxs i be
  | 0, _ => by
    have ih := ml_len (ah := ah) (be := be) (s := s) h (Nat.le_refl q) hq
    have pl := part_len (q := q) (ah := ah) (be := be) (s := s) h hq
    rw [if_neg (by omega), if_neg (by omega)] at pl
    rw [nxs_end h1 h2] at ih
    rw [show q + 1 + 0 = q + 1 by omega, ml_succ, List.length_append, nxs_0]
    omega
  | i + 1, hi => by
    have ih := ml_len2 h h1 h2 hq (i := i) (by omega)
    have pl := part_len (q := q) (ah := ah) (be := be) (s := s) h (p := q + 1 + i) (by omega)
    rw [if_neg (by omega), if_pos (by omega), show q + 1 + i - q - 1 = i by omega, show q + 1 + i - q = i + 1 by omega] at pl
    rw [show q + 1 + (i + 1) = q + 1 + i + 1 by omega, ml_succ, List.length_append]
    omega
/-! how many edits -/
theorem Al.app {x1 y1 x2 y2 : List Nat} {k1 k2 : Nat} (h1 : Al x1 y1 k1) (h2 : Al x2 y2 k2) : Al (x1 ++ x2) (y1 ++ y2) (k1 + k2) := by
  induction h2 with
  | nil => rw [List.append_nil, List.append_nil]; exact h1
  | keep c _ ih => rw [← List.append_assoc, ← List.append_assoc]; exact .keep c ih
  | sub c d _ ih => rw [← List.append_assoc, ← List.append_assoc]; exact .sub c d ih
  | del c _ ih => rw [← List.append_assoc]; exact .del c ih
  | ins d _ ih => rw [← List.append_assoc]; exact .ins d ih
theorem Al.refl : ∀ r : List Nat, Al r r 0 := by
  have h : ∀ m (y : List Nat), y.length = m → Al y y 0 := by
    intro m
    induction m with
    | zero => intro y h; rw [List.length_eq_zero_iff.mp h]; exact .nil
    | succ m ih =>
      intro y h
      rcases snoc_cases y with rfl | ⟨z, d, rfl⟩
      · cases h
      · exact .keep d (ih z (by simpa using h))
  exact fun r => h _ r rfl
theorem sp_al {w : List Nat} (hw : 1 ≤ w.length) (d : Int) (s : Nat) : Al w (sp w d s) 1 := by
  cases w with
  | nil => simp at hw
  | cons c r =>
    have r0 := Al.refl r
    unfold sp
    split
    · exact Al.app (x1 := [c]) (y1 := [c] ++ [s]) (Al.ins s (Al.keep (x := []) (y := []) c .nil)) r0
    · split
      · exact Al.app (x1 := [c]) (y1 := []) (Al.del (x := []) (y := []) c .nil) r0
      · exact Al.app (x1 := [c]) (y1 := [s]) (Al.sub (x := []) (y := []) c s .nil) r0
theorem take_pc (i : Nat) : x.take (cut x.length n (i + 1)) = x.take (cut x.length n i) ++ pc x n i := by
  have c := cut_mono x.length n i
  unfold pc
  rw [← List.take_add, show cut x.length n i + (cut x.length n (i + 1) - cut x.length n i) = cut x.length n (i + 1) by omega]
theorem ml_al (h : 2 * (n + 1) ≤ x.length) : ∀ {i : Nat}, i ≤ n + 1 → Al (x.take (cut x.length n i)) (ml x n q ah be s i) (if i ≤ q then i else i - 1)
  | 0, _ => by
    rw [cut_zero]
    exact .nil
  | i + 1, hi => by
    have ih := ml_al h (i := i) (by omega)
    have p2 := pc_two h (p := i) (by omega)
    rw [take_pc, ml_succ]
    by_cases q1 : i < q
    · rw [if_pos (by omega)] at ih
      rw [if_pos (by omega)]
      refine ih.app ?_
      unfold part
      rw [if_pos q1]
      exact sp_al (by omega) _ _
    · by_cases q2 : q < i
      · rw [if_neg (by omega)] at ih
        rw [if_neg (by omega), show i + 1 - 1 = i - 1 + 1 by omega]
        refine ih.app ?_
        unfold part
        rw [if_neg q1, if_pos q2]
        exact sp_al (by omega) _ _
      · rw [if_pos (by omega)] at ih
        rw [if_neg (by omega), show i + 1 - 1 = i + 0 by omega]
        refine ih.app ?_
        unfold part
        rw [if_neg q1, if_neg q2]
        exact .refl _
/-! which signs -/
theorem sp_mem {w : List Nat} {d : Int} {s c : Nat} (h : c ∈ sp w d s) : c = s ∨ c ∈ w := by
  unfold sp at h
  split at h
  · rcases List.mem_append.mp h with h | h
    · rcases List.mem_append.mp h with h | h
      · exact .inr (List.mem_of_mem_take h)
      · exact .inl (List.mem_singleton.mp h)
    · exact .inr (List.mem_of_mem_drop h)
  · split at h
    · exact .inr (List.mem_of_mem_drop h)
    · rcases List.mem_append.mp h with h | h
      · exact .inl (List.mem_singleton.mp h)
      · exact .inr (List.mem_of_mem_drop h)
theorem part_mem {p c : Nat} (h : c ∈ part x n q ah be s p) : c = s ∨ c ∈ pc x n p := by
  unfold part at h
  split at h
  · exact sp_mem h
  · split at h
    · exact sp_mem h
    · exact .inr h
theorem pc_mem {p c : Nat} (h : c ∈ pc x n p) : ∃ j, cut x.length n p ≤ j ∧ j < cut x.length n (p + 1) ∧ x[j]? = some c := by
  unfold pc at h
  obtain ⟨i, hi⟩ := List.mem_iff_getElem?.mp h
  rw [List.getElem?_take] at hi
  split at hi
  · rename_i lt
    rw [List.getElem?_drop] at hi
    exact ⟨_, Nat.le_add_right _ _, by omega, hi⟩
  · cases hi
theorem ml_fine (fx : Fine x) (fs : Sg s) (i : Nat) : Fine (ml x n q ah be s i) := fun c hc => by
  unfold ml at hc
  obtain ⟨p, _, h⟩ := List.mem_flatMap.mp hc
  rcases part_mem h with rfl | h
  · exact fs
  · obtain ⟨j, _, _, e⟩ := pc_mem h
    exact fx c (List.mem_of_getElem? e)
theorem cut_mono2 {L n i j : Nat} (h : i ≤ j) : cut L n i ≤ cut L n j := Nat.div_le_div_right (Nat.mul_le_mul_left _ h)
theorem nd_at {l : List Nat} (h : l.Nodup) {i j c : Nat} (h1 : l[i]? = some c) (h2 : l[j]? = some c) : i = j := by
  obtain ⟨a, e1⟩ := List.getElem?_eq_some_iff.mp h1
  obtain ⟨b, e2⟩ := List.getElem?_eq_some_iff.mp h2
  have pw := List.pairwise_iff_getElem.mp h
  rcases Nat.lt_trichotomy i j with z | z | z
  · exact absurd (e1.trans e2.symm) (pw i j a b z)
  · exact z
  · exact absurd (e2.trans e1.symm) (pw j i b a z)
theorem head_only (h : 2 * (n + 1) ≤ x.length) (nd : x.Nodup) {p i c : Nat} (hc : x[cut x.length n p]? = some c) (hi : c ∈ pc x n i) : i = p := by
  obtain ⟨j, h1, h2, e⟩ := pc_mem hi
  have := nd_at nd e hc
  subst this
  rcases Nat.lt_trichotomy i p with z | z | z
  · have := cut_mono2 (L := x.length) (n := n) (show i + 1 ≤ p by omega)
    omega
  · exact z
  · have := cut_mono2 (L := x.length) (n := n) (show p + 1 ≤ i by omega)
    have := cut_two h p
    omega
theorem ml_split {p : Nat} (hp : p ≤ n) : ml x n q ah be s (n + 1) = ml x n q ah be s p ++ (part x n q ah be s p ++ ((List.range (n - p)).map (p + 1 + ·)).flatMap (part x n q ah be s)) := by
  have e : n + 1 = p + 1 + (n - p) := by omega
  conv => lhs; rw [e]
  unfold ml
  rw [List.range_add, List.flatMap_append, List.range_succ, List.flatMap_append, List.flatMap_cons, List.flatMap_nil, List.append_nil, List.append_assoc]
/-- where a piece's two first signs stand -/
theorem only_here (h : 2 * (n + 1) ≤ x.length) (nd : x.Nodup) (hs : s ∉ x) {p b : Nat} (hp : p ≤ n) (hh : hitB x (ml x n q ah be s (n + 1)) n (p, b) = true) : p = q ∧ b = (ml x n q ah be s q).length := by
  have c2 := cut_two h p
  have cl := cut_le (L := x.length) (n := n) (p := p + 1) (by omega)
  obtain ⟨c, hc⟩ : ∃ c, x[cut x.length n p]? = some c := ⟨_, List.getElem?_eq_getElem (by omega)⟩
  obtain ⟨c', hc'⟩ : ∃ c', x[cut x.length n p + 1]? = some c' := ⟨_, List.getElem?_eq_getElem (by omega)⟩
  have hh := of_decide_eq_true (show decide ((List.take (cut x.length n (p + 1) - cut x.length n p) (List.drop b (ml x n q ah be s (n + 1)))) = pc x n p) = true from hh)
  have pw : pc x n p = c :: c' :: (pc x n p).drop 2 := by
    have e0 : (pc x n p)[0]? = some c := by
      unfold pc
      rw [List.getElem?_take, if_pos (by omega), List.getElem?_drop]
      exact hc
    have e1 : (pc x n p)[1]? = some c' := by
      unfold pc
      rw [List.getElem?_take, if_pos (by omega), List.getElem?_drop]
      exact hc'
    match pc x n p, e0, e1 with
    | a :: b :: r, e0, e1 => rw [Option.some.inj e0, Option.some.inj e1]; rfl
  have z0 : (ml x n q ah be s (n + 1))[b]? = some c := by
    have := congrArg (fun l : List Nat => l[0]?) hh
    rw [pw, List.getElem?_take, if_pos (by omega), List.getElem?_drop] at this
    exact this
  have z1 : (ml x n q ah be s (n + 1))[b + 1]? = some c' := by
    have := congrArg (fun l : List Nat => l[1]?) hh
    rw [pw, List.getElem?_take, if_pos (by omega), List.getElem?_drop] at this
    exact this
  have cx : c ∈ x := List.mem_of_getElem? hc
  have cs : c ≠ s := fun e => hs (e ▸ cx)
  have cs' : s ≠ c' := fun e => hs (e ▸ List.mem_of_getElem? hc')
  have no : ∀ i, i ≠ p → c ∉ part x n q ah be s i := fun i hi hm => by
    rcases part_mem hm with e | e
    · exact cs e
    · exact hi (head_only h nd hc e)
  have n1 : c ∉ ml x n q ah be s p := fun hm => by
    unfold ml at hm
    obtain ⟨i, hi, e⟩ := List.mem_flatMap.mp hm
    exact no i (by have := List.mem_range.mp hi; omega) e
  have n2 : c ∉ ((List.range (n - p)).map (p + 1 + ·)).flatMap (part x n q ah be s) := fun hm => by
    obtain ⟨i, hi, e⟩ := List.mem_flatMap.mp hm
    obtain ⟨j, _, rfl⟩ := List.mem_map.mp hi
    exact no _ (by omega) e
  have nw : (pc x n p).Nodup := by
    unfold pc
    exact ((List.take_sublist _ _).trans (List.drop_sublist _ _)).nodup nd
  rw [ml_split hp] at z0 z1
  have lb : (ml x n q ah be s p).length ≤ b := by
    rcases Nat.lt_or_ge b (ml x n q ah be s p).length with z | z
    · rw [List.getElem?_append_left z] at z0
      exact absurd (List.mem_of_getElem? z0) n1
    · exact z
  obtain ⟨t, rfl⟩ : ∃ t, b = (ml x n q ah be s p).length + t := ⟨b - (ml x n q ah be s p).length, by omega⟩
  rw [List.getElem?_append_right (by omega), show (ml x n q ah be s p).length + t - (ml x n q ah be s p).length = t by omega] at z0
  rw [List.getElem?_append_right (by omega), show (ml x n q ah be s p).length + t + 1 - (ml x n q ah be s p).length = t + 1 by omega] at z1
  have lt : t < (part x n q ah be s p).length := by
    rcases Nat.lt_or_ge t (part x n q ah be s p).length with z | z
    · exact z
    · rw [List.getElem?_append_right z] at z0
      exact absurd (List.mem_of_getElem? z0) n2
  rw [List.getElem?_append_left lt] at z0
  rw [pw] at nw
  obtain ⟨nc, _⟩ := List.nodup_cons.mp nw
  have key : ∀ d : Int, part x n q ah be s p = sp (pc x n p) d s → False := by
    intro d e
    rw [e, pw] at z0 z1
    unfold sp at z0 z1
    by_cases d1 : d > 0
    · rw [if_pos d1] at z0 z1
      change (c :: s :: c' :: (pc x n p).drop 2)[t]? = some c at z0
      change ((c :: s :: c' :: (pc x n p).drop 2) ++ _)[t + 1]? = some c' at z1
      match t, z0, z1 with
      | 0, _, z1 => exact cs' (Option.some.inj z1)
      | 1, z0, _ => exact cs (Option.some.inj z0).symm
      | t + 2, z0, _ => exact nc (List.mem_of_getElem? (i := t) z0)
    · rw [if_neg d1] at z0
      by_cases d2 : d < 0
      · rw [if_pos d2] at z0
        exact nc (List.mem_of_getElem? (i := t) z0)
      · rw [if_neg d2] at z0
        change (s :: c' :: (pc x n p).drop 2)[t]? = some c at z0
        match t, z0 with
        | 0, z0 => exact cs (Option.some.inj z0).symm
        | t + 1, z0 => exact nc (List.mem_of_getElem? (i := t) z0)
  by_cases q1 : p < q
  · exact absurd (by unfold part; rw [if_pos q1]) (key (nxs p ah))
  · by_cases q2 : q < p
    · exact absurd (by unfold part; rw [if_neg q1, if_pos q2]) (key (nxs (p - q - 1) be))
    · have e : p = q := by omega
      subst e
      refine ⟨rfl, ?_⟩
      have pp : part x n p ah be s p = pc x n p := by unfold part; rw [if_neg q1, if_neg q2]
      rw [pp, pw] at z0
      have := nd_at (nw) z0 (show (c :: c' :: (pc x n p).drop 2)[0]? = some c from rfl)
      omega
theorem it_hits (hq : q ≤ n) : hitB x (ml x n q ah be s (n + 1)) n (q, (ml x n q ah be s q).length) = true := by
  have pp : part x n q ah be s q = pc x n q := by unfold part; rw [if_neg (by omega), if_neg (by omega)]
  unfold hitB
  dsimp only
  rw [ml_split hq, List.drop_left' rfl, pp, ← pc_len hq, List.take_left' rfl]
  exact decide_eq_true rfl
theorem lk_nodup (L n o : Nat) : (lk L n o).Nodup := by
  unfold lk
  show List.Pairwise _ _
  rw [List.pairwise_flatMap]
  constructor
  · intro p _
    rw [List.pairwise_map]
    have : (lkP L n o p).Nodup := by
      unfold lkP
      exact List.Pairwise.filter _ List.nodup_range
    exact this.imp fun {a b} hab e => hab (Prod.mk.inj e).2
  · refine List.Pairwise.imp ?_ (List.nodup_range (n := n + 1))
    intro a b hab u hu v hv e
    obtain ⟨_, _, rfl⟩ := List.mem_map.mp hu
    obtain ⟨_, _, rfl⟩ := List.mem_map.mp hv
    exact hab (Prod.mk.inj e).1
theorem filter_one {α : Type} {l : List α} (hn : l.Nodup) {p : α → Bool} {e : α} (he : e ∈ l) (hp : p e = true) (ho : ∀ y ∈ l, p y = true → y = e) : l.filter p = [e] := by
  induction l with
  | nil => cases he
  | cons a l ih =>
    obtain ⟨h1, h2⟩ := List.nodup_cons.mp hn
    rw [List.filter_cons]
    rcases List.mem_cons.mp he with rfl | he
    · rw [if_pos hp]
      have : l.filter p = [] := List.filter_eq_nil_iff.mpr fun y hy hpy => by
        have := ho y (List.mem_cons_of_mem _ hy) hpy
        subst this
        exact h1 hy
      rw [this]
    · have na : p a = false := by
        cases z : p a with
        | false => rfl
        | true =>
          have := ho a List.mem_cons_self z
          subst this
          exact absurd he h1
      rw [na]
      exact ih h2 he fun y hy => ho y (List.mem_cons_of_mem _ hy)
/-- all that is asked of a spoilt text -/
theorem spoilt_all {o a : Nat} (h : 2 * (n + 1) ≤ x.length) (nd : x.Nodup) (hs : s ∉ x) (hq : (q, a) ∈ lk x.length n o) :
    (ml x n q ((a : Int) - cut x.length n q) ((o : Int) - x.length - ((a : Int) - cut x.length n q)) s (n + 1)).length = o ∧
    Al x (ml x n q ((a : Int) - cut x.length n q) ((o : Int) - x.length - ((a : Int) - cut x.length n q)) s (n + 1)) n ∧
    fnd x (ml x n q ((a : Int) - cut x.length n q) ((o : Int) - x.length - ((a : Int) - cut x.length n q)) s (n + 1)) n = [(q, a)] := by
  obtain ⟨hqn, hao, hk⟩ := mem_lk.mp hq
  dsimp only at hqn hao hk
  unfold okP at hk
  have l1 := ml_len (ah := (a : Int) - cut x.length n q) (be := (o : Int) - x.length - ((a : Int) - cut x.length n q)) (s := s) h (Nat.le_refl q) hqn
  rw [nxs_end (by omega) (by omega)] at l1
  have l2 := ml_len2 (ah := (a : Int) - cut x.length n q) (be := (o : Int) - x.length - ((a : Int) - cut x.length n q)) (s := s) h (by omega) (by omega) hqn (i := n - q) (by omega)
  rw [show q + 1 + (n - q) = n + 1 by omega, cut_end, nxs_end (by omega) (by omega)] at l2
  have lo : (ml x n q ((a : Int) - cut x.length n q) ((o : Int) - x.length - ((a : Int) - cut x.length n q)) s (n + 1)).length = o := by omega
  have la : (ml x n q ((a : Int) - cut x.length n q) ((o : Int) - x.length - ((a : Int) - cut x.length n q)) s q).length = a := by omega
  refine ⟨lo, ?_, ?_⟩
  · have := ml_al (q := q) (ah := (a : Int) - cut x.length n q) (be := (o : Int) - x.length - ((a : Int) - cut x.length n q)) (s := s) h (Nat.le_refl (n + 1))
    rw [cut_end, List.take_length, if_neg (by omega)] at this
    exact this
  · unfold fnd
    rw [lo]
    refine filter_one (lk_nodup _ _ _) hq ?_ ?_
    · have := it_hits (x := x) (ah := (a : Int) - cut x.length n q) (be := (o : Int) - x.length - ((a : Int) - cut x.length n q)) (s := s) hqn
      rw [la] at this
      exact this
    · rintro ⟨p, b⟩ hy hh
      obtain ⟨hp, _, _⟩ := mem_lk.mp hy
      obtain ⟨e1, e2⟩ := only_here h nd hs hp hh
      rw [la] at e2
      rw [show p = q from e1, e2]
end
end Lw
namespace Lw
open PySem Pev
open L2 (atI ixN cutS)
def g1 : SM := (sIf (mNot (mT (eArgs (needN 1 (pureF m_is_text)) (aCons (eVar 0) aNil)))) (sRaise 0 (eUn uNeg (eC (.int 1)))) sSkip)
def g2 : SM := (sExpr (eArgs (fun rs => needN 3 (pureF m_need_many) (rs ++ [.int 0].map .dat)) (aCons (eVar 1) (aCons (eC (.str "near")) aNil))))
def g3 : SM := (sExpr (eArgs (fun rs => needN 3 (pureF m_need_many) (rs ++ [.int 0].map .dat)) (aCons (eVar 3) (aCons (eC (.str "other")) aNil))))
def g4 : SM := (sIf (mOr (mB (eBin bLt (eArgs gLen (aCons (eVar 0) aNil)) (eBin (bMul false) (eC (.int 2)) (eBin (bAdd false) (eVar 1) (eC (.int 1)))))) (mNot (mT (eArgs (needN 1 (pureF m_are_unlike)) (aCons (eLc false (iOf (eVar 0)) (gN 5) tYes' (eVar 5) [5]) aNil))))) (sRaise 2 (eUn uNeg (eC (.int 1)))) sSkip)
def g5 : SM := (sIf (mOr (mNot (mT (eArgs (needN 1 (pureF m_is_pair)) (aCons (eVar 2) aNil)))) (mNot (mT (eArgs gAll (aCons (eLc false (iOf (eVar 2)) (gN 13) tYes' (eArgs (needN 1 (pureF m_is_number)) (aCons (eVar 13) aNil)) [13]) aNil))))) (sRaise 1 (eUn uNeg (eC (.int 1)))) sSkip)
def g6 : SM := (sIf (mB (eBin (bIn true) (eArgs gTuple (aCons (eVar 2) aNil)) (eArgs (needN 3 (pureF m_looks_of)) (aCons (eArgs gLen (aCons (eVar 0) aNil)) (aCons (eVar 1) (aCons (eVar 3) aNil)))))) (sRaise 1 (eUn uNeg (eC (.int 1)))) sSkip)
def g7 : SM := (sPar2 4 5 (aCons (eArgs (needN 2 (pureF m_places_of)) (aCons (eArgs gLen (aCons (eVar 0) aNil)) (aCons (eVar 1) aNil))) (aCons (eBin bIx (eLc false (iOf (eC (.str "0123456789abcdefghijklmnopqrstuvwxyzABCDEFGHIJKLMNOPQRSTUVWXYZ"))) (gN 5) (mB (eBin (bIn true) (eVar 5) (eVar 0))) (eVar 5) [5]) (eC (.int 0))) aNil)))
def g8 : SM := (sPar2 6 7 (aCons (eBin bSub (eBin bIx (eVar 2) (eC (.int 1))) (eBin bIx (eBin bIx (eVar 4) (eBin bIx (eVar 2) (eC (.int 0)))) (eC (.int 0)))) (aCons (eC (.str "")) aNil)))
def g9 : SM := (sSet 8 (eBin bSub (eBin bSub (eVar 3) (eArgs gLen (aCons (eVar 0) aNil))) (eVar 6)))
def g10 : SM := (sFor (iArgs gEnumU (aCons (eVar 4) aNil)) (gTp 2 (gsCons (gN 9) (gsCons (gTp 2 (gsCons (gN 10) (gsCons (gN 11) gsNil))) gsNil))) (sCons (sSet 12 (eSl false (eVar 0) (some (eVar 10)) (some (eVar 11))))
    (sCons (sIf (mB (eBin bLt (eVar 9) (eBin bIx (eVar 2) (eC (.int 0))))) (sTgt (gTp 2 (gsCons (gN 12) (gsCons (gN 6) gsNil))) (eArgs (needN 3 (pureF m_spoilt_piece)) (aCons (eVar 12) (aCons (eVar 6) (aCons (eVar 5) aNil))))) (sIf (mB (eBin bGt (eVar 9) (eBin bIx (eVar 2) (eC (.int 0))))) (sTgt (gTp 2 (gsCons (gN 12) (gsCons (gN 8) gsNil))) (eArgs (needN 3 (pureF m_spoilt_piece)) (aCons (eVar 12) (aCons (eVar 8) (aCons (eVar 5) aNil))))) sSkip))
    (sSet 7 (eBin (bAdd false) (eVar 7) (eVar 12))))))
def g11 : SM := (sRet (eVar 7))
theorem b_spoilt_text_eq : b_spoilt_text = sCons g1 (sCons g2 (sCons g3 (sCons g4 (sCons g5 (sCons g6 (sCons g7 (sCons g8 (sCons g9 (sCons g10 g11))))))))) := rfl

/-! ### signs within -/
theorem sg_fit {c : Nat} (h : Sg c) : Fit 0 (sg c) := tx_fit (one_sg h)
theorem eqv_sg (c d : Nat) : PyData.eqv (sg c) (sg d) = decide (c = d) := by
  unfold sg PyData.eqv
  by_cases q : c = d
  · rw [q, decide_eq_true rfl]; simp
  · rw [decide_eq_false q]
    refine beq_eq_false_iff_ne.mpr fun z => q ?_
    have := congrArg (fun s : Str => s.cps.toList) z
    exact (List.cons.inj this).1
theorem sgs_fit {l : List Nat} (h : Fine l) : Fit 1 (.list (l.map sg)) := fit_lst fun d hd => by
  obtain ⟨c, hc, rfl⟩ := List.mem_map.mp hd
  exact sg_fit (h c hc)
theorem in_sgs {l : List Nat} {c : Nat} (hl : Fine l) (hc : Sg c) (S : Sto) : bIn true (.dat (sg c)) (.dat (.list (l.map sg))) S = .ok (.dat (.bool (!decide (c ∈ l)))) S := by
  rw [bin_list ((sg_fit hc).up (show 0 ≤ 1 by omega)) (sgs_fit hl), if_pos rfl, any_eqv sg (fun d => decide (d = c)) fun d _ => eqv_sg d c]
  congr 4
  rw [Bool.eq_iff_iff, List.any_eq_true, decide_eq_true_eq]
  constructor
  · rintro ⟨d, hd, e⟩
    rwa [← of_decide_eq_true e]
  · exact fun h => ⟨c, h, decide_eq_true rfl⟩
theorem in_tx (l : List Nat) (c : Nat) (S : Sto) : bIn true (.dat (sg c)) (T2 l) S = .ok (.dat (.bool (!decide (c ∈ l)))) S := by
  unfold bIn
  rw [snap_dat, snap_dat]
  show inAns true (!(Builtin.Str.occurrences (tx l) ⟨#[c]⟩ 0 (tx l).length 1).isEmpty) S = _
  rw [StrLaws.found_one, inAns_eq, if_pos rfl]
  rfl
theorem sl_list {α : Type} (f : α → PyData) (xs : List α) (k : Nat) (hl : xs.length ≤ 1000) (S : Sto) : gSl false (.dat (.list (xs.map f))) none (some (k : Int)) S = .ok (.dat (.list ((xs.take k).map f))) S := by
  unfold gSl
  dsimp only [lv]
  rw [map_dat, cutR_f, cut_first, newL_f]
def unl (x : List Nat) : Bool := (x.zipIdx 0).all fun p => !decide (p.1 ∈ x.take p.2)
theorem unlike_ok {x : List Nat} (hx : Fine x) (lx : x.length ≤ 60) : Gv m_are_unlike [.list (x.map sg)] (.bool (unl x)) := by
  have en : gEnumU [.dat (.list (x.map sg))] [] = .ok ⟨(x.zipIdx 0).map fun p => R.dat (.tuple [.int (p.2 : Nat), sg p.1]), []⟩ [] := by
    show Out.ok (⟨(pairsF 0 (x.map sg)).map .dat, []⟩ : Items) [] = _
    rw [pairs_f]
  have lc := lc_all (g := gTp 2 (gsCons (gN 1) (gsCons (gN 2) gsNil))) (elt := (eBin (bIn true) (eVar 2) (eSl false (eVar 0) none (some (eVar 1))))) (ρ := [some (.dat (.list (x.map sg))), none, none]) (S := []) (fun p : Nat × Nat => R.dat (.tuple [.int (p.2 : Nat), sg p.1])) (fun p => R.dat (.bool (!decide (p.1 ∈ x.take p.2)))) (x.zipIdx 0) (fun p hp => by
    have hp := zipIdx_at hp
    have s1 := sl_list sg x p.2 (by omega) []
    have i1 := in_sgs (l := x.take p.2) (c := p.1) (fine_sub hx fun c hc => List.mem_of_mem_take hc) (hx _ (List.mem_of_getElem? hp)) []
    refine ⟨_, rfl, ?_⟩
    show (eBin (bIn true) (eVar 2) (eSl false (eVar 0) none (some (eVar 1)))) [some (.dat (.list (x.map sg))), some (.dat (.int (p.2 : Nat))), some (.dat (sg p.1))] [] = _
    simp only [Pev.fnB, Pev.OutS.toF, Pev.sCons, Pev.sSet, Pev.sRet, Pev.sRetN, Pev.sIf, Pev.sSkip, Pev.sExpr, Pev.sTgt, Pev.sFor, Pev.sRaise, Pev.sPut, Pev.sAugS, Pev.sPar2, Pev.sPar3, Pev.OutS.fade, Pev.OutS.calm, Pev.Out.toS, Pev.Out.bind, Pev.noX, Pev.eVar, Pev.eC, Pev.eBin, Pev.eUn, Pev.eArgs, Pev.aCons, Pev.aNil, Pev.needN, Pev.eAnd, Pev.eOr, Pev.eNot, Pev.eIf, Pev.mAnd, Pev.mOr, Pev.mNot, Pev.mB, Pev.mT, Pev.eChain, Pev.truth, Pev.ofT, Pev.ofB, Pev.R.d?, Pev.eLc, Pev.iOf, Pev.iArgs, Pev.gN, Pev.gTp, Pev.gsCons, Pev.gsNil, Pev.tv, Pev.eBMl, Pev.eFld, Pev.tYes', Pev.wipeR, Pev.permL, List.map_cons, List.map_nil, List.length_cons, List.length_nil, List.cons_append, List.nil_append, List.append_nil, List.replicate, List.getElem?_cons_zero, List.getElem?_cons_succ, List.getElem?_nil, List.set_cons_zero, List.set_cons_succ, List.set_nil, List.filterMap_cons, List.filterMap_nil, Option.map_some, Option.map_none, Option.bind_some, Option.bind_none, if_true, if_false, Bool.not_true, Bool.not_false, Nat.reduceSub, Nat.reduceAdd, Nat.reduceEqDiff, Nat.reduceLeDiff, reduceIte, ite_true, ite_false, Bool.true_eq_false, Bool.false_eq_true, ↓reduceIte, Nat.zero_add, Nat.add_zero, Nat.sub_zero, id_eq, Bool.or_false, Bool.or_true, Bool.true_or, Bool.false_or, Bool.and_true, Bool.true_and, Bool.and_false, Bool.false_and, Bool.and_self, Bool.or_self, eSl, oPart, toI_i, s1, i1])
  have sz := sz_of (show x.length ≤ 10000 by omega)
  have nl := newL_f (fun p : Nat × Nat => PyData.bool (!decide (p.1 ∈ x.take p.2))) (x.zipIdx 0) []
  have ga : gAll [.dat (.list ((x.zipIdx 0).map fun p => .bool (!decide (p.1 ∈ x.take p.2))))] [] = .ok (.dat (.bool (unl x))) [] := by
    simp only [Pev.fnB, Pev.OutS.toF, Pev.sCons, Pev.sSet, Pev.sRet, Pev.sRetN, Pev.sIf, Pev.sSkip, Pev.sExpr, Pev.sTgt, Pev.sFor, Pev.sRaise, Pev.sPut, Pev.putAt, Pev.sPar2, Pev.sPar3, Pev.sTry, Pev.hRun, Pev.OutS.fade, Pev.OutS.calm, Pev.Out.toS, Pev.Out.bind, Pev.noX, Pev.eVar, Pev.eC, Pev.eBin, Pev.eUn, Pev.eArgs, Pev.aCons, Pev.aNil, Pev.needN, Pev.eAnd, Pev.eOr, Pev.eNot, Pev.eIf, Pev.mAnd, Pev.mOr, Pev.mNot, Pev.mB, Pev.mT, Pev.eChain, Pev.truth, Pev.ans, Pev.ofT, Pev.ofB, Pev.bAdd, Pev.bSub, Pev.bMul, Pev.bDiv, Pev.bMod, Pev.bLt, Pev.bLe, Pev.bGt, Pev.bGe, Pev.bIsN, Pev.isNone?, Pev.uNeg, Pev.bIx, Pev.lv, Pev.lvt, Pev.gLen, Pev.gAbs, Pev.gInt, Pev.gBool, Pev.gList, Pev.gTuple, Pev.gTup, Pev.gLst, Pev.newL, Pev.newT, Pev.datAll, Pev.R.d?, Pev.uIs, Pev.tyOf, Pev.eLc, Pev.iOf, Pev.itOf, Pev.iArgs, Pev.gRange1, Pev.gRange2, Pev.gN, Pev.gTp, Pev.gsCons, Pev.gsNil, Pev.tv, Pev.eBMl, Pev.gAppend, Pev.gPop, Pev.gExtend, Pev.cellOf, Pev.eFld, Pev.tYes', Pev.wipeR, Pev.permL, List.map_cons, List.map_nil, List.length_cons, List.length_nil, List.cons_append, List.nil_append, List.append_nil, List.replicate, List.getElem?_cons_zero, List.getElem?_cons_succ, List.getElem?_nil, List.set_cons_zero, List.set_cons_succ, List.set_nil, List.filterMap_cons, List.filterMap_nil, Option.map_some, Option.map_none, Option.bind_some, Option.bind_none, if_true, if_false, Bool.not_true, Bool.not_false, Nat.reduceSub, Nat.reduceAdd, Nat.reduceEqDiff, Nat.reduceLeDiff, reduceIte, ite_true, ite_false, Bool.true_eq_false, Bool.false_eq_true, ↓reduceIte, Nat.zero_add, Nat.add_zero, Nat.sub_zero, Pev.outD_dat, Pev.snap_dat, Pev.outX, List.any_cons, List.any_nil, List.all_cons, List.all_nil, id_eq, Bool.or_false, Bool.or_true, Bool.true_or, Bool.false_or, Bool.and_true, Bool.true_and, Bool.and_false, Bool.false_and, Bool.and_self, Bool.or_self, Int.cast_ofNat_Int, decide_true, decide_false, Pev.isa_self, Pev.isa_bi, Pev.isa_tl, Pev.isa_lt, Pev.isa_ti, Pev.isa_li, Pev.isa_it, Pev.gAll, Pev.gAny, Pev.gSum, Pev.bls?, Pev.ints?, Pev.eq_ints, Pev.datAll_map, Pev.map_dat, Pev.app_map, Pev.datAll_f, Pev.ints_f, Pev.bls_f, Pev.at0, Pev.at1, Pev.at2, Pev.atLast, Pev.two_small, Pev.three_small, Pev.one_small, Pev.nil_small, Pev.oPart, Pev.toI, Pev.eSl, Pev.gSl, Pev.uRev, List.isEmpty_cons, List.isEmpty_nil, ]
    rw [List.all_map]
    rfl
  unfold Gv m_are_unlike b_are_unlike
  simp only [Pev.fnB, Pev.OutS.toF, Pev.sCons, Pev.sSet, Pev.sRet, Pev.sRetN, Pev.sIf, Pev.sSkip, Pev.sExpr, Pev.sTgt, Pev.sFor, Pev.sRaise, Pev.sPut, Pev.sAugS, Pev.sPar2, Pev.sPar3, Pev.OutS.fade, Pev.OutS.calm, Pev.Out.toS, Pev.Out.bind, Pev.noX, Pev.eVar, Pev.eC, Pev.eBin, Pev.eUn, Pev.eArgs, Pev.aCons, Pev.aNil, Pev.needN, Pev.eAnd, Pev.eOr, Pev.eNot, Pev.eIf, Pev.mAnd, Pev.mOr, Pev.mNot, Pev.mB, Pev.mT, Pev.eChain, Pev.truth, Pev.ofT, Pev.ofB, Pev.R.d?, Pev.eLc, Pev.iOf, Pev.iArgs, Pev.gN, Pev.gTp, Pev.gsCons, Pev.gsNil, Pev.tv, Pev.eBMl, Pev.eFld, Pev.tYes', Pev.wipeR, Pev.permL, List.map_cons, List.map_nil, List.length_cons, List.length_nil, List.cons_append, List.nil_append, List.append_nil, List.replicate, List.getElem?_cons_zero, List.getElem?_cons_succ, List.getElem?_nil, List.set_cons_zero, List.set_cons_succ, List.set_nil, List.filterMap_cons, List.filterMap_nil, Option.map_some, Option.map_none, Option.bind_some, Option.bind_none, if_true, if_false, Bool.not_true, Bool.not_false, Nat.reduceSub, Nat.reduceAdd, Nat.reduceEqDiff, Nat.reduceLeDiff, reduceIte, ite_true, ite_false, Bool.true_eq_false, Bool.false_eq_true, ↓reduceIte, Nat.zero_add, Nat.add_zero, Nat.sub_zero, id_eq, Bool.or_false, Bool.or_true, Bool.true_or, Bool.false_or, Bool.and_true, Bool.true_and, Bool.and_false, Bool.false_and, Bool.and_self, Bool.or_self, en, List.length_map, List.length_zipIdx, sz, lc, nl, ga, outD_dat]
theorem unl_yes {x : List Nat} (h : x.Nodup) : unl x = true := List.all_eq_true.mpr fun p hp => by
  have hp := zipIdx_at hp
  rw [Bool.not_eq_true', decide_eq_false_iff_not]
  intro hm
  obtain ⟨j, hj⟩ := List.mem_iff_getElem?.mp hm
  rw [List.getElem?_take] at hj
  split at hj
  · rename_i lt
    have := nd_at h hp hj
    omega
  · cases hj
theorem unl_no {x : List Nat} {c : Nat} (h : c ∈ x) : unl (x ++ [c]) = false := by
  cases q : unl (x ++ [c]) with
  | false => rfl
  | true =>
    have := List.all_eq_true.mp q (c, x.length) (List.mem_zipIdx_iff_getElem?.mpr (by rw [List.getElem?_append_right (Nat.le_refl _), Nat.sub_self]; rfl))
    rw [Bool.not_eq_true', decide_eq_false_iff_not] at this
    exact absurd (by rw [List.take_left' rfl]; exact h) this
/-! ### one piece -/
theorem piece_sp {w : List Nat} {s : Nat} (hw : 1 ≤ w.length) (lw : w.length ≤ 60) (d : Int) : Gv m_spoilt_piece [.str (tx w), .int d, .str (tx [s])] (.tuple [.str (tx (sp w d s)), .int (nx d)]) := by
  have s0 : gSl false (.dat (.str (tx w))) none (some 1) [] = .ok (.dat (.str (tx (w.take 1)))) [] := sl_tx0 (l := w) (by omega) (j := 1) (by omega) []
  have s1 : gSl false (.dat (.str (tx w))) (some 1) none [] = .ok (.dat (.str (tx (w.drop 1)))) [] := sl_tx1 (l := w) (by omega) 1 []
  have a1 := add_tx (l := w.take 1) (k := [s]) (by rw [List.length_take]; show min 1 _ + 1 ≤ _; omega) []
  have a2 := add_tx (l := w.take 1 ++ [s]) (k := w.drop 1) (by rw [List.length_append, List.length_take, List.length_drop]; show min 1 _ + 1 + _ ≤ _; omega) []
  have a3 := add_tx (l := [s]) (k := w.drop 1) (by rw [List.length_drop]; show 1 + _ ≤ _; omega) []
  have gt := gt_ii d 0 []
  have lt := lt_ii d 0 []
  have tp : ∀ (z : List Nat) (e : Int), gTup [.dat (.str (tx z)), .dat (.int e)] [] = .ok (.dat (.tuple [.str (tx z), .int e])) [] := fun _ _ => rfl
  unfold Gv m_spoilt_piece b_spoilt_piece sp nx
  by_cases h1 : d > 0
  · rw [decide_eq_true h1] at gt
    rw [if_pos h1, if_pos h1]
    simp only [Pev.fnB, Pev.OutS.toF, Pev.sCons, Pev.sSet, Pev.sRet, Pev.sRetN, Pev.sIf, Pev.sSkip, Pev.sExpr, Pev.sTgt, Pev.sFor, Pev.sRaise, Pev.sPut, Pev.sAugS, Pev.sPar2, Pev.sPar3, Pev.OutS.fade, Pev.OutS.calm, Pev.Out.toS, Pev.Out.bind, Pev.noX, Pev.eVar, Pev.eC, Pev.eBin, Pev.eUn, Pev.eArgs, Pev.aCons, Pev.aNil, Pev.needN, Pev.eAnd, Pev.eOr, Pev.eNot, Pev.eIf, Pev.mAnd, Pev.mOr, Pev.mNot, Pev.mB, Pev.mT, Pev.eChain, Pev.truth, Pev.ofT, Pev.ofB, Pev.R.d?, Pev.eLc, Pev.iOf, Pev.iArgs, Pev.gN, Pev.gTp, Pev.gsCons, Pev.gsNil, Pev.tv, Pev.eBMl, Pev.eFld, Pev.tYes', Pev.wipeR, Pev.permL, List.map_cons, List.map_nil, List.length_cons, List.length_nil, List.cons_append, List.nil_append, List.append_nil, List.replicate, List.getElem?_cons_zero, List.getElem?_cons_succ, List.getElem?_nil, List.set_cons_zero, List.set_cons_succ, List.set_nil, List.filterMap_cons, List.filterMap_nil, Option.map_some, Option.map_none, Option.bind_some, Option.bind_none, if_true, if_false, Bool.not_true, Bool.not_false, Nat.reduceSub, Nat.reduceAdd, Nat.reduceEqDiff, Nat.reduceLeDiff, reduceIte, ite_true, ite_false, Bool.true_eq_false, Bool.false_eq_true, ↓reduceIte, Nat.zero_add, Nat.add_zero, Nat.sub_zero, id_eq, Bool.or_false, Bool.or_true, Bool.true_or, Bool.false_or, Bool.and_true, Bool.true_and, Bool.and_false, Bool.false_and, Bool.and_self, Bool.or_self, gt, eSl, oPart, toI_i, s0, s1, a1, a2, sub_ii, tp, outD_dat]
  · rw [decide_eq_false h1] at gt
    rw [if_neg h1, if_neg h1]
    by_cases h2 : d < 0
    · rw [decide_eq_true h2] at lt
      rw [if_pos h2, if_pos h2]
      simp only [Pev.fnB, Pev.OutS.toF, Pev.sCons, Pev.sSet, Pev.sRet, Pev.sRetN, Pev.sIf, Pev.sSkip, Pev.sExpr, Pev.sTgt, Pev.sFor, Pev.sRaise, Pev.sPut, Pev.sAugS, Pev.sPar2, Pev.sPar3, Pev.OutS.fade, Pev.OutS.calm, Pev.Out.toS, Pev.Out.bind, Pev.noX, Pev.eVar, Pev.eC, Pev.eBin, Pev.eUn, Pev.eArgs, Pev.aCons, Pev.aNil, Pev.needN, Pev.eAnd, Pev.eOr, Pev.eNot, Pev.eIf, Pev.mAnd, Pev.mOr, Pev.mNot, Pev.mB, Pev.mT, Pev.eChain, Pev.truth, Pev.ofT, Pev.ofB, Pev.R.d?, Pev.eLc, Pev.iOf, Pev.iArgs, Pev.gN, Pev.gTp, Pev.gsCons, Pev.gsNil, Pev.tv, Pev.eBMl, Pev.eFld, Pev.tYes', Pev.wipeR, Pev.permL, List.map_cons, List.map_nil, List.length_cons, List.length_nil, List.cons_append, List.nil_append, List.append_nil, List.replicate, List.getElem?_cons_zero, List.getElem?_cons_succ, List.getElem?_nil, List.set_cons_zero, List.set_cons_succ, List.set_nil, List.filterMap_cons, List.filterMap_nil, Option.map_some, Option.map_none, Option.bind_some, Option.bind_none, if_true, if_false, Bool.not_true, Bool.not_false, Nat.reduceSub, Nat.reduceAdd, Nat.reduceEqDiff, Nat.reduceLeDiff, reduceIte, ite_true, ite_false, Bool.true_eq_false, Bool.false_eq_true, ↓reduceIte, Nat.zero_add, Nat.add_zero, Nat.sub_zero, id_eq, Bool.or_false, Bool.or_true, Bool.true_or, Bool.false_or, Bool.and_true, Bool.true_and, Bool.and_false, Bool.false_and, Bool.and_self, Bool.or_self, gt, lt, eSl, oPart, toI_i, s1, add_ii, tp, outD_dat]
    · rw [decide_eq_false h2] at lt
      rw [if_neg h2, if_neg h2]
      simp only [Pev.fnB, Pev.OutS.toF, Pev.sCons, Pev.sSet, Pev.sRet, Pev.sRetN, Pev.sIf, Pev.sSkip, Pev.sExpr, Pev.sTgt, Pev.sFor, Pev.sRaise, Pev.sPut, Pev.sAugS, Pev.sPar2, Pev.sPar3, Pev.OutS.fade, Pev.OutS.calm, Pev.Out.toS, Pev.Out.bind, Pev.noX, Pev.eVar, Pev.eC, Pev.eBin, Pev.eUn, Pev.eArgs, Pev.aCons, Pev.aNil, Pev.needN, Pev.eAnd, Pev.eOr, Pev.eNot, Pev.eIf, Pev.mAnd, Pev.mOr, Pev.mNot, Pev.mB, Pev.mT, Pev.eChain, Pev.truth, Pev.ofT, Pev.ofB, Pev.R.d?, Pev.eLc, Pev.iOf, Pev.iArgs, Pev.gN, Pev.gTp, Pev.gsCons, Pev.gsNil, Pev.tv, Pev.eBMl, Pev.eFld, Pev.tYes', Pev.wipeR, Pev.permL, List.map_cons, List.map_nil, List.length_cons, List.length_nil, List.cons_append, List.nil_append, List.append_nil, List.replicate, List.getElem?_cons_zero, List.getElem?_cons_succ, List.getElem?_nil, List.set_cons_zero, List.set_cons_succ, List.set_nil, List.filterMap_cons, List.filterMap_nil, Option.map_some, Option.map_none, Option.bind_some, Option.bind_none, if_true, if_false, Bool.not_true, Bool.not_false, Nat.reduceSub, Nat.reduceAdd, Nat.reduceEqDiff, Nat.reduceLeDiff, reduceIte, ite_true, ite_false, Bool.true_eq_false, Bool.false_eq_true, ↓reduceIte, Nat.zero_add, Nat.add_zero, Nat.sub_zero, id_eq, Bool.or_false, Bool.or_true, Bool.true_or, Bool.false_or, Bool.and_true, Bool.true_and, Bool.and_false, Bool.false_and, Bool.and_self, Bool.or_self, gt, lt, eSl, oPart, toI_i, s1, a3, tp, outD_dat]
/-! ### the steps -/
def lkd (t : Bool) (q a : Nat) : PyData := if t then .tuple [.int (q : Nat), .int (a : Nat)] else .list [.int (q : Nat), .int (a : Nat)]
abbrev rhoS (x : List Nat) (d1 d2 d3 : PyData) (x4 x5 x6 x7 x8 x9 x10 x11 x12 x13 : Option R) : Rho := [some (T2 x), some (.dat d1), some (.dat d2), some (.dat d3), x4, x5, x6, x7, x8, x9, x10, x11, x12, x13]
section
variable {x : List Nat} {n q a o : Nat} {d1 d2 d3 : PyData} {x4 x5 x6 x7 x8 x9 x10 x11 x12 x13 : Option R}
theorem g1_ok (hx : Fine x) (lx : x.length ≤ 60) : g1 (rhoS x d1 d2 d3 x4 x5 x6 x7 x8 x9 x10 x11 x12 x13) [] = .nx (rhoS x d1 d2 d3 x4 x5 x6 x7 x8 x9 x10 x11 x12 x13) [] := by
  have t1 := one_call (text_ok hx lx) []
  unfold g1 rhoS T2
  simp only [Pev.fnB, Pev.OutS.toF, Pev.sCons, Pev.sSet, Pev.sRet, Pev.sRetN, Pev.sIf, Pev.sSkip, Pev.sExpr, Pev.sTgt, Pev.sFor, Pev.sRaise, Pev.sPut, Pev.sAugS, Pev.sPar2, Pev.sPar3, Pev.OutS.fade, Pev.OutS.calm, Pev.Out.toS, Pev.Out.bind, Pev.noX, Pev.eVar, Pev.eC, Pev.eBin, Pev.eUn, Pev.eArgs, Pev.aCons, Pev.aNil, Pev.needN, Pev.eAnd, Pev.eOr, Pev.eNot, Pev.eIf, Pev.mAnd, Pev.mOr, Pev.mNot, Pev.mB, Pev.mT, Pev.eChain, Pev.truth, Pev.ofT, Pev.ofB, Pev.R.d?, Pev.eLc, Pev.iOf, Pev.iArgs, Pev.gN, Pev.gTp, Pev.gsCons, Pev.gsNil, Pev.tv, Pev.eBMl, Pev.eFld, Pev.tYes', Pev.wipeR, Pev.permL, List.map_cons, List.map_nil, List.length_cons, List.length_nil, List.cons_append, List.nil_append, List.append_nil, List.replicate, List.getElem?_cons_zero, List.getElem?_cons_succ, List.getElem?_nil, List.set_cons_zero, List.set_cons_succ, List.set_nil, List.filterMap_cons, List.filterMap_nil, Option.map_some, Option.map_none, Option.bind_some, Option.bind_none, if_true, if_false, Bool.not_true, Bool.not_false, Nat.reduceSub, Nat.reduceAdd, Nat.reduceEqDiff, Nat.reduceLeDiff, reduceIte, ite_true, ite_false, Bool.true_eq_false, Bool.false_eq_true, ↓reduceIte, Nat.zero_add, Nat.add_zero, Nat.sub_zero, id_eq, Bool.or_false, Bool.or_true, Bool.true_or, Bool.false_or, Bool.and_true, Bool.true_and, Bool.and_false, Bool.false_and, Bool.and_self, Bool.or_self, t1]
theorem g2_ok : g2 (rhoS x (.int (n : Nat)) d2 d3 x4 x5 x6 x7 x8 x9 x10 x11 x12 x13) [] = .nx (rhoS x (.int (n : Nat)) d2 d3 x4 x5 x6 x7 x8 x9 x10 x11 x12 x13) [] := by
  have n1 := three_call (need_ok (n := n) (w := "near")) []
  unfold g2 rhoS T2
  simp only [Pev.fnB, Pev.OutS.toF, Pev.sCons, Pev.sSet, Pev.sRet, Pev.sRetN, Pev.sIf, Pev.sSkip, Pev.sExpr, Pev.sTgt, Pev.sFor, Pev.sRaise, Pev.sPut, Pev.sAugS, Pev.sPar2, Pev.sPar3, Pev.OutS.fade, Pev.OutS.calm, Pev.Out.toS, Pev.Out.bind, Pev.noX, Pev.eVar, Pev.eC, Pev.eBin, Pev.eUn, Pev.eArgs, Pev.aCons, Pev.aNil, Pev.needN, Pev.eAnd, Pev.eOr, Pev.eNot, Pev.eIf, Pev.mAnd, Pev.mOr, Pev.mNot, Pev.mB, Pev.mT, Pev.eChain, Pev.truth, Pev.ofT, Pev.ofB, Pev.R.d?, Pev.eLc, Pev.iOf, Pev.iArgs, Pev.gN, Pev.gTp, Pev.gsCons, Pev.gsNil, Pev.tv, Pev.eBMl, Pev.eFld, Pev.tYes', Pev.wipeR, Pev.permL, List.map_cons, List.map_nil, List.length_cons, List.length_nil, List.cons_append, List.nil_append, List.append_nil, List.replicate, List.getElem?_cons_zero, List.getElem?_cons_succ, List.getElem?_nil, List.set_cons_zero, List.set_cons_succ, List.set_nil, List.filterMap_cons, List.filterMap_nil, Option.map_some, Option.map_none, Option.bind_some, Option.bind_none, if_true, if_false, Bool.not_true, Bool.not_false, Nat.reduceSub, Nat.reduceAdd, Nat.reduceEqDiff, Nat.reduceLeDiff, reduceIte, ite_true, ite_false, Bool.true_eq_false, Bool.false_eq_true, ↓reduceIte, Nat.zero_add, Nat.add_zero, Nat.sub_zero, id_eq, Bool.or_false, Bool.or_true, Bool.true_or, Bool.false_or, Bool.and_true, Bool.true_and, Bool.and_false, Bool.false_and, Bool.and_self, Bool.or_self, n1]
theorem g3_ok : g3 (rhoS x d1 d2 (.int (o : Nat)) x4 x5 x6 x7 x8 x9 x10 x11 x12 x13) [] = .nx (rhoS x d1 d2 (.int (o : Nat)) x4 x5 x6 x7 x8 x9 x10 x11 x12 x13) [] := by
  have n1 := three_call (need_ok (n := o) (w := "other")) []
  unfold g3 rhoS T2
  simp only [Pev.fnB, Pev.OutS.toF, Pev.sCons, Pev.sSet, Pev.sRet, Pev.sRetN, Pev.sIf, Pev.sSkip, Pev.sExpr, Pev.sTgt, Pev.sFor, Pev.sRaise, Pev.sPut, Pev.sAugS, Pev.sPar2, Pev.sPar3, Pev.OutS.fade, Pev.OutS.calm, Pev.Out.toS, Pev.Out.bind, Pev.noX, Pev.eVar, Pev.eC, Pev.eBin, Pev.eUn, Pev.eArgs, Pev.aCons, Pev.aNil, Pev.needN, Pev.eAnd, Pev.eOr, Pev.eNot, Pev.eIf, Pev.mAnd, Pev.mOr, Pev.mNot, Pev.mB, Pev.mT, Pev.eChain, Pev.truth, Pev.ofT, Pev.ofB, Pev.R.d?, Pev.eLc, Pev.iOf, Pev.iArgs, Pev.gN, Pev.gTp, Pev.gsCons, Pev.gsNil, Pev.tv, Pev.eBMl, Pev.eFld, Pev.tYes', Pev.wipeR, Pev.permL, List.map_cons, List.map_nil, List.length_cons, List.length_nil, List.cons_append, List.nil_append, List.append_nil, List.replicate, List.getElem?_cons_zero, List.getElem?_cons_succ, List.getElem?_nil, List.set_cons_zero, List.set_cons_succ, List.set_nil, List.filterMap_cons, List.filterMap_nil, Option.map_some, Option.map_none, Option.bind_some, Option.bind_none, if_true, if_false, Bool.not_true, Bool.not_false, Nat.reduceSub, Nat.reduceAdd, Nat.reduceEqDiff, Nat.reduceLeDiff, reduceIte, ite_true, ite_false, Bool.true_eq_false, Bool.false_eq_true, ↓reduceIte, Nat.zero_add, Nat.add_zero, Nat.sub_zero, id_eq, Bool.or_false, Bool.or_true, Bool.true_or, Bool.false_or, Bool.and_true, Bool.true_and, Bool.and_false, Bool.false_and, Bool.and_self, Bool.or_self, n1]
theorem g4t (hx : Fine x) (lx : x.length ≤ 60) (hn : n ≤ 60) : (mOr (mB (eBin bLt (eArgs gLen (aCons (eVar 0) aNil)) (eBin (bMul false) (eC (.int 2)) (eBin (bAdd false) (eVar 1) (eC (.int 1)))))) (mNot (mT (eArgs (needN 1 (pureF m_are_unlike)) (aCons (eLc false (iOf (eVar 0)) (gN 5) tYes' (eVar 5) [5]) aNil))))) (rhoS x (.int (n : Nat)) d2 d3 x4 x5 x6 x7 x8 x9 x10 x11 x12 x13) [] = .ok (decide ((x.length : Int) < ((2 * (n + 1) : Nat) : Int)) || !unl x) [] := by
  have gl := len_tx (l := x) (by omega) []
  have m2 : bMul false (.dat (.int 2)) (.dat (.int ((n + 1 : Nat) : Int))) [] = .ok (.dat (.int ((2 * (n + 1) : Nat) : Int))) [] := mul_nn (x := 2) (y := n + 1) (by omega) []
  have lt := lt_ii (x.length : Int) ((2 * (n + 1) : Nat) : Int) []
  have un := one_call (unlike_ok hx lx) []
  have sz := sz_of (show x.length ≤ 10000 by omega)
  have it : itOf (T2 x) [] = .ok ⟨x.map fun c => R.dat (sg c), []⟩ [] := by
    unfold itOf
    dsimp only
    rw [tx_codes]
    rfl
  have lc := lc_all (g := gN 5) (elt := eVar 5) (ρ := rhoS x (.int (n : Nat)) d2 d3 x4 none x6 x7 x8 x9 x10 x11 x12 x13) (S := []) (fun c : Nat => R.dat (sg c)) (fun c => R.dat (sg c)) x (fun c _ => ⟨_, rfl, rfl⟩)
  have nl := newL_f sg x []
  unfold rhoS T2 at *
  cases h : decide ((x.length : Int) < ((2 * (n + 1) : Nat) : Int)) with
  | true =>
    rw [h] at lt
    simp only [Pev.fnB, Pev.OutS.toF, Pev.sCons, Pev.sSet, Pev.sRet, Pev.sRetN, Pev.sIf, Pev.sSkip, Pev.sExpr, Pev.sTgt, Pev.sFor, Pev.sRaise, Pev.sPut, Pev.sAugS, Pev.sPar2, Pev.sPar3, Pev.OutS.fade, Pev.OutS.calm, Pev.Out.toS, Pev.Out.bind, Pev.noX, Pev.eVar, Pev.eC, Pev.eBin, Pev.eUn, Pev.eArgs, Pev.aCons, Pev.aNil, Pev.needN, Pev.eAnd, Pev.eOr, Pev.eNot, Pev.eIf, Pev.mAnd, Pev.mOr, Pev.mNot, Pev.mB, Pev.mT, Pev.eChain, Pev.truth, Pev.ofT, Pev.ofB, Pev.R.d?, Pev.eLc, Pev.iOf, Pev.iArgs, Pev.gN, Pev.gTp, Pev.gsCons, Pev.gsNil, Pev.tv, Pev.eBMl, Pev.eFld, Pev.tYes', Pev.wipeR, Pev.permL, List.map_cons, List.map_nil, List.length_cons, List.length_nil, List.cons_append, List.nil_append, List.append_nil, List.replicate, List.getElem?_cons_zero, List.getElem?_cons_succ, List.getElem?_nil, List.set_cons_zero, List.set_cons_succ, List.set_nil, List.filterMap_cons, List.filterMap_nil, Option.map_some, Option.map_none, Option.bind_some, Option.bind_none, if_true, if_false, Bool.not_true, Bool.not_false, Nat.reduceSub, Nat.reduceAdd, Nat.reduceEqDiff, Nat.reduceLeDiff, reduceIte, ite_true, ite_false, Bool.true_eq_false, Bool.false_eq_true, ↓reduceIte, Nat.zero_add, Nat.add_zero, Nat.sub_zero, id_eq, Bool.or_false, Bool.or_true, Bool.true_or, Bool.false_or, Bool.and_true, Bool.true_and, Bool.and_false, Bool.false_and, Bool.and_self, Bool.or_self, gl, add_n1, m2, lt]
  | false =>
    rw [h] at lt
    simp only [Pev.fnB, Pev.OutS.toF, Pev.sCons, Pev.sSet, Pev.sRet, Pev.sRetN, Pev.sIf, Pev.sSkip, Pev.sExpr, Pev.sTgt, Pev.sFor, Pev.sRaise, Pev.sPut, Pev.sAugS, Pev.sPar2, Pev.sPar3, Pev.OutS.fade, Pev.OutS.calm, Pev.Out.toS, Pev.Out.bind, Pev.noX, Pev.eVar, Pev.eC, Pev.eBin, Pev.eUn, Pev.eArgs, Pev.aCons, Pev.aNil, Pev.needN, Pev.eAnd, Pev.eOr, Pev.eNot, Pev.eIf, Pev.mAnd, Pev.mOr, Pev.mNot, Pev.mB, Pev.mT, Pev.eChain, Pev.truth, Pev.ofT, Pev.ofB, Pev.R.d?, Pev.eLc, Pev.iOf, Pev.iArgs, Pev.gN, Pev.gTp, Pev.gsCons, Pev.gsNil, Pev.tv, Pev.eBMl, Pev.eFld, Pev.tYes', Pev.wipeR, Pev.permL, List.map_cons, List.map_nil, List.length_cons, List.length_nil, List.cons_append, List.nil_append, List.append_nil, List.replicate, List.getElem?_cons_zero, List.getElem?_cons_succ, List.getElem?_nil, List.set_cons_zero, List.set_cons_succ, List.set_nil, List.filterMap_cons, List.filterMap_nil, Option.map_some, Option.map_none, Option.bind_some, Option.bind_none, if_true, if_false, Bool.not_true, Bool.not_false, Nat.reduceSub, Nat.reduceAdd, Nat.reduceEqDiff, Nat.reduceLeDiff, reduceIte, ite_true, ite_false, Bool.true_eq_false, Bool.false_eq_true, ↓reduceIte, Nat.zero_add, Nat.add_zero, Nat.sub_zero, id_eq, Bool.or_false, Bool.or_true, Bool.true_or, Bool.false_or, Bool.and_true, Bool.true_and, Bool.and_false, Bool.false_and, Bool.and_self, Bool.or_self, gl, add_n1, m2, lt, it, List.length_map, sz, lc, nl, un]
theorem g4_ok (hx : Fine x) (lx : x.length ≤ 60) (hn : n ≤ 60) (h : 2 * (n + 1) ≤ x.length) (nd : x.Nodup) : g4 (rhoS x (.int (n : Nat)) d2 d3 x4 x5 x6 x7 x8 x9 x10 x11 x12 x13) [] = .nx (rhoS x (.int (n : Nat)) d2 d3 x4 x5 x6 x7 x8 x9 x10 x11 x12 x13) [] := by
  have t := g4t (d2 := d2) (d3 := d3) (x4 := x4) (x5 := x5) (x6 := x6) (x7 := x7) (x8 := x8) (x9 := x9) (x10 := x10) (x11 := x11) (x12 := x12) (x13 := x13) hx lx hn
  rw [decide_eq_false (show ¬ ((x.length : Int) < ((2 * (n + 1) : Nat) : Int)) by omega), unl_yes nd] at t
  unfold g4 sIf
  rw [t]
  rfl
theorem g4_no (hx : Fine x) (lx : x.length ≤ 60) (hn : n ≤ 60) (h : x.length < 2 * (n + 1) ∨ unl x = false) : g4 (rhoS x (.int (n : Nat)) d2 d3 x4 x5 x6 x7 x8 x9 x10 x11 x12 x13) [] = .exc 2 (some (.int (-1))) (rhoS x (.int (n : Nat)) d2 d3 x4 x5 x6 x7 x8 x9 x10 x11 x12 x13) [] := by
  have t := g4t (d2 := d2) (d3 := d3) (x4 := x4) (x5 := x5) (x6 := x6) (x7 := x7) (x8 := x8) (x9 := x9) (x10 := x10) (x11 := x11) (x12 := x12) (x13 := x13) hx lx hn
  have e : (decide ((x.length : Int) < ((2 * (n + 1) : Nat) : Int)) || !unl x) = true := by
    rcases h with h | h
    · rw [decide_eq_true (by omega)]; rfl
    · rw [h]; simp
  rw [e] at t
  unfold g4 sIf
  rw [t]
  rfl
theorem g5_ok (t : Bool) : g5 (rhoS x d1 (lkd t q a) d3 x4 x5 x6 x7 x8 x9 x10 x11 x12 x13) [] = .nx (rhoS x d1 (lkd t q a) d3 x4 x5 x6 x7 x8 x9 x10 x11 x12 x13) [] := by
  have i1 : ∀ m : Nat, Gv m_is_integer [.int (m : Nat)] (.bool true) := fun _ => rfl
  have nm : ∀ m : Nat, Gv m_is_number [.int (m : Nat)] (.bool true) := fun m => by
    have i2 := one_call (i1 m) []
    have ge := ge_ii (m : Int) 0 []
    rw [decide_eq_true (by omega)] at ge
    unfold Gv m_is_number b_is_number
    simp only [Pev.fnB, Pev.OutS.toF, Pev.sCons, Pev.sSet, Pev.sRet, Pev.sRetN, Pev.sIf, Pev.sSkip, Pev.sExpr, Pev.sTgt, Pev.sFor, Pev.sRaise, Pev.sPut, Pev.sAugS, Pev.sPar2, Pev.sPar3, Pev.OutS.fade, Pev.OutS.calm, Pev.Out.toS, Pev.Out.bind, Pev.noX, Pev.eVar, Pev.eC, Pev.eBin, Pev.eUn, Pev.eArgs, Pev.aCons, Pev.aNil, Pev.needN, Pev.eAnd, Pev.eOr, Pev.eNot, Pev.eIf, Pev.mAnd, Pev.mOr, Pev.mNot, Pev.mB, Pev.mT, Pev.eChain, Pev.truth, Pev.ofT, Pev.ofB, Pev.R.d?, Pev.eLc, Pev.iOf, Pev.iArgs, Pev.gN, Pev.gTp, Pev.gsCons, Pev.gsNil, Pev.tv, Pev.eBMl, Pev.eFld, Pev.tYes', Pev.wipeR, Pev.permL, List.map_cons, List.map_nil, List.length_cons, List.length_nil, List.cons_append, List.nil_append, List.append_nil, List.replicate, List.getElem?_cons_zero, List.getElem?_cons_succ, List.getElem?_nil, List.set_cons_zero, List.set_cons_succ, List.set_nil, List.filterMap_cons, List.filterMap_nil, Option.map_some, Option.map_none, Option.bind_some, Option.bind_none, if_true, if_false, Bool.not_true, Bool.not_false, Nat.reduceSub, Nat.reduceAdd, Nat.reduceEqDiff, Nat.reduceLeDiff, reduceIte, ite_true, ite_false, Bool.true_eq_false, Bool.false_eq_true, ↓reduceIte, Nat.zero_add, Nat.add_zero, Nat.sub_zero, id_eq, Bool.or_false, Bool.or_true, Bool.true_or, Bool.false_or, Bool.and_true, Bool.true_and, Bool.and_false, Bool.false_and, Bool.and_self, Bool.or_self, i2, ge, outD_dat]
  have n1 := one_call (nm q) []
  have n2 := one_call (nm a) []
  have ga : gAll [.dat (.list [.bool true, .bool true])] [] = .ok (.dat (.bool true)) [] := rfl
  have nl : newL false [.dat (.bool true), .dat (.bool true)] [] = .ok (.dat (.list [.bool true, .bool true])) [] := rfl
  have t2 := two_small
  unfold lkd
  cases t with
  | true =>
    have ip : Gv m_is_pair [.tuple [.int (q : Nat), .int (a : Nat)]] (.bool true) := rfl
    have ip := one_call ip []
    have it : itOf (.dat (.tuple [.int (q : Nat), .int (a : Nat)])) [] = .ok ⟨[.dat (.int (q : Nat)), .dat (.int (a : Nat))], []⟩ [] := rfl
    simp only [if_true]
    unfold g5 rhoS T2
    simp only [Pev.fnB, Pev.OutS.toF, Pev.sCons, Pev.sSet, Pev.sRet, Pev.sRetN, Pev.sIf, Pev.sSkip, Pev.sExpr, Pev.sTgt, Pev.sFor, Pev.sRaise, Pev.sPut, Pev.sAugS, Pev.sPar2, Pev.sPar3, Pev.OutS.fade, Pev.OutS.calm, Pev.Out.toS, Pev.Out.bind, Pev.noX, Pev.eVar, Pev.eC, Pev.eBin, Pev.eUn, Pev.eArgs, Pev.aCons, Pev.aNil, Pev.needN, Pev.eAnd, Pev.eOr, Pev.eNot, Pev.eIf, Pev.mAnd, Pev.mOr, Pev.mNot, Pev.mB, Pev.mT, Pev.eChain, Pev.truth, Pev.ofT, Pev.ofB, Pev.R.d?, Pev.eLc, Pev.iOf, Pev.iArgs, Pev.gN, Pev.gTp, Pev.gsCons, Pev.gsNil, Pev.tv, Pev.eBMl, Pev.eFld, Pev.tYes', Pev.wipeR, Pev.permL, List.map_cons, List.map_nil, List.length_cons, List.length_nil, List.cons_append, List.nil_append, List.append_nil, List.replicate, List.getElem?_cons_zero, List.getElem?_cons_succ, List.getElem?_nil, List.set_cons_zero, List.set_cons_succ, List.set_nil, List.filterMap_cons, List.filterMap_nil, Option.map_some, Option.map_none, Option.bind_some, Option.bind_none, if_true, if_false, Bool.not_true, Bool.not_false, Nat.reduceSub, Nat.reduceAdd, Nat.reduceEqDiff, Nat.reduceLeDiff, reduceIte, ite_true, ite_false, Bool.true_eq_false, Bool.false_eq_true, ↓reduceIte, Nat.zero_add, Nat.add_zero, Nat.sub_zero, id_eq, Bool.or_false, Bool.or_true, Bool.true_or, Bool.false_or, Bool.and_true, Bool.true_and, Bool.and_false, Bool.false_and, Bool.and_self, Bool.or_self, ip, it, eq_true t2, lcLoop, stands_nil, n1, n2, nl, ga]
  | false =>
    have ip : Gv m_is_pair [.list [.int (q : Nat), .int (a : Nat)]] (.bool true) := rfl
    have ip := one_call ip []
    have it : itOf (.dat (.list [.int (q : Nat), .int (a : Nat)])) [] = .ok ⟨[.dat (.int (q : Nat)), .dat (.int (a : Nat))], []⟩ [] := rfl
    simp only [Bool.false_eq_true, if_false]
    unfold g5 rhoS T2
    simp only [Pev.fnB, Pev.OutS.toF, Pev.sCons, Pev.sSet, Pev.sRet, Pev.sRetN, Pev.sIf, Pev.sSkip, Pev.sExpr, Pev.sTgt, Pev.sFor, Pev.sRaise, Pev.sPut, Pev.sAugS, Pev.sPar2, Pev.sPar3, Pev.OutS.fade, Pev.OutS.calm, Pev.Out.toS, Pev.Out.bind, Pev.noX, Pev.eVar, Pev.eC, Pev.eBin, Pev.eUn, Pev.eArgs, Pev.aCons, Pev.aNil, Pev.needN, Pev.eAnd, Pev.eOr, Pev.eNot, Pev.eIf, Pev.mAnd, Pev.mOr, Pev.mNot, Pev.mB, Pev.mT, Pev.eChain, Pev.truth, Pev.ofT, Pev.ofB, Pev.R.d?, Pev.eLc, Pev.iOf, Pev.iArgs, Pev.gN, Pev.gTp, Pev.gsCons, Pev.gsNil, Pev.tv, Pev.eBMl, Pev.eFld, Pev.tYes', Pev.wipeR, Pev.permL, List.map_cons, List.map_nil, List.length_cons, List.length_nil, List.cons_append, List.nil_append, List.append_nil, List.replicate, List.getElem?_cons_zero, List.getElem?_cons_succ, List.getElem?_nil, List.set_cons_zero, List.set_cons_succ, List.set_nil, List.filterMap_cons, List.filterMap_nil, Option.map_some, Option.map_none, Option.bind_some, Option.bind_none, if_true, if_false, Bool.not_true, Bool.not_false, Nat.reduceSub, Nat.reduceAdd, Nat.reduceEqDiff, Nat.reduceLeDiff, reduceIte, ite_true, ite_false, Bool.true_eq_false, Bool.false_eq_true, ↓reduceIte, Nat.zero_add, Nat.add_zero, Nat.sub_zero, id_eq, Bool.or_false, Bool.or_true, Bool.true_or, Bool.false_or, Bool.and_true, Bool.true_and, Bool.and_false, Bool.false_and, Bool.and_self, Bool.or_self, ip, it, eq_true t2, lcLoop, stands_nil, n1, n2, nl, ga]
end
end Lw
namespace Lw
open PySem Pev
open L2 (atI ixN cutS)
theorem fit_pr (a b : Nat) : Fit 1 (pr a b) := fit_tup fun d hd => by
  simp only [List.mem_cons, List.not_mem_nil, or_false] at hd
  rcases hd with rfl | rfl <;> exact fit_int 0 _
theorem fit_prs {α : Type} (f : α → PyData) (h : ∀ a, Fit 1 (f a)) (l : List α) : Fit 2 (.tuple (l.map f)) := fit_tup fun d hd => by
  obtain ⟨a, _, rfl⟩ := List.mem_map.mp hd
  exact h a
theorem fit_prl (l : List (Nat × Nat)) : Fit 2 (.list (l.map prI)) := fit_lst fun d hd => by
  obtain ⟨a, _, rfl⟩ := List.mem_map.mp hd
  exact fit_pr _ _
theorem eqv_prI (u v : Nat × Nat) : PyData.eqv (prI u) (prI v) = decide (u = v) := by
  rw [Bool.eq_iff_iff, eqv_iff rfl rfl, decide_eq_true_eq]
  constructor
  · intro h
    unfold prI pr at h
    injection h with h
    injection h with h1 h
    injection h with h2 _
    injection h1 with h1
    injection h2 with h2
    exact Prod.ext (by omega) (by omega)
  · exact fun h => by rw [h]
theorem in_lk (l : List (Nat × Nat)) (q a : Nat) (S : Sto) : bIn true (.dat (pr q a)) (.dat (.list (l.map prI))) S = .ok (.dat (.bool (!decide ((q, a) ∈ l)))) S := by
  rw [bin_list ((fit_pr q a).up (show 1 ≤ 2 by omega)) (fit_prl l), if_pos rfl]
  congr 4
  have e := any_eqv prI (fun u => decide (u = (q, a))) (d := pr q a) (xs := l) fun u _ => eqv_prI u (q, a)
  rw [e, Bool.eq_iff_iff, List.any_eq_true, decide_eq_true_eq]
  constructor
  · rintro ⟨d, hd, e⟩
    rwa [← of_decide_eq_true e]
  · exact fun h => ⟨(q, a), h, decide_eq_true rfl⟩
theorem gt_lkd (t : Bool) (q a : Nat) (S : Sto) : gTuple [.dat (lkd t q a)] S = .ok (.dat (pr q a)) S := by
  cases t with
  | true => rfl
  | false => exact gt_list _ S
def SGN : List Nat := [48, 49, 50, 51, 52, 53, 54, 55, 56, 57, 97, 98, 99, 100, 101, 102, 103, 104, 105, 106, 107, 108, 109, 110, 111, 112, 113, 114, 115, 116, 117, 118, 119, 120, 121, 122, 65, 66, 67, 68, 69, 70, 71, 72, 73, 74, 75, 76, 77, 78, 79, 80, 81, 82, 83, 84, 85, 86, 87, 88, 89, 90]
theorem SGN_eq : (PyData.str "0123456789abcdefghijklmnopqrstuvwxyzABCDEFGHIJKLMNOPQRSTUVWXYZ") = .str (tx SGN) := by kernel_rfl
theorem it_tx (l : List Nat) (S : Sto) : itOf (T2 l) S = .ok ⟨l.map fun c => R.dat (sg c), []⟩ S := by
  unfold itOf
  dsimp only
  rw [tx_codes]
  rfl
theorem ix_lk0 (t : Bool) (q a : Nat) (S : Sto) : bIx (.dat (lkd t q a)) (.dat (.int 0)) S = .ok (nR q) S := by cases t <;> rfl
theorem ix_lk1 (t : Bool) (q a : Nat) (S : Sto) : bIx (.dat (lkd t q a)) (.dat (.int 1)) S = .ok (nR a) S := by cases t <;> rfl
section
variable {x : List Nat} {n q a o : Nat} {t : Bool} {x4 x5 x6 x7 x8 x9 x10 x11 x12 x13 : Option R}
theorem g6t (lx : x.length ≤ 20) (hn : n ≤ 3) (ho : o ≤ 20) : (mB (eBin (bIn true) (eArgs gTuple (aCons (eVar 2) aNil)) (eArgs (needN 3 (pureF m_looks_of)) (aCons (eArgs gLen (aCons (eVar 0) aNil)) (aCons (eVar 1) (aCons (eVar 3) aNil)))))) (rhoS x (.int (n : Nat)) (lkd t q a) (.int (o : Nat)) x4 x5 x6 x7 x8 x9 x10 x11 x12 x13) [] = .ok (!decide ((q, a) ∈ lk x.length n o)) [] := by
  have gt := gt_lkd t q a []
  have gl := len_tx (l := x) (by omega) []
  have lo := three_call (looks_ok (L := x.length) (n := n) (o := o) lx hn ho) []
  have inn := in_lk (lk x.length n o) q a []
  unfold rhoS T2
  simp only [Pev.fnB, Pev.OutS.toF, Pev.sCons, Pev.sSet, Pev.sRet, Pev.sRetN, Pev.sIf, Pev.sSkip, Pev.sExpr, Pev.sTgt, Pev.sFor, Pev.sRaise, Pev.sPut, Pev.sAugS, Pev.sPar2, Pev.sPar3, Pev.OutS.fade, Pev.OutS.calm, Pev.Out.toS, Pev.Out.bind, Pev.noX, Pev.eVar, Pev.eC, Pev.eBin, Pev.eUn, Pev.eArgs, Pev.aCons, Pev.aNil, Pev.needN, Pev.eAnd, Pev.eOr, Pev.eNot, Pev.eIf, Pev.mAnd, Pev.mOr, Pev.mNot, Pev.mB, Pev.mT, Pev.eChain, Pev.truth, Pev.ofT, Pev.ofB, Pev.R.d?, Pev.eLc, Pev.iOf, Pev.iArgs, Pev.gN, Pev.gTp, Pev.gsCons, Pev.gsNil, Pev.tv, Pev.eBMl, Pev.eFld, Pev.tYes', Pev.wipeR, Pev.permL, List.map_cons, List.map_nil, List.length_cons, List.length_nil, List.cons_append, List.nil_append, List.append_nil, List.replicate, List.getElem?_cons_zero, List.getElem?_cons_succ, List.getElem?_nil, List.set_cons_zero, List.set_cons_succ, List.set_nil, List.filterMap_cons, List.filterMap_nil, Option.map_some, Option.map_none, Option.bind_some, Option.bind_none, if_true, if_false, Bool.not_true, Bool.not_false, Nat.reduceSub, Nat.reduceAdd, Nat.reduceEqDiff, Nat.reduceLeDiff, reduceIte, ite_true, ite_false, Bool.true_eq_false, Bool.false_eq_true, ↓reduceIte, Nat.zero_add, Nat.add_zero, Nat.sub_zero, id_eq, Bool.or_false, Bool.or_true, Bool.true_or, Bool.false_or, Bool.and_true, Bool.true_and, Bool.and_false, Bool.false_and, Bool.and_self, Bool.or_self, gt, gl, lo, inn]
theorem g6_ok (lx : x.length ≤ 20) (hn : n ≤ 3) (ho : o ≤ 20) (h : (q, a) ∈ lk x.length n o) : g6 (rhoS x (.int (n : Nat)) (lkd t q a) (.int (o : Nat)) x4 x5 x6 x7 x8 x9 x10 x11 x12 x13) [] = .nx (rhoS x (.int (n : Nat)) (lkd t q a) (.int (o : Nat)) x4 x5 x6 x7 x8 x9 x10 x11 x12 x13) [] := by
  have e := g6t (q := q) (a := a) (t := t) (x4 := x4) (x5 := x5) (x6 := x6) (x7 := x7) (x8 := x8) (x9 := x9) (x10 := x10) (x11 := x11) (x12 := x12) (x13 := x13) lx hn ho
  rw [decide_eq_true h] at e
  unfold g6 sIf
  rw [e]
  rfl
theorem g6_no (lx : x.length ≤ 20) (hn : n ≤ 3) (ho : o ≤ 20) (h : (q, a) ∉ lk x.length n o) : g6 (rhoS x (.int (n : Nat)) (lkd t q a) (.int (o : Nat)) x4 x5 x6 x7 x8 x9 x10 x11 x12 x13) [] = .exc 1 (some (.int (-1))) (rhoS x (.int (n : Nat)) (lkd t q a) (.int (o : Nat)) x4 x5 x6 x7 x8 x9 x10 x11 x12 x13) [] := by
  have e := g6t (q := q) (a := a) (t := t) (x4 := x4) (x5 := x5) (x6 := x6) (x7 := x7) (x8 := x8) (x9 := x9) (x10 := x10) (x11 := x11) (x12 := x12) (x13 := x13) lx hn ho
  rw [decide_eq_false h] at e
  unfold g6 sIf
  rw [e]
  rfl
abbrev plR (x : List Nat) (n : Nat) : R := .dat (.list (plL x.length n))
theorem g7_ok (lx : x.length ≤ 20) (hn : n ≤ 3) (h0 : 48 ∉ x) {d2 d3 : PyData} : g7 (rhoS x (.int (n : Nat)) d2 d3 x4 x5 x6 x7 x8 x9 x10 x11 x12 x13) [] = .nx (rhoS x (.int (n : Nat)) d2 d3 (some (plR x n)) (some (.dat (sg 48))) x6 x7 x8 x9 x10 x11 x12 x13) [] := by
  have gl := len_tx (l := x) (by omega) []
  have pl := two_call (places_ok (L := x.length) (n := n) (by omega) (by omega)) []
  have it := it_tx SGN []
  have lc := lc_pure (keep := []) (g := gN 5) (t := mB (eBin (bIn true) (eVar 5) (eVar 0))) (elt := eVar 5) (ρ := rhoS x (.int (n : Nat)) d2 d3 x4 none x6 x7 x8 x9 x10 x11 x12 x13) (S := []) (fun c : Nat => R.dat (sg c)) (fun c => !decide (c ∈ x)) (fun c => R.dat (sg c)) stands_nil SGN (fun c _ => ⟨_, rfl, by
    have i1 := in_tx x c []
    show (mB (eBin (bIn true) (eVar 5) (eVar 0))) (rhoS x (.int (n : Nat)) d2 d3 x4 (some (.dat (sg c))) x6 x7 x8 x9 x10 x11 x12 x13) [] = _
    unfold rhoS T2 at *
    simp only [Pev.fnB, Pev.OutS.toF, Pev.sCons, Pev.sSet, Pev.sRet, Pev.sRetN, Pev.sIf, Pev.sSkip, Pev.sExpr, Pev.sTgt, Pev.sFor, Pev.sRaise, Pev.sPut, Pev.sAugS, Pev.sPar2, Pev.sPar3, Pev.OutS.fade, Pev.OutS.calm, Pev.Out.toS, Pev.Out.bind, Pev.noX, Pev.eVar, Pev.eC, Pev.eBin, Pev.eUn, Pev.eArgs, Pev.aCons, Pev.aNil, Pev.needN, Pev.eAnd, Pev.eOr, Pev.eNot, Pev.eIf, Pev.mAnd, Pev.mOr, Pev.mNot, Pev.mB, Pev.mT, Pev.eChain, Pev.truth, Pev.ofT, Pev.ofB, Pev.R.d?, Pev.eLc, Pev.iOf, Pev.iArgs, Pev.gN, Pev.gTp, Pev.gsCons, Pev.gsNil, Pev.tv, Pev.eBMl, Pev.eFld, Pev.tYes', Pev.wipeR, Pev.permL, List.map_cons, List.map_nil, List.length_cons, List.length_nil, List.cons_append, List.nil_append, List.append_nil, List.replicate, List.getElem?_cons_zero, List.getElem?_cons_succ, List.getElem?_nil, List.set_cons_zero, List.set_cons_succ, List.set_nil, List.filterMap_cons, List.filterMap_nil, Option.map_some, Option.map_none, Option.bind_some, Option.bind_none, if_true, if_false, Bool.not_true, Bool.not_false, Nat.reduceSub, Nat.reduceAdd, Nat.reduceEqDiff, Nat.reduceLeDiff, reduceIte, ite_true, ite_false, Bool.true_eq_false, Bool.false_eq_true, ↓reduceIte, Nat.zero_add, Nat.add_zero, Nat.sub_zero, id_eq, Bool.or_false, Bool.or_true, Bool.true_or, Bool.false_or, Bool.and_true, Bool.true_and, Bool.and_false, Bool.false_and, Bool.and_self, Bool.or_self, i1], fun _ => rfl⟩)
  have nl := newL_f sg (SGN.filter fun c => !decide (c ∈ x)) []
  have f0 : (SGN.filter fun c => !decide (c ∈ x))[0]? = some 48 := by
    unfold SGN
    rw [List.filter_cons, if_pos (by rw [decide_eq_false h0]; rfl)]
    rfl
  have ix : bIx (.dat (.list ((SGN.filter fun c => !decide (c ∈ x)).map sg))) (.dat (.int 0)) [] = .ok (.dat (sg 48)) [] := ix_list (f := sg) (i := 0) f0 (by
    have := List.length_filter_le (fun c => !decide (c ∈ x)) SGN
    have : SGN.length = 62 := rfl
    omega) []
  have sz := sz_of (show SGN.length ≤ 10000 by decide)
  unfold g7
  rw [SGN_eq]
  unfold rhoS T2 at *
  simp only [Pev.fnB, Pev.OutS.toF, Pev.sCons, Pev.sSet, Pev.sRet, Pev.sRetN, Pev.sIf, Pev.sSkip, Pev.sExpr, Pev.sTgt, Pev.sFor, Pev.sRaise, Pev.sPut, Pev.sAugS, Pev.sPar2, Pev.sPar3, Pev.OutS.fade, Pev.OutS.calm, Pev.Out.toS, Pev.Out.bind, Pev.noX, Pev.eVar, Pev.eC, Pev.eBin, Pev.eUn, Pev.eArgs, Pev.aCons, Pev.aNil, Pev.needN, Pev.eAnd, Pev.eOr, Pev.eNot, Pev.eIf, Pev.mAnd, Pev.mOr, Pev.mNot, Pev.mB, Pev.mT, Pev.eChain, Pev.truth, Pev.ofT, Pev.ofB, Pev.R.d?, Pev.eLc, Pev.iOf, Pev.iArgs, Pev.gN, Pev.gTp, Pev.gsCons, Pev.gsNil, Pev.tv, Pev.eBMl, Pev.eFld, Pev.tYes', Pev.wipeR, Pev.permL, List.map_cons, List.map_nil, List.length_cons, List.length_nil, List.cons_append, List.nil_append, List.append_nil, List.replicate, List.getElem?_cons_zero, List.getElem?_cons_succ, List.getElem?_nil, List.set_cons_zero, List.set_cons_succ, List.set_nil, List.filterMap_cons, List.filterMap_nil, Option.map_some, Option.map_none, Option.bind_some, Option.bind_none, if_true, if_false, Bool.not_true, Bool.not_false, Nat.reduceSub, Nat.reduceAdd, Nat.reduceEqDiff, Nat.reduceLeDiff, reduceIte, ite_true, ite_false, Bool.true_eq_false, Bool.false_eq_true, ↓reduceIte, Nat.zero_add, Nat.add_zero, Nat.sub_zero, id_eq, Bool.or_false, Bool.or_true, Bool.true_or, Bool.false_or, Bool.and_true, Bool.true_and, Bool.and_false, Bool.false_and, Bool.and_self, Bool.or_self, gl, pl, it, List.length_map, sz, lc, nl, ix]
theorem g8_ok (lx : x.length ≤ 20) (hn : n ≤ 3) (hq : q ≤ n) {d1 d3 : PyData} : g8 (rhoS x d1 (lkd t q a) d3 (some (plR x n)) x5 x6 x7 x8 x9 x10 x11 x12 x13) [] = .nx (rhoS x d1 (lkd t q a) d3 (some (plR x n)) x5 (some (.dat (.int ((a : Int) - cut x.length n q)))) (some (T2 [])) x8 x9 x10 x11 x12 x13) [] := by
  have i0 := ix_lk0 t q a []
  have i1 := ix_lk1 t q a []
  have ip := ixpl (L := x.length) (n := n) (p := q) (by omega) hq []
  have i2 : bIx (.dat (pr (cut x.length n q) (cut x.length n (q + 1)))) (.dat (.int 0)) [] = .ok (nR (cut x.length n q)) [] := rfl
  unfold g8
  unfold rhoS nR T2 at *
  simp only [Pev.fnB, Pev.OutS.toF, Pev.sCons, Pev.sSet, Pev.sRet, Pev.sRetN, Pev.sIf, Pev.sSkip, Pev.sExpr, Pev.sTgt, Pev.sFor, Pev.sRaise, Pev.sPut, Pev.sAugS, Pev.sPar2, Pev.sPar3, Pev.OutS.fade, Pev.OutS.calm, Pev.Out.toS, Pev.Out.bind, Pev.noX, Pev.eVar, Pev.eC, Pev.eBin, Pev.eUn, Pev.eArgs, Pev.aCons, Pev.aNil, Pev.needN, Pev.eAnd, Pev.eOr, Pev.eNot, Pev.eIf, Pev.mAnd, Pev.mOr, Pev.mNot, Pev.mB, Pev.mT, Pev.eChain, Pev.truth, Pev.ofT, Pev.ofB, Pev.R.d?, Pev.eLc, Pev.iOf, Pev.iArgs, Pev.gN, Pev.gTp, Pev.gsCons, Pev.gsNil, Pev.tv, Pev.eBMl, Pev.eFld, Pev.tYes', Pev.wipeR, Pev.permL, List.map_cons, List.map_nil, List.length_cons, List.length_nil, List.cons_append, List.nil_append, List.append_nil, List.replicate, List.getElem?_cons_zero, List.getElem?_cons_succ, List.getElem?_nil, List.set_cons_zero, List.set_cons_succ, List.set_nil, List.filterMap_cons, List.filterMap_nil, Option.map_some, Option.map_none, Option.bind_some, Option.bind_none, if_true, if_false, Bool.not_true, Bool.not_false, Nat.reduceSub, Nat.reduceAdd, Nat.reduceEqDiff, Nat.reduceLeDiff, reduceIte, ite_true, ite_false, Bool.true_eq_false, Bool.false_eq_true, ↓reduceIte, Nat.zero_add, Nat.add_zero, Nat.sub_zero, id_eq, Bool.or_false, Bool.or_true, Bool.true_or, Bool.false_or, Bool.and_true, Bool.true_and, Bool.and_false, Bool.false_and, Bool.and_self, Bool.or_self, i0, i1, ip, i2, sub_ii]
  rfl
theorem g9_ok (lx : x.length ≤ 20) {d1 d2 : PyData} {ah : Int} : g9 (rhoS x d1 d2 (.int (o : Nat)) x4 x5 (some (.dat (.int ah))) x7 x8 x9 x10 x11 x12 x13) [] = .nx (rhoS x d1 d2 (.int (o : Nat)) x4 x5 (some (.dat (.int ah))) x7 (some (.dat (.int ((o : Int) - x.length - ah)))) x9 x10 x11 x12 x13) [] := by
  have gl := len_tx (l := x) (by omega) []
  unfold g9
  unfold rhoS T2 at *
  simp only [Pev.fnB, Pev.OutS.toF, Pev.sCons, Pev.sSet, Pev.sRet, Pev.sRetN, Pev.sIf, Pev.sSkip, Pev.sExpr, Pev.sTgt, Pev.sFor, Pev.sRaise, Pev.sPut, Pev.sAugS, Pev.sPar2, Pev.sPar3, Pev.OutS.fade, Pev.OutS.calm, Pev.Out.toS, Pev.Out.bind, Pev.noX, Pev.eVar, Pev.eC, Pev.eBin, Pev.eUn, Pev.eArgs, Pev.aCons, Pev.aNil, Pev.needN, Pev.eAnd, Pev.eOr, Pev.eNot, Pev.eIf, Pev.mAnd, Pev.mOr, Pev.mNot, Pev.mB, Pev.mT, Pev.eChain, Pev.truth, Pev.ofT, Pev.ofB, Pev.R.d?, Pev.eLc, Pev.iOf, Pev.iArgs, Pev.gN, Pev.gTp, Pev.gsCons, Pev.gsNil, Pev.tv, Pev.eBMl, Pev.eFld, Pev.tYes', Pev.wipeR, Pev.permL, List.map_cons, List.map_nil, List.length_cons, List.length_nil, List.cons_append, List.nil_append, List.append_nil, List.replicate, List.getElem?_cons_zero, List.getElem?_cons_succ, List.getElem?_nil, List.set_cons_zero, List.set_cons_succ, List.set_nil, List.filterMap_cons, List.filterMap_nil, Option.map_some, Option.map_none, Option.bind_some, Option.bind_none, if_true, if_false, Bool.not_true, Bool.not_false, Nat.reduceSub, Nat.reduceAdd, Nat.reduceEqDiff, Nat.reduceLeDiff, reduceIte, ite_true, ite_false, Bool.true_eq_false, Bool.false_eq_true, ↓reduceIte, Nat.zero_add, Nat.add_zero, Nat.sub_zero, id_eq, Bool.or_false, Bool.or_true, Bool.true_or, Bool.false_or, Bool.and_true, Bool.true_and, Bool.and_false, Bool.false_and, Bool.and_self, Bool.or_self, gl, sub_ii]
/-! the loop -/
def gb1 : SM := (sSet 12 (eSl false (eVar 0) (some (eVar 10)) (some (eVar 11))))
def gb2 : SM := (sIf (mB (eBin bLt (eVar 9) (eBin bIx (eVar 2) (eC (.int 0))))) (sTgt (gTp 2 (gsCons (gN 12) (gsCons (gN 6) gsNil))) (eArgs (needN 3 (pureF m_spoilt_piece)) (aCons (eVar 12) (aCons (eVar 6) (aCons (eVar 5) aNil))))) (sIf (mB (eBin bGt (eVar 9) (eBin bIx (eVar 2) (eC (.int 0))))) (sTgt (gTp 2 (gsCons (gN 12) (gsCons (gN 8) gsNil))) (eArgs (needN 3 (pureF m_spoilt_piece)) (aCons (eVar 12) (aCons (eVar 8) (aCons (eVar 5) aNil))))) sSkip))
def gb3 : SM := (sSet 7 (eBin (bAdd false) (eVar 7) (eVar 12)))
def gbT : GM := (gTp 2 (gsCons (gN 9) (gsCons (gTp 2 (gsCons (gN 10) (gsCons (gN 11) gsNil))) gsNil)))
theorem g10_eq : g10 = sFor (iArgs gEnumU (aCons (eVar 4) aNil)) gbT (sCons gb1 (sCons gb2 gb3)) := rfl
theorem part_small {ah be : Int} {s p : Nat} (hp : p ≤ n) : (part x n q ah be s p).length ≤ cut x.length n (p + 1) - cut x.length n p + 1 := by
  have l := pc_len (x := x) hp
  have g : ∀ d, (sp (pc x n p) d s).length ≤ (pc x n p).length + 1 := fun d => by
    unfold sp
    split
    · simp only [List.length_append, List.length_take, List.length_drop, List.length_cons, List.length_nil]; omega
    · split
      · simp only [List.length_drop]; omega
      · simp only [List.length_append, List.length_drop, List.length_cons, List.length_nil]; omega
  unfold part
  split
  · have := g (nxs p ah); omega
  · split
    · have := g (nxs (p - q - 1) be); omega
    · omega
theorem ml_small {x : List Nat} {n q : Nat} {ah be : Int} {s : Nat} {i : Nat} (hi : i ≤ n + 1) : (ml x n q ah be s i).length ≤ cut x.length n i + i := by
  induction i with
  | zero => exact Nat.zero_le _
  | succ i ih0 =>
    have ih := ih0 (by omega)
    have ps := part_small (x := x) (q := q) (ah := ah) (be := be) (s := s) (p := i) (n := n) (by omega)
    have := cut_mono x.length n i
    rw [ml_succ, List.length_append]
    omega
abbrev rhoL2 (x : List Nat) (n : Nat) (d2 d3 : PyData) (ah : Int) (m : List Nat) (be : Int) (x9 x10 x11 x12 x13 : Option R) : Rho := rhoS x (.int (n : Nat)) d2 d3 (some (plR x n)) (some (.dat (sg 48))) (some (.dat (.int ah))) (some (T2 m)) (some (.dat (.int be))) x9 x10 x11 x12 x13
theorem sif_t {tm : TM} {b1 b2 : SM} {ρ : Rho} {S S1 : Sto} (h : tm ρ S = .ok true S1) : sIf tm b1 b2 ρ S = b1 ρ S1 := by
  unfold sIf
  rw [h]
  rfl
theorem sif_f {tm : TM} {b1 b2 : SM} {ρ : Rho} {S S1 : Sto} (h : tm ρ S = .ok false S1) : sIf tm b1 b2 ρ S = b2 ρ S1 := by
  unfold sIf
  rw [h]
  rfl
theorem stgt_ok {g : GM} {m : EM} {ρ ρ1 : Rho} {S S1 : Sto} {r : R} (h : m ρ S = .ok r S1) (hg : g r ρ = some ρ1) : sTgt g m ρ S = .nx ρ1 S1 := by
  unfold sTgt
  rw [h]
  dsimp only [Out.toS]
  rw [hg]
section
variable {ac bc : Int} {m w : List Nat} {d3 : PyData} {p : Nat}
theorem gbt1 : (mB (eBin bLt (eVar 9) (eBin bIx (eVar 2) (eC (.int 0))))) (rhoL2 x n (lkd t q a) d3 ac m bc (some (nR p)) x10 x11 x12 x13) [] = .ok (decide (p < q)) [] := by
  have i0 := ix_lk0 t q a []
  have lt := lt_ii (p : Int) (q : Int) []
  rw [show decide ((p : Int) < (q : Int)) = decide (p < q) from decide_eq_decide.mpr (by omega)] at lt
  unfold rhoL2 rhoS nR T2 at *
  simp only [Pev.fnB, Pev.OutS.toF, Pev.sCons, Pev.sSet, Pev.sRet, Pev.sRetN, Pev.sIf, Pev.sSkip, Pev.sExpr, Pev.sTgt, Pev.sFor, Pev.sRaise, Pev.sPut, Pev.sAugS, Pev.sPar2, Pev.sPar3, Pev.OutS.fade, Pev.OutS.calm, Pev.Out.toS, Pev.Out.bind, Pev.noX, Pev.eVar, Pev.eC, Pev.eBin, Pev.eUn, Pev.eArgs, Pev.aCons, Pev.aNil, Pev.needN, Pev.eAnd, Pev.eOr, Pev.eNot, Pev.eIf, Pev.mAnd, Pev.mOr, Pev.mNot, Pev.mB, Pev.mT, Pev.eChain, Pev.truth, Pev.ofT, Pev.ofB, Pev.R.d?, Pev.eLc, Pev.iOf, Pev.iArgs, Pev.gN, Pev.gTp, Pev.gsCons, Pev.gsNil, Pev.tv, Pev.eBMl, Pev.eFld, Pev.tYes', Pev.wipeR, Pev.permL, List.map_cons, List.map_nil, List.length_cons, List.length_nil, List.cons_append, List.nil_append, List.append_nil, List.replicate, List.getElem?_cons_zero, List.getElem?_cons_succ, List.getElem?_nil, List.set_cons_zero, List.set_cons_succ, List.set_nil, List.filterMap_cons, List.filterMap_nil, Option.map_some, Option.map_none, Option.bind_some, Option.bind_none, if_true, if_false, Bool.not_true, Bool.not_false, Nat.reduceSub, Nat.reduceAdd, Nat.reduceEqDiff, Nat.reduceLeDiff, reduceIte, ite_true, ite_false, Bool.true_eq_false, Bool.false_eq_true, ↓reduceIte, Nat.zero_add, Nat.add_zero, Nat.sub_zero, id_eq, Bool.or_false, Bool.or_true, Bool.true_or, Bool.false_or, Bool.and_true, Bool.true_and, Bool.and_false, Bool.false_and, Bool.and_self, Bool.or_self, i0, lt]
theorem gbt2 : (mB (eBin bGt (eVar 9) (eBin bIx (eVar 2) (eC (.int 0))))) (rhoL2 x n (lkd t q a) d3 ac m bc (some (nR p)) x10 x11 x12 x13) [] = .ok (decide (q < p)) [] := by
  have i0 := ix_lk0 t q a []
  have gt := gt_ii (p : Int) (q : Int) []
  rw [show decide ((p : Int) > (q : Int)) = decide (q < p) from decide_eq_decide.mpr (by omega)] at gt
  unfold rhoL2 rhoS nR T2 at *
  simp only [Pev.fnB, Pev.OutS.toF, Pev.sCons, Pev.sSet, Pev.sRet, Pev.sRetN, Pev.sIf, Pev.sSkip, Pev.sExpr, Pev.sTgt, Pev.sFor, Pev.sRaise, Pev.sPut, Pev.sAugS, Pev.sPar2, Pev.sPar3, Pev.OutS.fade, Pev.OutS.calm, Pev.Out.toS, Pev.Out.bind, Pev.noX, Pev.eVar, Pev.eC, Pev.eBin, Pev.eUn, Pev.eArgs, Pev.aCons, Pev.aNil, Pev.needN, Pev.eAnd, Pev.eOr, Pev.eNot, Pev.eIf, Pev.mAnd, Pev.mOr, Pev.mNot, Pev.mB, Pev.mT, Pev.eChain, Pev.truth, Pev.ofT, Pev.ofB, Pev.R.d?, Pev.eLc, Pev.iOf, Pev.iArgs, Pev.gN, Pev.gTp, Pev.gsCons, Pev.gsNil, Pev.tv, Pev.eBMl, Pev.eFld, Pev.tYes', Pev.wipeR, Pev.permL, List.map_cons, List.map_nil, List.length_cons, List.length_nil, List.cons_append, List.nil_append, List.append_nil, List.replicate, List.getElem?_cons_zero, List.getElem?_cons_succ, List.getElem?_nil, List.set_cons_zero, List.set_cons_succ, List.set_nil, List.filterMap_cons, List.filterMap_nil, Option.map_some, Option.map_none, Option.bind_some, Option.bind_none, if_true, if_false, Bool.not_true, Bool.not_false, Nat.reduceSub, Nat.reduceAdd, Nat.reduceEqDiff, Nat.reduceLeDiff, reduceIte, ite_true, ite_false, Bool.true_eq_false, Bool.false_eq_true, ↓reduceIte, Nat.zero_add, Nat.add_zero, Nat.sub_zero, id_eq, Bool.or_false, Bool.or_true, Bool.true_or, Bool.false_or, Bool.and_true, Bool.true_and, Bool.and_false, Bool.false_and, Bool.and_self, Bool.or_self, i0, gt]
theorem gb2_lt (h : p < q) (hw : 1 ≤ w.length) (lw : w.length ≤ 60) : gb2 (rhoL2 x n (lkd t q a) d3 ac m bc (some (nR p)) x10 x11 (some (T2 w)) x13) [] = .nx (rhoL2 x n (lkd t q a) d3 (nx ac) m bc (some (nR p)) x10 x11 (some (T2 (sp w ac 48))) x13) [] := by
  have tt := gbt1 (x := x) (n := n) (q := q) (a := a) (t := t) (d3 := d3) (ac := ac) (m := m) (bc := bc) (p := p) (x10 := x10) (x11 := x11) (x12 := some (T2 w)) (x13 := x13)
  rw [decide_eq_true h] at tt
  have sp1 := three_call (piece_sp (s := 48) (w := w) hw lw ac) []
  exact (sif_t tt).trans (stgt_ok sp1 rfl)
theorem gb2_gt (h : q < p) (hw : 1 ≤ w.length) (lw : w.length ≤ 60) : gb2 (rhoL2 x n (lkd t q a) d3 ac m bc (some (nR p)) x10 x11 (some (T2 w)) x13) [] = .nx (rhoL2 x n (lkd t q a) d3 ac m (nx bc) (some (nR p)) x10 x11 (some (T2 (sp w bc 48))) x13) [] := by
  have tt := gbt1 (x := x) (n := n) (q := q) (a := a) (t := t) (d3 := d3) (ac := ac) (m := m) (bc := bc) (p := p) (x10 := x10) (x11 := x11) (x12 := some (T2 w)) (x13 := x13)
  rw [decide_eq_false (by omega)] at tt
  have t2 := gbt2 (x := x) (n := n) (q := q) (a := a) (t := t) (d3 := d3) (ac := ac) (m := m) (bc := bc) (p := p) (x10 := x10) (x11 := x11) (x12 := some (T2 w)) (x13 := x13)
  rw [decide_eq_true h] at t2
  have sp1 := three_call (piece_sp (s := 48) (w := w) hw lw bc) []
  exact (sif_f tt).trans ((sif_t t2).trans (stgt_ok sp1 rfl))
theorem gb2_eq (h : p = q) : gb2 (rhoL2 x n (lkd t q a) d3 ac m bc (some (nR p)) x10 x11 x12 x13) [] = .nx (rhoL2 x n (lkd t q a) d3 ac m bc (some (nR p)) x10 x11 x12 x13) [] := by
  have tt := gbt1 (x := x) (n := n) (q := q) (a := a) (t := t) (d3 := d3) (ac := ac) (m := m) (bc := bc) (p := p) (x10 := x10) (x11 := x11) (x12 := x12) (x13 := x13)
  rw [decide_eq_false (by omega)] at tt
  have t2 := gbt2 (x := x) (n := n) (q := q) (a := a) (t := t) (d3 := d3) (ac := ac) (m := m) (bc := bc) (p := p) (x10 := x10) (x11 := x11) (x12 := x12) (x13 := x13)
  rw [decide_eq_false (by omega)] at t2
  exact (sif_f tt).trans ((sif_f t2).trans rfl)
end
theorem gb_ok {ah be : Int} {d3 : PyData} (lx : x.length ≤ 20) (hn : n ≤ 3) (h2 : 2 * (n + 1) ≤ x.length) {p : Nat} (hp : p ≤ n) :
    (sCons gb1 (sCons gb2 gb3)) (rhoL2 x n (lkd t q a) d3 (nxs (min p q) ah) (ml x n q ah be 48 p) (nxs (p - q - 1) be) (some (nR p)) (some (nR (cut x.length n p))) (some (nR (cut x.length n (p + 1)))) x12 x13) [] =
    .nx (rhoL2 x n (lkd t q a) d3 (nxs (min (p + 1) q) ah) (ml x n q ah be 48 (p + 1)) (nxs (p + 1 - q - 1) be) (some (nR p)) (some (nR (cut x.length n p))) (some (nR (cut x.length n (p + 1)))) (some (T2 (part x n q ah be 48 p))) x13) [] := by
  have cm := cut_mono x.length n p
  have cl := cut_le (L := x.length) (n := n) (p := p + 1) (by omega)
  have pl := pc_len (x := x) hp
  have p2 := pc_two h2 hp
  have ms := ml_small (x := x) (n := n) (q := q) (ah := ah) (be := be) (s := 48) (i := p) (by omega)
  have ps := part_small (x := x) (q := q) (ah := ah) (be := be) (s := 48) (p := p) (n := n) (by omega)
  have sl := sl_tx (l := x) (by omega) (i := cut x.length n p) (j := cut x.length n (p + 1)) (by omega) (by omega) []
  have e1 : gb1 (rhoL2 x n (lkd t q a) d3 (nxs (min p q) ah) (ml x n q ah be 48 p) (nxs (p - q - 1) be) (some (nR p)) (some (nR (cut x.length n p))) (some (nR (cut x.length n (p + 1)))) x12 x13) [] = .nx (rhoL2 x n (lkd t q a) d3 (nxs (min p q) ah) (ml x n q ah be 48 p) (nxs (p - q - 1) be) (some (nR p)) (some (nR (cut x.length n p))) (some (nR (cut x.length n (p + 1)))) (some (T2 (pc x n p))) x13) [] := by
    unfold gb1
    unfold rhoL2 rhoS nR T2 at *
    simp only [Pev.fnB, Pev.OutS.toF, Pev.sCons, Pev.sSet, Pev.sRet, Pev.sRetN, Pev.sIf, Pev.sSkip, Pev.sExpr, Pev.sTgt, Pev.sFor, Pev.sRaise, Pev.sPut, Pev.sAugS, Pev.sPar2, Pev.sPar3, Pev.OutS.fade, Pev.OutS.calm, Pev.Out.toS, Pev.Out.bind, Pev.noX, Pev.eVar, Pev.eC, Pev.eBin, Pev.eUn, Pev.eArgs, Pev.aCons, Pev.aNil, Pev.needN, Pev.eAnd, Pev.eOr, Pev.eNot, Pev.eIf, Pev.mAnd, Pev.mOr, Pev.mNot, Pev.mB, Pev.mT, Pev.eChain, Pev.truth, Pev.ofT, Pev.ofB, Pev.R.d?, Pev.eLc, Pev.iOf, Pev.iArgs, Pev.gN, Pev.gTp, Pev.gsCons, Pev.gsNil, Pev.tv, Pev.eBMl, Pev.eFld, Pev.tYes', Pev.wipeR, Pev.permL, List.map_cons, List.map_nil, List.length_cons, List.length_nil, List.cons_append, List.nil_append, List.append_nil, List.replicate, List.getElem?_cons_zero, List.getElem?_cons_succ, List.getElem?_nil, List.set_cons_zero, List.set_cons_succ, List.set_nil, List.filterMap_cons, List.filterMap_nil, Option.map_some, Option.map_none, Option.bind_some, Option.bind_none, if_true, if_false, Bool.not_true, Bool.not_false, Nat.reduceSub, Nat.reduceAdd, Nat.reduceEqDiff, Nat.reduceLeDiff, reduceIte, ite_true, ite_false, Bool.true_eq_false, Bool.false_eq_true, ↓reduceIte, Nat.zero_add, Nat.add_zero, Nat.sub_zero, id_eq, Bool.or_false, Bool.or_true, Bool.true_or, Bool.false_or, Bool.and_true, Bool.true_and, Bool.and_false, Bool.false_and, Bool.and_self, Bool.or_self, eSl, oPart, toI_i, sl]
    rfl
  have e2 : gb2 (rhoL2 x n (lkd t q a) d3 (nxs (min p q) ah) (ml x n q ah be 48 p) (nxs (p - q - 1) be) (some (nR p)) (some (nR (cut x.length n p))) (some (nR (cut x.length n (p + 1)))) (some (T2 (pc x n p))) x13) [] = .nx (rhoL2 x n (lkd t q a) d3 (nxs (min (p + 1) q) ah) (ml x n q ah be 48 p) (nxs (p + 1 - q - 1) be) (some (nR p)) (some (nR (cut x.length n p))) (some (nR (cut x.length n (p + 1)))) (some (T2 (part x n q ah be 48 p))) x13) [] := by
    unfold part
    by_cases q1 : p < q
    · rw [if_pos q1, show min p q = p by omega, show min (p + 1) q = p + 1 by omega, show p - q - 1 = 0 by omega, show p + 1 - q - 1 = 0 by omega, ← nx_nxs p ah]
      exact gb2_lt q1 (by omega) (by omega)
    · by_cases q2 : q < p
      · rw [if_neg q1, if_pos q2, show min (p + 1) q = min p q by omega, show p + 1 - q - 1 = (p - q - 1) + 1 by omega, ← nx_nxs (p - q - 1) be]
        exact gb2_gt q2 (by omega) (by omega)
      · rw [if_neg q1, if_neg q2, show min (p + 1) q = min p q by omega, show p + 1 - q - 1 = p - q - 1 by omega]
        exact gb2_eq (by omega)
  have ad := add_tx (l := ml x n q ah be 48 p) (k := part x n q ah be 48 p) (by omega) []
  rw [cons_nx e1, cons_nx e2, ml_succ]
  unfold gb3
  unfold rhoL2 rhoS nR T2 at *
  simp only [Pev.fnB, Pev.OutS.toF, Pev.sCons, Pev.sSet, Pev.sRet, Pev.sRetN, Pev.sIf, Pev.sSkip, Pev.sExpr, Pev.sTgt, Pev.sFor, Pev.sRaise, Pev.sPut, Pev.sAugS, Pev.sPar2, Pev.sPar3, Pev.OutS.fade, Pev.OutS.calm, Pev.Out.toS, Pev.Out.bind, Pev.noX, Pev.eVar, Pev.eC, Pev.eBin, Pev.eUn, Pev.eArgs, Pev.aCons, Pev.aNil, Pev.needN, Pev.eAnd, Pev.eOr, Pev.eNot, Pev.eIf, Pev.mAnd, Pev.mOr, Pev.mNot, Pev.mB, Pev.mT, Pev.eChain, Pev.truth, Pev.ofT, Pev.ofB, Pev.R.d?, Pev.eLc, Pev.iOf, Pev.iArgs, Pev.gN, Pev.gTp, Pev.gsCons, Pev.gsNil, Pev.tv, Pev.eBMl, Pev.eFld, Pev.tYes', Pev.wipeR, Pev.permL, List.map_cons, List.map_nil, List.length_cons, List.length_nil, List.cons_append, List.nil_append, List.append_nil, List.replicate, List.getElem?_cons_zero, List.getElem?_cons_succ, List.getElem?_nil, List.set_cons_zero, List.set_cons_succ, List.set_nil, List.filterMap_cons, List.filterMap_nil, Option.map_some, Option.map_none, Option.bind_some, Option.bind_none, if_true, if_false, Bool.not_true, Bool.not_false, Nat.reduceSub, Nat.reduceAdd, Nat.reduceEqDiff, Nat.reduceLeDiff, reduceIte, ite_true, ite_false, Bool.true_eq_false, Bool.false_eq_true, ↓reduceIte, Nat.zero_add, Nat.add_zero, Nat.sub_zero, id_eq, Bool.or_false, Bool.or_true, Bool.true_or, Bool.false_or, Bool.and_true, Bool.true_and, Bool.and_false, Bool.false_and, Bool.and_self, Bool.or_self, ad]
theorem g10_ok {ah be : Int} {d3 : PyData} (lx : x.length ≤ 20) (hn : n ≤ 3) (h2 : 2 * (n + 1) ≤ x.length) : ∃ x6 x8 x9 x10 x11 x12, g10 (rhoL2 x n (lkd t q a) d3 ah [] be none none none none none) [] = .nx (rhoS x (.int (n : Nat)) (lkd t q a) d3 (some (plR x n)) (some (.dat (sg 48))) x6 (some (T2 (ml x n q ah be 48 (n + 1)))) x8 x9 x10 x11 x12 none) [] := by
  obtain ⟨ρ', S', e, x9, x10, x11, x12, rfl, rfl⟩ := for_nx (keep := []) (g := gbT) (b := sCons gb1 (sCons gb2 gb3)) (fun p ρ S => ∃ x9 x10 x11 x12, ρ = rhoL2 x n (lkd t q a) d3 (nxs (min p q) ah) (ml x n q ah be 48 p) (nxs (p - q - 1) be) x9 x10 x11 x12 none ∧ S = []) ((List.range (n + 1)).map fun p : Nat => R.dat (.tuple [.int (p : Nat), pr (cut x.length n p) (cut x.length n (p + 1))])) (ρ := rhoL2 x n (lkd t q a) d3 ah [] be none none none none none) (S := []) ⟨none, none, none, none, by rw [show min 0 q = 0 by omega, show 0 - q - 1 = 0 by omega, nxs_0, nxs_0]; rfl, rfl⟩ (fun _ _ _ _ _ => stands_nil) (by
    rintro p r ρ S hr ⟨x9, x10, x11, x12, rfl, rfl⟩
    have hp := (List.getElem?_eq_some_iff.mp hr).1
    rw [List.length_map, List.length_range] at hp
    rw [List.getElem?_map, List.getElem?_range hp] at hr
    have := Option.some.inj hr
    subst this
    exact ⟨_, rfl, _, _, gb_ok lx hn h2 (by omega), _, _, _, _, rfl, rfl⟩)
  rw [List.length_map, List.length_range] at e
  have key : g10 (rhoL2 x n (lkd t q a) d3 ah [] be none none none none none) [] = .nx (rhoL2 x n (lkd t q a) d3 (nxs (min (n + 1) q) ah) (ml x n q ah be 48 (n + 1)) (nxs (n + 1 - q - 1) be) x9 x10 x11 x12 none) [] := by
    have en := en_plL x.length n []
    rw [g10_eq]
    unfold sFor
    rw [show iArgs gEnumU (aCons (eVar 4) aNil) (rhoL2 x n (lkd t q a) d3 ah [] be none none none none none) [] = _ from en]
    exact e
  exact ⟨_, _, _, _, _, _, key⟩
theorem spoilt_ok {x : List Nat} {n q a o : Nat} (t : Bool) (fx : Fine x) (nd : x.Nodup) (h0 : 48 ∉ x) (h2 : 2 * (n + 1) ≤ x.length) (lx : x.length ≤ 20) (hn : n ≤ 3) (ho : o ≤ 20) (hq : (q, a) ∈ lk x.length n o) :
    Gv m_spoilt_text [.str (tx x), .int (n : Nat), lkd t q a, .int (o : Nat)] (.str (tx (ml x n q ((a : Int) - cut x.length n q) ((o : Int) - x.length - ((a : Int) - cut x.length n q)) 48 (n + 1)))) := by
  have hqn := (mem_lk.mp hq).1
  have e1 := g1_ok (d1 := .int (n : Nat)) (d2 := lkd t q a) (d3 := .int (o : Nat)) (x4 := none) (x5 := none) (x6 := none) (x7 := none) (x8 := none) (x9 := none) (x10 := none) (x11 := none) (x12 := none) (x13 := none) fx (by omega)
  have e2 := g2_ok (x := x) (n := n) (d2 := lkd t q a) (d3 := .int (o : Nat)) (x4 := none) (x5 := none) (x6 := none) (x7 := none) (x8 := none) (x9 := none) (x10 := none) (x11 := none) (x12 := none) (x13 := none)
  have e3 := g3_ok (x := x) (o := o) (d1 := .int (n : Nat)) (d2 := lkd t q a) (x4 := none) (x5 := none) (x6 := none) (x7 := none) (x8 := none) (x9 := none) (x10 := none) (x11 := none) (x12 := none) (x13 := none)
  have e4 := g4_ok (d2 := lkd t q a) (d3 := .int (o : Nat)) (x4 := none) (x5 := none) (x6 := none) (x7 := none) (x8 := none) (x9 := none) (x10 := none) (x11 := none) (x12 := none) (x13 := none) fx (show x.length ≤ 60 by omega) (show n ≤ 60 by omega) h2 nd
  have e5 := g5_ok (x := x) (q := q) (a := a) (d1 := .int (n : Nat)) (d3 := .int (o : Nat)) (x4 := none) (x5 := none) (x6 := none) (x7 := none) (x8 := none) (x9 := none) (x10 := none) (x11 := none) (x12 := none) (x13 := none) t
  have e6 := g6_ok (t := t) (x4 := none) (x5 := none) (x6 := none) (x7 := none) (x8 := none) (x9 := none) (x10 := none) (x11 := none) (x12 := none) (x13 := none) lx hn ho hq
  have e7 := g7_ok (x4 := none) (x5 := none) (x6 := none) (x7 := none) (x8 := none) (x9 := none) (x10 := none) (x11 := none) (x12 := none) (x13 := none) lx hn h0 (d2 := lkd t q a) (d3 := .int (o : Nat))
  have e8 := g8_ok (t := t) (a := a) (x5 := some (.dat (sg 48))) (x6 := none) (x7 := none) (x8 := none) (x9 := none) (x10 := none) (x11 := none) (x12 := none) (x13 := none) lx hn hqn (d1 := .int (n : Nat)) (d3 := .int (o : Nat))
  have e9 := g9_ok (o := o) (x4 := some (plR x n)) (x5 := some (.dat (sg 48))) (x7 := some (T2 [])) (x8 := none) (x9 := none) (x10 := none) (x11 := none) (x12 := none) (x13 := none) lx (d1 := .int (n : Nat)) (d2 := lkd t q a) (ah := (a : Int) - cut x.length n q)
  obtain ⟨y6, y8, y9, y10, y11, y12, e10⟩ := g10_ok (t := t) (q := q) (a := a) (ah := (a : Int) - cut x.length n q) (be := (o : Int) - x.length - ((a : Int) - cut x.length n q)) (d3 := .int (o : Nat)) lx hn h2
  have all := (congrFun (congrFun b_spoilt_text_eq (rhoS x (.int (n : Nat)) (lkd t q a) (.int (o : Nat)) none none none none none none none none none none)) []).trans ((cons_nx e1).trans ((cons_nx e2).trans ((cons_nx e3).trans ((cons_nx e4).trans ((cons_nx e5).trans ((cons_nx e6).trans ((cons_nx e7).trans ((cons_nx e8).trans ((cons_nx e9).trans (cons_nx e10))))))))))
  show outD (OutS.toF (b_spoilt_text (rhoS x (.int (n : Nat)) (lkd t q a) (.int (o : Nat)) none none none none none none none none none none) [])) = _
  rw [all]
  rfl
end
end Lw
namespace Lw
open PySem Pev
open L2 (atI ixN cutS)
/-! ### what is refused -/
def dueOf (c : Nat) (f d : PyData) : Prop := (c = 0 ∧ d = .tuple [.str "text", f]) ∨ (c = 3 ∧ d = .tuple [.str "size", f]) ∨ (c = 1 ∧ d = .tuple [.str "index", f]) ∨ (c = 2 ∧ d = .tuple [.str "refused", f])
theorem refused_ok {hl : Nat → Sto → Out R} {i c : Nat} {f d : PyData} {S : Sto} (h : hl i S = .exc c (some f) S) (hd : dueOf c f d) : fnB 2 (b__law_refused hl) [.lam i none] S = .ok (.dat d) S := by
  have e : sExpr (eWork 0 hl) [some (.lam i none), none] S = .exc c (some f) [some (.lam i none), none] S := by
    show (hl i S).toS _ _ = _
    rw [h]
    rfl
  rcases hd with ⟨rfl, rfl⟩ | ⟨rfl, rfl⟩ | ⟨rfl, rfl⟩ | ⟨rfl, rfl⟩ <;>
  · show OutS.toF ((sCons (sTry (sExpr (eWork 0 hl)) _) _) [some (.lam i none), none] S) = _
    unfold sCons sTry
    rw [e]
    rfl
def wT (hl : Nat → Sto → Out R) : TM := (mB (eBin (bEq true) (eLCallB (fnB 2 (b__law_refused hl)) (eVar 9)) (eVar 10)))
theorem wt_ok {hl : Nat → Sto → Out R} {i c : Nat} {f d : PyData} {S : Sto} {ρ : Rho} (h : hl i S = .exc c (some f) S) (hd : dueOf c f d) (hq : bEq true (.dat d) (.dat d) S = .ok (.dat (.bool false)) S) (h4 : ρ[9]? = some (some (.lam i none))) (h5 : ρ[10]? = some (some (.dat d))) : wT hl ρ S = .ok false S := by
  have r := refused_ok h hd
  have e : eLCallB (fnB 2 (b__law_refused hl)) (eVar 9) ρ S = .ok (.dat d) S := by
    unfold eLCallB eVar
    rw [h4]
    exact r
  unfold wT
  generalize eLCallB (fnB 2 (b__law_refused hl)) (eVar 9) = m at e
  simp only [Pev.fnB, Pev.OutS.toF, Pev.sCons, Pev.sSet, Pev.sRet, Pev.sRetN, Pev.sIf, Pev.sSkip, Pev.sExpr, Pev.sTgt, Pev.sFor, Pev.sRaise, Pev.sPut, Pev.sAugS, Pev.sPar2, Pev.sPar3, Pev.OutS.fade, Pev.OutS.calm, Pev.Out.toS, Pev.Out.bind, Pev.noX, Pev.eVar, Pev.eC, Pev.eBin, Pev.eUn, Pev.eArgs, Pev.aCons, Pev.aNil, Pev.needN, Pev.eAnd, Pev.eOr, Pev.eNot, Pev.eIf, Pev.mAnd, Pev.mOr, Pev.mNot, Pev.mB, Pev.mT, Pev.eChain, Pev.truth, Pev.ofT, Pev.ofB, Pev.R.d?, Pev.eLc, Pev.iOf, Pev.iArgs, Pev.gN, Pev.gTp, Pev.gsCons, Pev.gsNil, Pev.tv, Pev.eBMl, Pev.eFld, Pev.tYes', Pev.wipeR, Pev.permL, List.map_cons, List.map_nil, List.length_cons, List.length_nil, List.cons_append, List.nil_append, List.append_nil, List.replicate, List.getElem?_cons_zero, List.getElem?_cons_succ, List.getElem?_nil, List.set_cons_zero, List.set_cons_succ, List.set_nil, List.filterMap_cons, List.filterMap_nil, Option.map_some, Option.map_none, Option.bind_some, Option.bind_none, if_true, if_false, Bool.not_true, Bool.not_false, Nat.reduceSub, Nat.reduceAdd, Nat.reduceEqDiff, Nat.reduceLeDiff, reduceIte, ite_true, ite_false, Bool.true_eq_false, Bool.false_eq_true, ↓reduceIte, Nat.zero_add, Nat.add_zero, Nat.sub_zero, id_eq, Bool.or_false, Bool.or_true, Bool.true_or, Bool.false_or, Bool.and_true, Bool.true_and, Bool.and_false, Bool.false_and, Bool.and_self, Bool.or_self, h5, e, hq]
theorem lc_none {keep : List (Nat × List R)} {g : GM} {t : TM} {elt : EM} {ρ : Rho} {S : Sto} (hst : stands S keep = true) : ∀ rs : List R, (∀ r ∈ rs, ∃ ρ1, g r ρ = some ρ1 ∧ t ρ1 S = .ok false S) → lcLoop keep g t elt ρ rs S = .ok [] S
  | [], _ => by unfold lcLoop; rw [if_pos hst]
  | r :: rs, h => by
    obtain ⟨ρ1, h1, h2⟩ := h r List.mem_cons_self
    unfold lcLoop
    rw [if_pos hst, h1]
    dsimp only
    rw [h2]
    exact lc_none hst rs fun r hr => h r (List.mem_cons_of_mem _ hr)
theorem app_lam {S : Sto} {rs : List R} {i : Nat} {d : PyData} {ed : EM} {ρ : Rho} (h3 : ρ[8]? = some (some (.obj S.length))) (hd : ∀ S, ed ρ S = .ok (.dat d) S) (hl : rs.length < 1000) : sExpr (eBMl gAppend (eVar 8) (aCons (eArgs gTupL (aCons (eLam i) (aCons ed aNil))) aNil)) ρ (S ++ [.lst rs]) = .nx ρ (S ++ [.lst (rs ++ [.lam i (some d)])]) := by
  have ho : eVar 8 ρ (S ++ [.lst rs]) = .ok (.obj S.length) (S ++ [.lst rs]) := by
    unfold eVar
    rw [h3]
  have hy : (eArgs gTupL (aCons (eLam i) (aCons ed aNil))) ρ (S ++ [.lst rs]) = .ok (.lam i (some d)) (S ++ [.lst rs]) := by
    simp only [Pev.fnB, Pev.OutS.toF, Pev.sCons, Pev.sSet, Pev.sRet, Pev.sRetN, Pev.sIf, Pev.sSkip, Pev.sExpr, Pev.sTgt, Pev.sFor, Pev.sRaise, Pev.sPut, Pev.sAugS, Pev.sPar2, Pev.sPar3, Pev.OutS.fade, Pev.OutS.calm, Pev.Out.toS, Pev.Out.bind, Pev.noX, Pev.eVar, Pev.eC, Pev.eBin, Pev.eUn, Pev.eArgs, Pev.aCons, Pev.aNil, Pev.needN, Pev.eAnd, Pev.eOr, Pev.eNot, Pev.eIf, Pev.mAnd, Pev.mOr, Pev.mNot, Pev.mB, Pev.mT, Pev.eChain, Pev.truth, Pev.ofT, Pev.ofB, Pev.R.d?, Pev.eLc, Pev.iOf, Pev.iArgs, Pev.gN, Pev.gTp, Pev.gsCons, Pev.gsNil, Pev.tv, Pev.eBMl, Pev.eFld, Pev.tYes', Pev.wipeR, Pev.permL, List.map_cons, List.map_nil, List.length_cons, List.length_nil, List.cons_append, List.nil_append, List.append_nil, List.replicate, List.getElem?_cons_zero, List.getElem?_cons_succ, List.getElem?_nil, List.set_cons_zero, List.set_cons_succ, List.set_nil, List.filterMap_cons, List.filterMap_nil, Option.map_some, Option.map_none, Option.bind_some, Option.bind_none, if_true, if_false, Bool.not_true, Bool.not_false, Nat.reduceSub, Nat.reduceAdd, Nat.reduceEqDiff, Nat.reduceLeDiff, reduceIte, ite_true, ite_false, Bool.true_eq_false, Bool.false_eq_true, ↓reduceIte, Nat.zero_add, Nat.add_zero, Nat.sub_zero, id_eq, Bool.or_false, Bool.or_true, Bool.true_or, Bool.false_or, Bool.and_true, Bool.true_and, Bool.and_false, Bool.false_and, Bool.and_self, Bool.or_self, eLam, hd, gTupL]
  have hk : (S ++ [.lst rs])[S.length]? = some (.lst rs) := by rw [List.getElem?_append_right (Nat.le_refl _), Nat.sub_self]; rfl
  rw [appO ho hk hy (by omega), List.set_append_right _ _ (Nat.le_refl _), Nat.sub_self]
  rfl
theorem four_throw {m : FM} {d e f g : PyData} {c : Nat} {z : PyData} (h : Tw m [d, e, f, g] c z) (S : Sto) : pureF m [.dat d, .dat e, .dat f, .dat g] S = .exc c (some z) S := pure_throws h (by rw [List.mapM_cons, snap_dat, List.mapM_cons, snap_dat, List.mapM_cons, snap_dat, List.mapM_cons, snap_dat]; rfl) rfl
theorem cons_exc {a b : SM} {ρ ρ1 : Rho} {S S1 : Sto} {c : Nat} {f : Option PyData} (h : a ρ S = .exc c f ρ1 S1) : sCons a b ρ S = .exc c f ρ1 S1 := by
  unfold sCons
  rw [h]
def wrL : List PyData := [.none, .bool true, .int (-1), .str "1"]
def odL : List PyData := [.none, .int 7, .tuple [.str "a"], .str "a\n"]
def bdL (n q a : Nat) : List PyData := [.none, .int 3, .tuple [], .tuple [.int (q : Nat), .int (a : Nat), .int 0], lkd true (n + 1) 0, lkd true 0 1, .tuple [.bool false, .int 0], .tuple [.int (-1), .int 0]]
theorem wr_cases {w : PyData} (h : w ∈ wrL) : w = .none ∨ w = .bool true ∨ w = .int (-1) ∨ w = .str "1" := by
  unfold wrL at h
  simpa only [List.mem_cons, List.not_mem_nil, or_false] using h
theorem od_cases {w : PyData} (h : w ∈ odL) : w = .none ∨ w = .int 7 ∨ w = .tuple [.str "a"] ∨ w = .str "a\n" := by
  unfold odL at h
  simpa only [List.mem_cons, List.not_mem_nil, or_false] using h
theorem bd_cases {n q a : Nat} {w : PyData} (h : w ∈ bdL n q a) : w = .none ∨ w = .int 3 ∨ w = .tuple [] ∨ w = .tuple [.int (q : Nat), .int (a : Nat), .int 0] ∨ w = lkd true (n + 1) 0 ∨ w = lkd true 0 1 ∨ w = .tuple [.bool false, .int 0] ∨ w = .tuple [.int (-1), .int 0] := by
  unfold bdL at h
  simpa only [List.mem_cons, List.not_mem_nil, or_false] using h
theorem nm_no {w : PyData} {s : Str} (hs : s = "near" ∨ s = "other") (h : w ∈ wrL) : Tw m_need_many [w, .str s, .int 0] 3 (.str s) := by
  rcases hs with rfl | rfl <;> rcases wr_cases h with rfl | rfl | rfl | rfl <;> (unfold Tw; kernel_rfl)
theorem three_throw {m : FM} {d e f : PyData} {c : Nat} {g : PyData} (h : Tw m [d, e, f] c g) (S : Sto) : pureF m [.dat d, .dat e, .dat f] S = .exc c (some g) S := pure_throws h (three_args S) rfl
section
variable {x : List Nat} {n q a o : Nat} {w d2 d3 od bd : PyData} {x4 x5 x6 x7 x8 x9 x10 x11 x12 x13 : Option R}
theorem g2_no (h : w ∈ wrL) : g2 (rhoS x w d2 d3 x4 x5 x6 x7 x8 x9 x10 x11 x12 x13) [] = .exc 3 (some (.str "near")) (rhoS x w d2 d3 x4 x5 x6 x7 x8 x9 x10 x11 x12 x13) [] := by
  have t := three_throw (nm_no (.inl rfl) h) []
  unfold g2 rhoS T2
  simp only [Pev.fnB, Pev.OutS.toF, Pev.sCons, Pev.sSet, Pev.sRet, Pev.sRetN, Pev.sIf, Pev.sSkip, Pev.sExpr, Pev.sTgt, Pev.sFor, Pev.sRaise, Pev.sPut, Pev.sAugS, Pev.sPar2, Pev.sPar3, Pev.OutS.fade, Pev.OutS.calm, Pev.Out.toS, Pev.Out.bind, Pev.noX, Pev.eVar, Pev.eC, Pev.eBin, Pev.eUn, Pev.eArgs, Pev.aCons, Pev.aNil, Pev.needN, Pev.eAnd, Pev.eOr, Pev.eNot, Pev.eIf, Pev.mAnd, Pev.mOr, Pev.mNot, Pev.mB, Pev.mT, Pev.eChain, Pev.truth, Pev.ofT, Pev.ofB, Pev.R.d?, Pev.eLc, Pev.iOf, Pev.iArgs, Pev.gN, Pev.gTp, Pev.gsCons, Pev.gsNil, Pev.tv, Pev.eBMl, Pev.eFld, Pev.tYes', Pev.wipeR, Pev.permL, List.map_cons, List.map_nil, List.length_cons, List.length_nil, List.cons_append, List.nil_append, List.append_nil, List.replicate, List.getElem?_cons_zero, List.getElem?_cons_succ, List.getElem?_nil, List.set_cons_zero, List.set_cons_succ, List.set_nil, List.filterMap_cons, List.filterMap_nil, Option.map_some, Option.map_none, Option.bind_some, Option.bind_none, if_true, if_false, Bool.not_true, Bool.not_false, Nat.reduceSub, Nat.reduceAdd, Nat.reduceEqDiff, Nat.reduceLeDiff, reduceIte, ite_true, ite_false, Bool.true_eq_false, Bool.false_eq_true, ↓reduceIte, Nat.zero_add, Nat.add_zero, Nat.sub_zero, id_eq, Bool.or_false, Bool.or_true, Bool.true_or, Bool.false_or, Bool.and_true, Bool.true_and, Bool.and_false, Bool.false_and, Bool.and_self, Bool.or_self, t]
theorem g3_no {d1 : PyData} (h : w ∈ wrL) : g3 (rhoS x d1 d2 w x4 x5 x6 x7 x8 x9 x10 x11 x12 x13) [] = .exc 3 (some (.str "other")) (rhoS x d1 d2 w x4 x5 x6 x7 x8 x9 x10 x11 x12 x13) [] := by
  have t := three_throw (nm_no (.inr rfl) h) []
  unfold g3 rhoS T2
  simp only [Pev.fnB, Pev.OutS.toF, Pev.sCons, Pev.sSet, Pev.sRet, Pev.sRetN, Pev.sIf, Pev.sSkip, Pev.sExpr, Pev.sTgt, Pev.sFor, Pev.sRaise, Pev.sPut, Pev.sAugS, Pev.sPar2, Pev.sPar3, Pev.OutS.fade, Pev.OutS.calm, Pev.Out.toS, Pev.Out.bind, Pev.noX, Pev.eVar, Pev.eC, Pev.eBin, Pev.eUn, Pev.eArgs, Pev.aCons, Pev.aNil, Pev.needN, Pev.eAnd, Pev.eOr, Pev.eNot, Pev.eIf, Pev.mAnd, Pev.mOr, Pev.mNot, Pev.mB, Pev.mT, Pev.eChain, Pev.truth, Pev.ofT, Pev.ofB, Pev.R.d?, Pev.eLc, Pev.iOf, Pev.iArgs, Pev.gN, Pev.gTp, Pev.gsCons, Pev.gsNil, Pev.tv, Pev.eBMl, Pev.eFld, Pev.tYes', Pev.wipeR, Pev.permL, List.map_cons, List.map_nil, List.length_cons, List.length_nil, List.cons_append, List.nil_append, List.append_nil, List.replicate, List.getElem?_cons_zero, List.getElem?_cons_succ, List.getElem?_nil, List.set_cons_zero, List.set_cons_succ, List.set_nil, List.filterMap_cons, List.filterMap_nil, Option.map_some, Option.map_none, Option.bind_some, Option.bind_none, if_true, if_false, Bool.not_true, Bool.not_false, Nat.reduceSub, Nat.reduceAdd, Nat.reduceEqDiff, Nat.reduceLeDiff, reduceIte, ite_true, ite_false, Bool.true_eq_false, Bool.false_eq_true, ↓reduceIte, Nat.zero_add, Nat.add_zero, Nat.sub_zero, id_eq, Bool.or_false, Bool.or_true, Bool.true_or, Bool.false_or, Bool.and_true, Bool.true_and, Bool.and_false, Bool.false_and, Bool.and_self, Bool.or_self, t]
abbrev rS0 (x : List Nat) (d1 d2 d3 : PyData) : Rho := rhoS x d1 d2 d3 none none none none none none none none none none
theorem tw_of {d1 : PyData} {c : Nat} {f : PyData} {ρ : Rho} (h : b_spoilt_text (rS0 x d1 d2 d3) [] = .exc c (some f) ρ []) : Tw m_spoilt_text [.str (tx x), d1, d2, d3] c f := by
  show outX (OutS.toF (b_spoilt_text (rS0 x d1 d2 d3) [])) = _
  rw [h]
  rfl
theorem w0 (hw : w ∈ wrL) (ho : od ∈ odL) : Tw m_spoilt_text [od, w, .none, w] 0 (.int (-1)) := by
  rcases od_cases ho with rfl | rfl | rfl | rfl <;> rcases wr_cases hw with rfl | rfl | rfl | rfl <;> (unfold Tw; kernel_rfl)
theorem w1 (hx : Fine x) (lx : x.length ≤ 60) (hw : w ∈ wrL) : Tw m_spoilt_text [.str (tx x), w, .none, w] 3 (.str "near") :=
  tw_of ((congrFun (congrFun b_spoilt_text_eq _) _).trans ((cons_nx (g1_ok hx lx)).trans (cons_exc (g2_no hw))))
theorem w2 (hx : Fine x) (lx : x.length ≤ 60) (hw : w ∈ wrL) : Tw m_spoilt_text [.str (tx x), .int (n : Nat), d2, w] 3 (.str "other") :=
  tw_of ((congrFun (congrFun b_spoilt_text_eq _) _).trans ((cons_nx (g1_ok hx lx)).trans ((cons_nx g2_ok).trans (cons_exc (g3_no hw)))))
theorem w34 (hx : Fine x) (lx : x.length ≤ 60) (hn : n ≤ 60) (h : x.length < 2 * (n + 1) ∨ unl x = false) : Tw m_spoilt_text [.str (tx x), .int (n : Nat), d2, .int (o : Nat)] 2 (.int (-1)) :=
  tw_of ((congrFun (congrFun b_spoilt_text_eq _) _).trans ((cons_nx (g1_ok hx lx)).trans ((cons_nx g2_ok).trans ((cons_nx g3_ok).trans (cons_exc (g4_no hx lx hn h))))))
theorem w5a (hx : Fine x) (lx : x.length ≤ 20) (hn : n ≤ 3) (h2 : 2 * (n + 1) ≤ x.length) (nd : x.Nodup) (h : g5 (rS0 x (.int (n : Nat)) d2 (.int (o : Nat))) [] = .exc 1 (some (.int (-1))) (rS0 x (.int (n : Nat)) d2 (.int (o : Nat))) []) : Tw m_spoilt_text [.str (tx x), .int (n : Nat), d2, .int (o : Nat)] 1 (.int (-1)) :=
  tw_of ((congrFun (congrFun b_spoilt_text_eq _) _).trans ((cons_nx (g1_ok hx (by omega))).trans ((cons_nx g2_ok).trans ((cons_nx g3_ok).trans ((cons_nx (g4_ok hx (by omega) (by omega) h2 nd)).trans (cons_exc h))))))
theorem w5b (hx : Fine x) (lx : x.length ≤ 20) (hn : n ≤ 3) (ho : o ≤ 20) (h2 : 2 * (n + 1) ≤ x.length) (nd : x.Nodup) (h : (q, a) ∉ lk x.length n o) : Tw m_spoilt_text [.str (tx x), .int (n : Nat), lkd true q a, .int (o : Nat)] 1 (.int (-1)) :=
  tw_of ((congrFun (congrFun b_spoilt_text_eq _) _).trans ((cons_nx (g1_ok hx (by omega))).trans ((cons_nx g2_ok).trans ((cons_nx g3_ok).trans ((cons_nx (g4_ok hx (by omega) (by omega) h2 nd)).trans ((cons_nx (g5_ok true)).trans (cons_exc (g6_no lx hn ho h))))))))
theorem w5 (hx : Fine x) (lx : x.length ≤ 20) (hn : n ≤ 3) (ho : o ≤ 20) (h2 : 2 * (n + 1) ≤ x.length) (nd : x.Nodup) (hb : bd ∈ bdL n q a) : Tw m_spoilt_text [.str (tx x), .int (n : Nat), bd, .int (o : Nat)] 1 (.int (-1)) := by
  rcases bd_cases hb with rfl | rfl | rfl | rfl | rfl | rfl | rfl | rfl
  · exact w5a hx lx hn h2 nd (by kernel_rfl)
  · exact w5a hx lx hn h2 nd (by kernel_rfl)
  · exact w5a hx lx hn h2 nd (by kernel_rfl)
  · exact w5a hx lx hn h2 nd (by kernel_rfl)
  · refine w5b hx lx hn ho h2 nd fun h => ?_
    have := (mem_lk.mp h).1
    dsimp only at this
    omega
  · refine w5b hx lx hn ho h2 nd fun h => ?_
    have := (mem_lk.mp h).2.2
    unfold okP at this
    dsimp only at this
    rw [cut_zero] at this
    omega
  · exact w5a hx lx hn h2 nd (by kernel_rfl)
  · exact w5a hx lx hn h2 nd (by kernel_rfl)
theorem w6 (hx : Fine x) (lx : x.length ≤ 15) (hn : n ≤ 3) (h2 : 2 * (n + 1) ≤ x.length) (nd : x.Nodup) : Tw m_spoilt_text [.str (tx x), .int (n : Nat), pr q a, .int ((x.length + n + 1 : Nat) : Int)] 1 (.int (-1)) := by
  refine w5b (q := q) (a := a) hx (by omega) hn (by omega) h2 nd fun h => ?_
  have := (mem_lk.mp h).2.2
  unfold okP at this
  dsimp only at this
  omega
end
theorem t0h {mbs : List EM} {ρ : Rho} {i c : Nat} {f : PyData} {mb : EM} {S : Sto} (h1 : mbs[i]? = some mb) (h2 : mb ρ S = .exc c (some f) S) : hlOf mbs ρ i S = .exc c (some f) S := by
  unfold hlOf
  rw [h1]
  dsimp only
  rw [h2]
  rfl
def wkL : List R := [.lam 0 (some (.tuple [.str "text", .int (-1)])), .lam 1 (some (.tuple [.str "size", .str "near"])), .lam 2 (some (.tuple [.str "size", .str "other"])), .lam 3 (some (.tuple [.str "refused", .int (-1)])), .lam 4 (some (.tuple [.str "refused", .int (-1)])), .lam 5 (some (.tuple [.str "index", .int (-1)])), .lam 6 (some (.tuple [.str "index", .int (-1)]))]
theorem wkL_same : sameRs wkL wkL = true := by kernel_rfl
abbrev rhoR (k : Nat) (x : List Nat) (n q a o : Nat) (w od bd : PyData) (x8 x9 x10 : Option R) : Rho := [some (.obj k), some (T2 x), some (nR n), some (.dat (pr q a)), some (nR o), some (.dat w), some (.dat od), some (.dat bd), x8, x9, x10]
theorem lm_no {k n q a o : Nat} {x : List Nat} {w od bd : PyData} {x8 : Option R} {S : Sto} (hx : Fine x) (lx : x.length ≤ 15) (hn : n ≤ 3) (ho : o ≤ 20) (h2 : 2 * (n + 1) ≤ x.length) (nd : x.Nodup) (hw : w ∈ wrL) (hod : od ∈ odL) (hb : bd ∈ bdL n q a) : ∀ r ∈ wkL, ∃ ρ1, gW2 9 10 r (rhoR k x n q a o w od bd x8 none none) = some ρ1 ∧ wT (hlOf lb__law_errors_0 (rhoR k x n q a o w od bd x8 none none)) ρ1 S = .ok false S := by
  have gl := len_tx (l := x) (by omega) S
  have l20 : x.length ≤ 20 := by omega
  have l60 : x.length ≤ 60 := by omega
  intro r hr
  unfold wkL at hr
  simp only [List.mem_cons, List.not_mem_nil, or_false] at hr
  rcases hr with rfl | rfl | rfl | rfl | rfl | rfl | rfl
  · have t := four_throw (w0 hw hod) S
    exact ⟨_, rfl, wt_ok (t0h rfl (by unfold rhoR T2 nR; simp only [Pev.fnB, Pev.OutS.toF, Pev.sCons, Pev.sSet, Pev.sRet, Pev.sRetN, Pev.sIf, Pev.sSkip, Pev.sExpr, Pev.sTgt, Pev.sFor, Pev.sRaise, Pev.sPut, Pev.sAugS, Pev.sPar2, Pev.sPar3, Pev.OutS.fade, Pev.OutS.calm, Pev.Out.toS, Pev.Out.bind, Pev.noX, Pev.eVar, Pev.eC, Pev.eBin, Pev.eUn, Pev.eArgs, Pev.aCons, Pev.aNil, Pev.needN, Pev.eAnd, Pev.eOr, Pev.eNot, Pev.eIf, Pev.mAnd, Pev.mOr, Pev.mNot, Pev.mB, Pev.mT, Pev.eChain, Pev.truth, Pev.ofT, Pev.ofB, Pev.R.d?, Pev.eLc, Pev.iOf, Pev.iArgs, Pev.gN, Pev.gTp, Pev.gsCons, Pev.gsNil, Pev.tv, Pev.eBMl, Pev.eFld, Pev.tYes', Pev.wipeR, Pev.permL, List.map_cons, List.map_nil, List.length_cons, List.length_nil, List.cons_append, List.nil_append, List.append_nil, List.replicate, List.getElem?_cons_zero, List.getElem?_cons_succ, List.getElem?_nil, List.set_cons_zero, List.set_cons_succ, List.set_nil, List.filterMap_cons, List.filterMap_nil, Option.map_some, Option.map_none, Option.bind_some, Option.bind_none, if_true, if_false, Bool.not_true, Bool.not_false, Nat.reduceSub, Nat.reduceAdd, Nat.reduceEqDiff, Nat.reduceLeDiff, reduceIte, ite_true, ite_false, Bool.true_eq_false, Bool.false_eq_true, ↓reduceIte, Nat.zero_add, Nat.add_zero, Nat.sub_zero, id_eq, Bool.or_false, Bool.or_true, Bool.true_or, Bool.false_or, Bool.and_true, Bool.true_and, Bool.and_false, Bool.false_and, Bool.and_self, Bool.or_self, t])) (.inl ⟨rfl, rfl⟩) (by kernel_rfl) rfl rfl⟩
  · have t := four_throw (w1 hx l60 hw) S
    exact ⟨_, rfl, wt_ok (t0h rfl (by unfold rhoR T2 nR; simp only [Pev.fnB, Pev.OutS.toF, Pev.sCons, Pev.sSet, Pev.sRet, Pev.sRetN, Pev.sIf, Pev.sSkip, Pev.sExpr, Pev.sTgt, Pev.sFor, Pev.sRaise, Pev.sPut, Pev.sAugS, Pev.sPar2, Pev.sPar3, Pev.OutS.fade, Pev.OutS.calm, Pev.Out.toS, Pev.Out.bind, Pev.noX, Pev.eVar, Pev.eC, Pev.eBin, Pev.eUn, Pev.eArgs, Pev.aCons, Pev.aNil, Pev.needN, Pev.eAnd, Pev.eOr, Pev.eNot, Pev.eIf, Pev.mAnd, Pev.mOr, Pev.mNot, Pev.mB, Pev.mT, Pev.eChain, Pev.truth, Pev.ofT, Pev.ofB, Pev.R.d?, Pev.eLc, Pev.iOf, Pev.iArgs, Pev.gN, Pev.gTp, Pev.gsCons, Pev.gsNil, Pev.tv, Pev.eBMl, Pev.eFld, Pev.tYes', Pev.wipeR, Pev.permL, List.map_cons, List.map_nil, List.length_cons, List.length_nil, List.cons_append, List.nil_append, List.append_nil, List.replicate, List.getElem?_cons_zero, List.getElem?_cons_succ, List.getElem?_nil, List.set_cons_zero, List.set_cons_succ, List.set_nil, List.filterMap_cons, List.filterMap_nil, Option.map_some, Option.map_none, Option.bind_some, Option.bind_none, if_true, if_false, Bool.not_true, Bool.not_false, Nat.reduceSub, Nat.reduceAdd, Nat.reduceEqDiff, Nat.reduceLeDiff, reduceIte, ite_true, ite_false, Bool.true_eq_false, Bool.false_eq_true, ↓reduceIte, Nat.zero_add, Nat.add_zero, Nat.sub_zero, id_eq, Bool.or_false, Bool.or_true, Bool.true_or, Bool.false_or, Bool.and_true, Bool.true_and, Bool.and_false, Bool.false_and, Bool.and_self, Bool.or_self, t])) (.inr (.inl ⟨rfl, rfl⟩)) (by kernel_rfl) rfl rfl⟩
  · have t := four_throw (w2 (n := n) (d2 := bd) hx l60 hw) S
    exact ⟨_, rfl, wt_ok (t0h rfl (by unfold rhoR T2 nR; simp only [Pev.fnB, Pev.OutS.toF, Pev.sCons, Pev.sSet, Pev.sRet, Pev.sRetN, Pev.sIf, Pev.sSkip, Pev.sExpr, Pev.sTgt, Pev.sFor, Pev.sRaise, Pev.sPut, Pev.sAugS, Pev.sPar2, Pev.sPar3, Pev.OutS.fade, Pev.OutS.calm, Pev.Out.toS, Pev.Out.bind, Pev.noX, Pev.eVar, Pev.eC, Pev.eBin, Pev.eUn, Pev.eArgs, Pev.aCons, Pev.aNil, Pev.needN, Pev.eAnd, Pev.eOr, Pev.eNot, Pev.eIf, Pev.mAnd, Pev.mOr, Pev.mNot, Pev.mB, Pev.mT, Pev.eChain, Pev.truth, Pev.ofT, Pev.ofB, Pev.R.d?, Pev.eLc, Pev.iOf, Pev.iArgs, Pev.gN, Pev.gTp, Pev.gsCons, Pev.gsNil, Pev.tv, Pev.eBMl, Pev.eFld, Pev.tYes', Pev.wipeR, Pev.permL, List.map_cons, List.map_nil, List.length_cons, List.length_nil, List.cons_append, List.nil_append, List.append_nil, List.replicate, List.getElem?_cons_zero, List.getElem?_cons_succ, List.getElem?_nil, List.set_cons_zero, List.set_cons_succ, List.set_nil, List.filterMap_cons, List.filterMap_nil, Option.map_some, Option.map_none, Option.bind_some, Option.bind_none, if_true, if_false, Bool.not_true, Bool.not_false, Nat.reduceSub, Nat.reduceAdd, Nat.reduceEqDiff, Nat.reduceLeDiff, reduceIte, ite_true, ite_false, Bool.true_eq_false, Bool.false_eq_true, ↓reduceIte, Nat.zero_add, Nat.add_zero, Nat.sub_zero, id_eq, Bool.or_false, Bool.or_true, Bool.true_or, Bool.false_or, Bool.and_true, Bool.true_and, Bool.and_false, Bool.false_and, Bool.and_self, Bool.or_self, t])) (.inr (.inl ⟨rfl, rfl⟩)) (by kernel_rfl) rfl rfl⟩
  · have t := four_throw (w34 (n := x.length / 2) (d2 := bd) (o := o) hx l60 (by omega) (.inl (by omega))) S
    have dv : bDiv (.dat (.int (x.length : Nat))) (.dat (.int 2)) S = .ok (.dat (.int ((x.length / 2 : Nat) : Int))) S := div_nn (x := x.length) (y := 2) (by omega) (by omega) S
    exact ⟨_, rfl, wt_ok (t0h rfl (by unfold rhoR T2 nR at *; simp only [Pev.fnB, Pev.OutS.toF, Pev.sCons, Pev.sSet, Pev.sRet, Pev.sRetN, Pev.sIf, Pev.sSkip, Pev.sExpr, Pev.sTgt, Pev.sFor, Pev.sRaise, Pev.sPut, Pev.sAugS, Pev.sPar2, Pev.sPar3, Pev.OutS.fade, Pev.OutS.calm, Pev.Out.toS, Pev.Out.bind, Pev.noX, Pev.eVar, Pev.eC, Pev.eBin, Pev.eUn, Pev.eArgs, Pev.aCons, Pev.aNil, Pev.needN, Pev.eAnd, Pev.eOr, Pev.eNot, Pev.eIf, Pev.mAnd, Pev.mOr, Pev.mNot, Pev.mB, Pev.mT, Pev.eChain, Pev.truth, Pev.ofT, Pev.ofB, Pev.R.d?, Pev.eLc, Pev.iOf, Pev.iArgs, Pev.gN, Pev.gTp, Pev.gsCons, Pev.gsNil, Pev.tv, Pev.eBMl, Pev.eFld, Pev.tYes', Pev.wipeR, Pev.permL, List.map_cons, List.map_nil, List.length_cons, List.length_nil, List.cons_append, List.nil_append, List.append_nil, List.replicate, List.getElem?_cons_zero, List.getElem?_cons_succ, List.getElem?_nil, List.set_cons_zero, List.set_cons_succ, List.set_nil, List.filterMap_cons, List.filterMap_nil, Option.map_some, Option.map_none, Option.bind_some, Option.bind_none, if_true, if_false, Bool.not_true, Bool.not_false, Nat.reduceSub, Nat.reduceAdd, Nat.reduceEqDiff, Nat.reduceLeDiff, reduceIte, ite_true, ite_false, Bool.true_eq_false, Bool.false_eq_true, ↓reduceIte, Nat.zero_add, Nat.add_zero, Nat.sub_zero, id_eq, Bool.or_false, Bool.or_true, Bool.true_or, Bool.false_or, Bool.and_true, Bool.true_and, Bool.and_false, Bool.false_and, Bool.and_self, Bool.or_self, gl, dv, t])) (.inr (.inr (.inr ⟨rfl, rfl⟩))) (by kernel_rfl) rfl rfl⟩
  · obtain ⟨c, hc⟩ : ∃ c, x.take 1 = [c] := by
      cases x with
      | nil => simp at h2
      | cons c r => exact ⟨c, rfl⟩
    have cx : c ∈ x := List.mem_of_mem_take (by rw [hc]; exact List.mem_singleton.mpr rfl)
    have fx : Fine (x ++ [c]) := fun d hd => by
      rcases List.mem_append.mp hd with hd | hd
      · exact hx d hd
      · rw [List.mem_singleton.mp hd]; exact hx c cx
    have t := four_throw (w34 (x := x ++ [c]) (n := n) (d2 := bd) (o := o) fx (by rw [List.length_append]; show x.length + 1 ≤ 60; omega) (by omega) (.inr (unl_no cx))) S
    have s0 : gSl false (.dat (.str (tx x))) none (some 1) S = .ok (.dat (.str (tx (x.take 1)))) S := sl_tx0 (l := x) (by omega) (j := 1) (by omega) S
    have ad := add_tx (l := x) (k := x.take 1) (by rw [List.length_take]; omega) S
    rw [hc] at s0 ad
    exact ⟨_, rfl, wt_ok (t0h rfl (by unfold rhoR T2 nR at *; simp only [Pev.fnB, Pev.OutS.toF, Pev.sCons, Pev.sSet, Pev.sRet, Pev.sRetN, Pev.sIf, Pev.sSkip, Pev.sExpr, Pev.sTgt, Pev.sFor, Pev.sRaise, Pev.sPut, Pev.sAugS, Pev.sPar2, Pev.sPar3, Pev.OutS.fade, Pev.OutS.calm, Pev.Out.toS, Pev.Out.bind, Pev.noX, Pev.eVar, Pev.eC, Pev.eBin, Pev.eUn, Pev.eArgs, Pev.aCons, Pev.aNil, Pev.needN, Pev.eAnd, Pev.eOr, Pev.eNot, Pev.eIf, Pev.mAnd, Pev.mOr, Pev.mNot, Pev.mB, Pev.mT, Pev.eChain, Pev.truth, Pev.ofT, Pev.ofB, Pev.R.d?, Pev.eLc, Pev.iOf, Pev.iArgs, Pev.gN, Pev.gTp, Pev.gsCons, Pev.gsNil, Pev.tv, Pev.eBMl, Pev.eFld, Pev.tYes', Pev.wipeR, Pev.permL, List.map_cons, List.map_nil, List.length_cons, List.length_nil, List.cons_append, List.nil_append, List.append_nil, List.replicate, List.getElem?_cons_zero, List.getElem?_cons_succ, List.getElem?_nil, List.set_cons_zero, List.set_cons_succ, List.set_nil, List.filterMap_cons, List.filterMap_nil, Option.map_some, Option.map_none, Option.bind_some, Option.bind_none, if_true, if_false, Bool.not_true, Bool.not_false, Nat.reduceSub, Nat.reduceAdd, Nat.reduceEqDiff, Nat.reduceLeDiff, reduceIte, ite_true, ite_false, Bool.true_eq_false, Bool.false_eq_true, ↓reduceIte, Nat.zero_add, Nat.add_zero, Nat.sub_zero, id_eq, Bool.or_false, Bool.or_true, Bool.true_or, Bool.false_or, Bool.and_true, Bool.true_and, Bool.and_false, Bool.false_and, Bool.and_self, Bool.or_self, eSl, oPart, toI_i, s0, ad, t])) (.inr (.inr (.inr ⟨rfl, rfl⟩))) (by kernel_rfl) rfl rfl⟩
  · have t := four_throw (w5 (n := n) (q := q) (a := a) (bd := bd) (o := o) hx l20 hn ho h2 nd hb) S
    exact ⟨_, rfl, wt_ok (t0h rfl (by unfold rhoR T2 nR; simp only [Pev.fnB, Pev.OutS.toF, Pev.sCons, Pev.sSet, Pev.sRet, Pev.sRetN, Pev.sIf, Pev.sSkip, Pev.sExpr, Pev.sTgt, Pev.sFor, Pev.sRaise, Pev.sPut, Pev.sAugS, Pev.sPar2, Pev.sPar3, Pev.OutS.fade, Pev.OutS.calm, Pev.Out.toS, Pev.Out.bind, Pev.noX, Pev.eVar, Pev.eC, Pev.eBin, Pev.eUn, Pev.eArgs, Pev.aCons, Pev.aNil, Pev.needN, Pev.eAnd, Pev.eOr, Pev.eNot, Pev.eIf, Pev.mAnd, Pev.mOr, Pev.mNot, Pev.mB, Pev.mT, Pev.eChain, Pev.truth, Pev.ofT, Pev.ofB, Pev.R.d?, Pev.eLc, Pev.iOf, Pev.iArgs, Pev.gN, Pev.gTp, Pev.gsCons, Pev.gsNil, Pev.tv, Pev.eBMl, Pev.eFld, Pev.tYes', Pev.wipeR, Pev.permL, List.map_cons, List.map_nil, List.length_cons, List.length_nil, List.cons_append, List.nil_append, List.append_nil, List.replicate, List.getElem?_cons_zero, List.getElem?_cons_succ, List.getElem?_nil, List.set_cons_zero, List.set_cons_succ, List.set_nil, List.filterMap_cons, List.filterMap_nil, Option.map_some, Option.map_none, Option.bind_some, Option.bind_none, if_true, if_false, Bool.not_true, Bool.not_false, Nat.reduceSub, Nat.reduceAdd, Nat.reduceEqDiff, Nat.reduceLeDiff, reduceIte, ite_true, ite_false, Bool.true_eq_false, Bool.false_eq_true, ↓reduceIte, Nat.zero_add, Nat.add_zero, Nat.sub_zero, id_eq, Bool.or_false, Bool.or_true, Bool.true_or, Bool.false_or, Bool.and_true, Bool.true_and, Bool.and_false, Bool.false_and, Bool.and_self, Bool.or_self, t])) (.inr (.inr (.inl ⟨rfl, rfl⟩))) (by kernel_rfl) rfl rfl⟩
  · have t := four_throw (w6 (n := n) (q := q) (a := a) hx lx hn h2 nd) S
    exact ⟨_, rfl, wt_ok (t0h rfl (by unfold rhoR T2 nR at *; simp only [Pev.fnB, Pev.OutS.toF, Pev.sCons, Pev.sSet, Pev.sRet, Pev.sRetN, Pev.sIf, Pev.sSkip, Pev.sExpr, Pev.sTgt, Pev.sFor, Pev.sRaise, Pev.sPut, Pev.sAugS, Pev.sPar2, Pev.sPar3, Pev.OutS.fade, Pev.OutS.calm, Pev.Out.toS, Pev.Out.bind, Pev.noX, Pev.eVar, Pev.eC, Pev.eBin, Pev.eUn, Pev.eArgs, Pev.aCons, Pev.aNil, Pev.needN, Pev.eAnd, Pev.eOr, Pev.eNot, Pev.eIf, Pev.mAnd, Pev.mOr, Pev.mNot, Pev.mB, Pev.mT, Pev.eChain, Pev.truth, Pev.ofT, Pev.ofB, Pev.R.d?, Pev.eLc, Pev.iOf, Pev.iArgs, Pev.gN, Pev.gTp, Pev.gsCons, Pev.gsNil, Pev.tv, Pev.eBMl, Pev.eFld, Pev.tYes', Pev.wipeR, Pev.permL, List.map_cons, List.map_nil, List.length_cons, List.length_nil, List.cons_append, List.nil_append, List.append_nil, List.replicate, List.getElem?_cons_zero, List.getElem?_cons_succ, List.getElem?_nil, List.set_cons_zero, List.set_cons_succ, List.set_nil, List.filterMap_cons, List.filterMap_nil, Option.map_some, Option.map_none, Option.bind_some, Option.bind_none, if_true, if_false, Bool.not_true, Bool.not_false, Nat.reduceSub, Nat.reduceAdd, Nat.reduceEqDiff, Nat.reduceLeDiff, reduceIte, ite_true, ite_false, Bool.true_eq_false, Bool.false_eq_true, ↓reduceIte, Nat.zero_add, Nat.add_zero, Nat.sub_zero, id_eq, Bool.or_false, Bool.or_true, Bool.true_or, Bool.false_or, Bool.and_true, Bool.true_and, Bool.and_false, Bool.false_and, Bool.and_self, Bool.or_self, gl, add_nn, add_n1, t])) (.inr (.inr (.inl ⟨rfl, rfl⟩))) (by kernel_rfl) rfl rfl⟩
def wkS : SM := (sRet (eBin (bEq false) (eLcW (iOf (eVar 8)) (gW2 9 10) wT lb__law_errors_0 [9, 10]) (eArgs (gLst false) aNil)))
def er1 : SM := (sSet 5 (eArgs (needN 2 m__law_pick) (aCons (eVar 0) (aCons (eArgs (gLst false) (aCons (eC (.none)) (aCons (eC (.bool true)) (aCons (eBin bSub (eC (.int 0)) (eC (.int 1))) (aCons (eC (.str "1")) aNil))))) aNil))))
def er2 : SM := (sSet 6 (eArgs (needN 2 m__law_pick) (aCons (eVar 0) (aCons (eArgs (gLst false) (aCons (eC (.none)) (aCons (eC (.int 7)) (aCons (eArgs gTup (aCons (eC (.str "a")) aNil)) (aCons (eC (.str "a\n")) aNil))))) aNil))))
def er3 : SM := (sSet 7 (eArgs (needN 2 m__law_pick) (aCons (eVar 0) (aCons (eArgs (gLst false) (aCons (eC (.none)) (aCons (eC (.int 3)) (aCons (eArgs gTup aNil) (aCons (eBin (bAdd false) (eVar 3) (eArgs gTup (aCons (eC (.int 0)) aNil))) (aCons (eArgs gTup (aCons (eBin (bAdd false) (eVar 2) (eC (.int 1))) (aCons (eC (.int 0)) aNil))) (aCons (eArgs gTup (aCons (eC (.int 0)) (aCons (eC (.int 1)) aNil))) (aCons (eArgs gTup (aCons (eC (.bool false)) (aCons (eC (.int 0)) aNil))) (aCons (eArgs gTup (aCons (eBin bSub (eC (.int 0)) (eC (.int 1))) (aCons (eC (.int 0)) aNil))) aNil))))))))) aNil))))
def er4 : SM := (sSet 8 (eArgs (gLst true) (aCons (eArgs gTupL (aCons (eLam 0) (aCons (eArgs gTup (aCons (eC (.str "text")) (aCons (eBin bSub (eC (.int 0)) (eC (.int 1))) aNil))) aNil))) aNil)))
def ap1 : SM := (sExpr (eBMl gAppend (eVar 8) (aCons (eArgs gTupL (aCons (eLam 1) (aCons (eArgs gTup (aCons (eC (.str "size")) (aCons (eC (.str "near")) aNil))) aNil))) aNil)))
def ap2 : SM := (sExpr (eBMl gAppend (eVar 8) (aCons (eArgs gTupL (aCons (eLam 2) (aCons (eArgs gTup (aCons (eC (.str "size")) (aCons (eC (.str "other")) aNil))) aNil))) aNil)))
def ap3 : SM := (sExpr (eBMl gAppend (eVar 8) (aCons (eArgs gTupL (aCons (eLam 3) (aCons (eArgs gTup (aCons (eC (.str "refused")) (aCons (eBin bSub (eC (.int 0)) (eC (.int 1))) aNil))) aNil))) aNil)))
def ap4 : SM := (sExpr (eBMl gAppend (eVar 8) (aCons (eArgs gTupL (aCons (eLam 4) (aCons (eArgs gTup (aCons (eC (.str "refused")) (aCons (eBin bSub (eC (.int 0)) (eC (.int 1))) aNil))) aNil))) aNil)))
def ap5 : SM := (sExpr (eBMl gAppend (eVar 8) (aCons (eArgs gTupL (aCons (eLam 5) (aCons (eArgs gTup (aCons (eC (.str "index")) (aCons (eBin bSub (eC (.int 0)) (eC (.int 1))) aNil))) aNil))) aNil)))
def ap6 : SM := (sExpr (eBMl gAppend (eVar 8) (aCons (eArgs gTupL (aCons (eLam 6) (aCons (eArgs gTup (aCons (eC (.str "index")) (aCons (eBin bSub (eC (.int 0)) (eC (.int 1))) aNil))) aNil))) aNil)))
theorem er_eq : b__law_errors = sCons er1 (sCons er2 (sCons er3 (sLam (sCons er4 (sCons ap1 (sCons ap2 (sCons ap3 (sCons ap4 (sCons ap5 (sCons ap6 wkS)))))))))) := rfl
theorem tk_kill {k : Nat} {S : Sto} (h : Tk k S) : Tk k (killL S) := by
  obtain ⟨a, b, c, h⟩ := h
  refine ⟨a, b, c, ?_⟩
  unfold killL
  rw [List.getElem?_map, h]
  rfl
theorem errors_ok {S : Sto} {k n q a o : Nat} {x : List Nat} (h : Tk k S) (hx : Fine x) (lx : x.length ≤ 15) (hn : n ≤ 3) (ho : o ≤ 20) (h2 : 2 * (n + 1) ≤ x.length) (nd : x.Nodup) : ∃ S', Tk k S' ∧ m__law_errors [.obj k, T2 x, nR n, .dat (pr q a), nR o] S = .ok (.dat (.bool true)) S' := by
  obtain ⟨w, S1, w1, w2, w3⟩ := pick h (ds := wrL) (by unfold wrL; simp) (by unfold wrL; simp)
  obtain ⟨od, S2, o1, o2, o3⟩ := pick w2 (ds := odL) (by unfold odL; simp) (by unfold odL; simp)
  obtain ⟨bd, S3, b1, b2, b3⟩ := pick o2 (ds := bdL n q a) (by unfold bdL; simp) (by unfold bdL; simp)
  have e1 : er1 [some (.obj k), some (T2 x), some (nR n), some (.dat (pr q a)), some (nR o), none, none, none, none, none, none] S = .nx [some (.obj k), some (T2 x), some (nR n), some (.dat (pr q a)), some (nR o), some (.dat w), none, none, none, none, none] S1 := by
    have q : (eArgs (gLst false) (aCons (eC (.none)) (aCons (eC (.bool true)) (aCons (eBin bSub (eC (.int 0)) (eC (.int 1))) (aCons (eC (.str "1")) aNil))))) [some (.obj k), some (T2 x), some (nR n), some (.dat (pr q a)), some (nR o), none, none, none, none, none, none] S = .ok (.dat (.list wrL)) S := rfl
    unfold er1
    generalize (eArgs (gLst false) (aCons (eC (.none)) (aCons (eC (.bool true)) (aCons (eBin bSub (eC (.int 0)) (eC (.int 1))) (aCons (eC (.str "1")) aNil))))) = m at q
    simp only [Pev.fnB, Pev.OutS.toF, Pev.sCons, Pev.sSet, Pev.sRet, Pev.sRetN, Pev.sIf, Pev.sSkip, Pev.sExpr, Pev.sTgt, Pev.sFor, Pev.sRaise, Pev.sPut, Pev.sAugS, Pev.sPar2, Pev.sPar3, Pev.OutS.fade, Pev.OutS.calm, Pev.Out.toS, Pev.Out.bind, Pev.noX, Pev.eVar, Pev.eC, Pev.eBin, Pev.eUn, Pev.eArgs, Pev.aCons, Pev.aNil, Pev.needN, Pev.eAnd, Pev.eOr, Pev.eNot, Pev.eIf, Pev.mAnd, Pev.mOr, Pev.mNot, Pev.mB, Pev.mT, Pev.eChain, Pev.truth, Pev.ofT, Pev.ofB, Pev.R.d?, Pev.eLc, Pev.iOf, Pev.iArgs, Pev.gN, Pev.gTp, Pev.gsCons, Pev.gsNil, Pev.tv, Pev.eBMl, Pev.eFld, Pev.tYes', Pev.wipeR, Pev.permL, List.map_cons, List.map_nil, List.length_cons, List.length_nil, List.cons_append, List.nil_append, List.append_nil, List.replicate, List.getElem?_cons_zero, List.getElem?_cons_succ, List.getElem?_nil, List.set_cons_zero, List.set_cons_succ, List.set_nil, List.filterMap_cons, List.filterMap_nil, Option.map_some, Option.map_none, Option.bind_some, Option.bind_none, if_true, if_false, Bool.not_true, Bool.not_false, Nat.reduceSub, Nat.reduceAdd, Nat.reduceEqDiff, Nat.reduceLeDiff, reduceIte, ite_true, ite_false, Bool.true_eq_false, Bool.false_eq_true, ↓reduceIte, Nat.zero_add, Nat.add_zero, Nat.sub_zero, id_eq, Bool.or_false, Bool.or_true, Bool.true_or, Bool.false_or, Bool.and_true, Bool.true_and, Bool.and_false, Bool.false_and, Bool.and_self, Bool.or_self, q, w3]
  have e2 : er2 [some (.obj k), some (T2 x), some (nR n), some (.dat (pr q a)), some (nR o), some (.dat w), none, none, none, none, none] S1 = .nx [some (.obj k), some (T2 x), some (nR n), some (.dat (pr q a)), some (nR o), some (.dat w), some (.dat od), none, none, none, none] S2 := by
    have q : (eArgs (gLst false) (aCons (eC (.none)) (aCons (eC (.int 7)) (aCons (eArgs gTup (aCons (eC (.str "a")) aNil)) (aCons (eC (.str "a\n")) aNil))))) [some (.obj k), some (T2 x), some (nR n), some (.dat (pr q a)), some (nR o), some (.dat w), none, none, none, none, none] S1 = .ok (.dat (.list odL)) S1 := rfl
    unfold er2
    generalize (eArgs (gLst false) (aCons (eC (.none)) (aCons (eC (.int 7)) (aCons (eArgs gTup (aCons (eC (.str "a")) aNil)) (aCons (eC (.str "a\n")) aNil))))) = m at q
    simp only [Pev.fnB, Pev.OutS.toF, Pev.sCons, Pev.sSet, Pev.sRet, Pev.sRetN, Pev.sIf, Pev.sSkip, Pev.sExpr, Pev.sTgt, Pev.sFor, Pev.sRaise, Pev.sPut, Pev.sAugS, Pev.sPar2, Pev.sPar3, Pev.OutS.fade, Pev.OutS.calm, Pev.Out.toS, Pev.Out.bind, Pev.noX, Pev.eVar, Pev.eC, Pev.eBin, Pev.eUn, Pev.eArgs, Pev.aCons, Pev.aNil, Pev.needN, Pev.eAnd, Pev.eOr, Pev.eNot, Pev.eIf, Pev.mAnd, Pev.mOr, Pev.mNot, Pev.mB, Pev.mT, Pev.eChain, Pev.truth, Pev.ofT, Pev.ofB, Pev.R.d?, Pev.eLc, Pev.iOf, Pev.iArgs, Pev.gN, Pev.gTp, Pev.gsCons, Pev.gsNil, Pev.tv, Pev.eBMl, Pev.eFld, Pev.tYes', Pev.wipeR, Pev.permL, List.map_cons, List.map_nil, List.length_cons, List.length_nil, List.cons_append, List.nil_append, List.append_nil, List.replicate, List.getElem?_cons_zero, List.getElem?_cons_succ, List.getElem?_nil, List.set_cons_zero, List.set_cons_succ, List.set_nil, List.filterMap_cons, List.filterMap_nil, Option.map_some, Option.map_none, Option.bind_some, Option.bind_none, if_true, if_false, Bool.not_true, Bool.not_false, Nat.reduceSub, Nat.reduceAdd, Nat.reduceEqDiff, Nat.reduceLeDiff, reduceIte, ite_true, ite_false, Bool.true_eq_false, Bool.false_eq_true, ↓reduceIte, Nat.zero_add, Nat.add_zero, Nat.sub_zero, id_eq, Bool.or_false, Bool.or_true, Bool.true_or, Bool.false_or, Bool.and_true, Bool.true_and, Bool.and_false, Bool.false_and, Bool.and_self, Bool.or_self, q, o3]
  have e3 : er3 [some (.obj k), some (T2 x), some (nR n), some (.dat (pr q a)), some (nR o), some (.dat w), some (.dat od), none, none, none, none] S2 = .nx (rhoR k x n q a o w od bd none none none) S3 := by
    have q : (eArgs (gLst false) (aCons (eC (.none)) (aCons (eC (.int 3)) (aCons (eArgs gTup aNil) (aCons (eBin (bAdd false) (eVar 3) (eArgs gTup (aCons (eC (.int 0)) aNil))) (aCons (eArgs gTup (aCons (eBin (bAdd false) (eVar 2) (eC (.int 1))) (aCons (eC (.int 0)) aNil))) (aCons (eArgs gTup (aCons (eC (.int 0)) (aCons (eC (.int 1)) aNil))) (aCons (eArgs gTup (aCons (eC (.bool false)) (aCons (eC (.int 0)) aNil))) (aCons (eArgs gTup (aCons (eBin bSub (eC (.int 0)) (eC (.int 1))) (aCons (eC (.int 0)) aNil))) aNil))))))))) [some (.obj k), some (T2 x), some (nR n), some (.dat (pr q a)), some (nR o), some (.dat w), some (.dat od), none, none, none, none] S2 = .ok (.dat (.list (bdL n q a))) S2 := rfl
    unfold er3
    generalize (eArgs (gLst false) (aCons (eC (.none)) (aCons (eC (.int 3)) (aCons (eArgs gTup aNil) (aCons (eBin (bAdd false) (eVar 3) (eArgs gTup (aCons (eC (.int 0)) aNil))) (aCons (eArgs gTup (aCons (eBin (bAdd false) (eVar 2) (eC (.int 1))) (aCons (eC (.int 0)) aNil))) (aCons (eArgs gTup (aCons (eC (.int 0)) (aCons (eC (.int 1)) aNil))) (aCons (eArgs gTup (aCons (eC (.bool false)) (aCons (eC (.int 0)) aNil))) (aCons (eArgs gTup (aCons (eBin bSub (eC (.int 0)) (eC (.int 1))) (aCons (eC (.int 0)) aNil))) aNil))))))))) = m at q
    simp only [Pev.fnB, Pev.OutS.toF, Pev.sCons, Pev.sSet, Pev.sRet, Pev.sRetN, Pev.sIf, Pev.sSkip, Pev.sExpr, Pev.sTgt, Pev.sFor, Pev.sRaise, Pev.sPut, Pev.sAugS, Pev.sPar2, Pev.sPar3, Pev.OutS.fade, Pev.OutS.calm, Pev.Out.toS, Pev.Out.bind, Pev.noX, Pev.eVar, Pev.eC, Pev.eBin, Pev.eUn, Pev.eArgs, Pev.aCons, Pev.aNil, Pev.needN, Pev.eAnd, Pev.eOr, Pev.eNot, Pev.eIf, Pev.mAnd, Pev.mOr, Pev.mNot, Pev.mB, Pev.mT, Pev.eChain, Pev.truth, Pev.ofT, Pev.ofB, Pev.R.d?, Pev.eLc, Pev.iOf, Pev.iArgs, Pev.gN, Pev.gTp, Pev.gsCons, Pev.gsNil, Pev.tv, Pev.eBMl, Pev.eFld, Pev.tYes', Pev.wipeR, Pev.permL, List.map_cons, List.map_nil, List.length_cons, List.length_nil, List.cons_append, List.nil_append, List.append_nil, List.replicate, List.getElem?_cons_zero, List.getElem?_cons_succ, List.getElem?_nil, List.set_cons_zero, List.set_cons_succ, List.set_nil, List.filterMap_cons, List.filterMap_nil, Option.map_some, Option.map_none, Option.bind_some, Option.bind_none, if_true, if_false, Bool.not_true, Bool.not_false, Nat.reduceSub, Nat.reduceAdd, Nat.reduceEqDiff, Nat.reduceLeDiff, reduceIte, ite_true, ite_false, Bool.true_eq_false, Bool.false_eq_true, ↓reduceIte, Nat.zero_add, Nat.add_zero, Nat.sub_zero, id_eq, Bool.or_false, Bool.or_true, Bool.true_or, Bool.false_or, Bool.and_true, Bool.true_and, Bool.and_false, Bool.false_and, Bool.and_self, Bool.or_self, q, b3]
  have e4 : er4 (rhoR k x n q a o w od bd none none none) S3 = .nx (rhoR k x n q a o w od bd (some (.obj S3.length)) none none) (S3 ++ [.lst [.lam 0 (some (.tuple [.str "text", .int (-1)]))]]) := rfl
  have ew : wkS (rhoR k x n q a o w od bd (some (.obj S3.length)) none none) (S3 ++ [.lst wkL]) = .rt (.dat (.bool true)) (S3 ++ [.lst wkL]) := by
    have hk : (S3 ++ [.lst wkL])[S3.length]? = some (.lst wkL) := by rw [List.getElem?_append_right (Nat.le_refl _), Nat.sub_self]; rfl
    have st : stands (S3 ++ [.lst wkL]) [(S3.length, wkL)] = true := by
      unfold stands
      rw [hk]
      dsimp only
      rw [wkL_same, stands_nil]
      rfl
    have lc := lc_none (keep := [(S3.length, wkL)]) (g := gW2 9 10) (t := wT (hlOf lb__law_errors_0 (rhoR k x n q a o w od bd (some (.obj S3.length)) none none))) (elt := fun _ _ => .stuck) (ρ := rhoR k x n q a o w od bd (some (.obj S3.length)) none none) st wkL (lm_no hx lx hn ho h2 nd w1 o1 b1)
    have it : itOf (.obj S3.length) (S3 ++ [.lst wkL]) = .ok ⟨wkL, [(S3.length, wkL)]⟩ (S3 ++ [.lst wkL]) := by
      unfold itOf
      dsimp only
      rw [hk]
    have e : eLcW (iOf (eVar 8)) (gW2 9 10) wT lb__law_errors_0 [9, 10] (rhoR k x n q a o w od bd (some (.obj S3.length)) none none) (S3 ++ [.lst wkL]) = .ok (.dat (.list [])) (S3 ++ [.lst wkL]) := by
      unfold eLcW eLc
      have ei : iOf (eVar 8) (rhoR k x n q a o w od bd (some (.obj S3.length)) none none) (S3 ++ [.lst wkL]) = .ok ⟨wkL, [(S3.length, wkL)]⟩ (S3 ++ [.lst wkL]) := it
      rw [ei]
      dsimp only [Out.bind]
      rw [if_pos (show wkL.length ≤ sizeLine by decide)]
      show (lcLoop [(S3.length, wkL)] (gW2 9 10) (wT (hlOf lb__law_errors_0 (rhoR k x n q a o w od bd (some (.obj S3.length)) none none))) _ (rhoR k x n q a o w od bd (some (.obj S3.length)) none none) wkL _).bind _ = _
      rw [lc]
      rfl
    have gg : (eArgs (gLst false) aNil) (rhoR k x n q a o w od bd (some (.obj S3.length)) none none) (S3 ++ [.lst wkL]) = .ok (.dat (.list [])) (S3 ++ [.lst wkL]) := rfl
    have be : bEq false (.dat (.list [])) (.dat (.list [])) (S3 ++ [.lst wkL]) = .ok (.dat (.bool true)) (S3 ++ [.lst wkL]) := rfl
    unfold wkS sRet eBin
    rw [e]
    dsimp only [Out.bind]
    rw [gg]
    dsimp only
    rw [be]
    rfl
  have a1 : ap1 (rhoR k x n q a o w od bd (some (.obj S3.length)) none none) (S3 ++ [.lst [.lam 0 (some (.tuple [.str "text", .int (-1)]))]]) = .nx (rhoR k x n q a o w od bd (some (.obj S3.length)) none none) (S3 ++ [.lst [.lam 0 (some (.tuple [.str "text", .int (-1)])), .lam 1 (some (.tuple [.str "size", .str "near"]))]]) := app_lam (rs := [.lam 0 (some (.tuple [.str "text", .int (-1)]))]) (d := (.tuple [.str "size", .str "near"])) rfl (fun _ => rfl) (by simp)
  have a2 : ap2 (rhoR k x n q a o w od bd (some (.obj S3.length)) none none) (S3 ++ [.lst [.lam 0 (some (.tuple [.str "text", .int (-1)])), .lam 1 (some (.tuple [.str "size", .str "near"]))]]) = .nx (rhoR k x n q a o w od bd (some (.obj S3.length)) none none) (S3 ++ [.lst [.lam 0 (some (.tuple [.str "text", .int (-1)])), .lam 1 (some (.tuple [.str "size", .str "near"])), .lam 2 (some (.tuple [.str "size", .str "other"]))]]) := app_lam (rs := [.lam 0 (some (.tuple [.str "text", .int (-1)])), .lam 1 (some (.tuple [.str "size", .str "near"]))]) (d := (.tuple [.str "size", .str "other"])) rfl (fun _ => rfl) (by simp)
  have a3 : ap3 (rhoR k x n q a o w od bd (some (.obj S3.length)) none none) (S3 ++ [.lst [.lam 0 (some (.tuple [.str "text", .int (-1)])), .lam 1 (some (.tuple [.str "size", .str "near"])), .lam 2 (some (.tuple [.str "size", .str "other"]))]]) = .nx (rhoR k x n q a o w od bd (some (.obj S3.length)) none none) (S3 ++ [.lst [.lam 0 (some (.tuple [.str "text", .int (-1)])), .lam 1 (some (.tuple [.str "size", .str "near"])), .lam 2 (some (.tuple [.str "size", .str "other"])), .lam 3 (some (.tuple [.str "refused", .int (-1)]))]]) := app_lam (rs := [.lam 0 (some (.tuple [.str "text", .int (-1)])), .lam 1 (some (.tuple [.str "size", .str "near"])), .lam 2 (some (.tuple [.str "size", .str "other"]))]) (d := (.tuple [.str "refused", .int (-1)])) rfl (fun _ => rfl) (by simp)
  have a4 : ap4 (rhoR k x n q a o w od bd (some (.obj S3.length)) none none) (S3 ++ [.lst [.lam 0 (some (.tuple [.str "text", .int (-1)])), .lam 1 (some (.tuple [.str "size", .str "near"])), .lam 2 (some (.tuple [.str "size", .str "other"])), .lam 3 (some (.tuple [.str "refused", .int (-1)]))]]) = .nx (rhoR k x n q a o w od bd (some (.obj S3.length)) none none) (S3 ++ [.lst [.lam 0 (some (.tuple [.str "text", .int (-1)])), .lam 1 (some (.tuple [.str "size", .str "near"])), .lam 2 (some (.tuple [.str "size", .str "other"])), .lam 3 (some (.tuple [.str "refused", .int (-1)])), .lam 4 (some (.tuple [.str "refused", .int (-1)]))]]) := app_lam (rs := [.lam 0 (some (.tuple [.str "text", .int (-1)])), .lam 1 (some (.tuple [.str "size", .str "near"])), .lam 2 (some (.tuple [.str "size", .str "other"])), .lam 3 (some (.tuple [.str "refused", .int (-1)]))]) (d := (.tuple [.str "refused", .int (-1)])) rfl (fun _ => rfl) (by simp)
  have a5 : ap5 (rhoR k x n q a o w od bd (some (.obj S3.length)) none none) (S3 ++ [.lst [.lam 0 (some (.tuple [.str "text", .int (-1)])), .lam 1 (some (.tuple [.str "size", .str "near"])), .lam 2 (some (.tuple [.str "size", .str "other"])), .lam 3 (some (.tuple [.str "refused", .int (-1)])), .lam 4 (some (.tuple [.str "refused", .int (-1)]))]]) = .nx (rhoR k x n q a o w od bd (some (.obj S3.length)) none none) (S3 ++ [.lst [.lam 0 (some (.tuple [.str "text", .int (-1)])), .lam 1 (some (.tuple [.str "size", .str "near"])), .lam 2 (some (.tuple [.str "size", .str "other"])), .lam 3 (some (.tuple [.str "refused", .int (-1)])), .lam 4 (some (.tuple [.str "refused", .int (-1)])), .lam 5 (some (.tuple [.str "index", .int (-1)]))]]) := app_lam (rs := [.lam 0 (some (.tuple [.str "text", .int (-1)])), .lam 1 (some (.tuple [.str "size", .str "near"])), .lam 2 (some (.tuple [.str "size", .str "other"])), .lam 3 (some (.tuple [.str "refused", .int (-1)])), .lam 4 (some (.tuple [.str "refused", .int (-1)]))]) (d := (.tuple [.str "index", .int (-1)])) rfl (fun _ => rfl) (by simp)
  have a6 : ap6 (rhoR k x n q a o w od bd (some (.obj S3.length)) none none) (S3 ++ [.lst [.lam 0 (some (.tuple [.str "text", .int (-1)])), .lam 1 (some (.tuple [.str "size", .str "near"])), .lam 2 (some (.tuple [.str "size", .str "other"])), .lam 3 (some (.tuple [.str "refused", .int (-1)])), .lam 4 (some (.tuple [.str "refused", .int (-1)])), .lam 5 (some (.tuple [.str "index", .int (-1)]))]]) = .nx (rhoR k x n q a o w od bd (some (.obj S3.length)) none none) (S3 ++ [.lst [.lam 0 (some (.tuple [.str "text", .int (-1)])), .lam 1 (some (.tuple [.str "size", .str "near"])), .lam 2 (some (.tuple [.str "size", .str "other"])), .lam 3 (some (.tuple [.str "refused", .int (-1)])), .lam 4 (some (.tuple [.str "refused", .int (-1)])), .lam 5 (some (.tuple [.str "index", .int (-1)])), .lam 6 (some (.tuple [.str "index", .int (-1)]))]]) := app_lam (rs := [.lam 0 (some (.tuple [.str "text", .int (-1)])), .lam 1 (some (.tuple [.str "size", .str "near"])), .lam 2 (some (.tuple [.str "size", .str "other"])), .lam 3 (some (.tuple [.str "refused", .int (-1)])), .lam 4 (some (.tuple [.str "refused", .int (-1)])), .lam 5 (some (.tuple [.str "index", .int (-1)]))]) (d := (.tuple [.str "index", .int (-1)])) rfl (fun _ => rfl) (by simp)
  have body : (sCons er4 (sCons ap1 (sCons ap2 (sCons ap3 (sCons ap4 (sCons ap5 (sCons ap6 wkS))))))) (rhoR k x n q a o w od bd none none none) S3 = .rt (.dat (.bool true)) (S3 ++ [.lst wkL]) :=
    (cons_nx e4).trans ((cons_nx a1).trans ((cons_nx a2).trans ((cons_nx a3).trans ((cons_nx a4).trans ((cons_nx a5).trans ((cons_nx a6).trans ew))))))
  refine ⟨killL (S3 ++ [.lst wkL]), tk_kill (b2.more _), ?_⟩
  show OutS.toF (b__law_errors [some (.obj k), some (T2 x), some (nR n), some (.dat (pr q a)), some (nR o), none, none, none, none, none, none] S) = _
  rw [er_eq, cons_nx e1, cons_nx e2, cons_nx e3]
  unfold sLam
  rw [body]
  rfl
end Lw
namespace Lw
open PySem Pev
open L2 (atI ixN cutS)
def b_look : SM := (sCons (sSet 9 (eArgs (gList false) (aCons (eVar 8) aNil)))
    (sCons (sSet 1 (eArgs (needN 4 fun rs => needN 4 (pureF m_spoilt_text) (permL [1, 0, 3, 2] rs)) (aCons (eVar 4) (aCons (eVar 5) (aCons (eVar 6) (aCons (eVar 9) aNil))))))
    (sCons (sIf (mOr (mNot (mT (eArgs (needN 1 (pureF m__law_is_text)) (aCons (eVar 1) aNil)))) (mOr (mB (eBin (bEq true) (eArgs gLen (aCons (eVar 1) aNil)) (eVar 6))) (mOr (mB (eBin bGt (eArgs (needN 2 (pureF m__law_edits)) (aCons (eVar 5) (aCons (eVar 1) aNil))) (eVar 4))) (mB (eBin (bEq true) (eVar 9) (eArgs (gList false) (aCons (eVar 8) aNil))))))) (sRet (eC (.bool false))) sSkip)
    (sIf (mOr (mB (eBin (bEq true) (eArgs (needN 3 (pureF m__law_found)) (aCons (eVar 5) (aCons (eVar 1) (aCons (eVar 4) aNil)))) (eArgs (gLst false) (aCons (eVar 8) aNil)))) (mB (eBin (bEq true) (eArgs (needN 3 (pureF m_found_looks)) (aCons (eVar 5) (aCons (eVar 1) (aCons (eVar 4) aNil)))) (eArgs gTup (aCons (eVar 8) aNil))))) (sRet (eC (.bool false))) sSkip))))
def l1 : SM := (sSet 9 (eArgs (gList false) (aCons (eVar 8) aNil)))
def l2 : SM := (sSet 1 (eArgs (needN 4 fun rs => needN 4 (pureF m_spoilt_text) (permL [1, 0, 3, 2] rs)) (aCons (eVar 4) (aCons (eVar 5) (aCons (eVar 6) (aCons (eVar 9) aNil))))))
def l3 : SM := (sIf (mOr (mNot (mT (eArgs (needN 1 (pureF m__law_is_text)) (aCons (eVar 1) aNil)))) (mOr (mB (eBin (bEq true) (eArgs gLen (aCons (eVar 1) aNil)) (eVar 6))) (mOr (mB (eBin bGt (eArgs (needN 2 (pureF m__law_edits)) (aCons (eVar 5) (aCons (eVar 1) aNil))) (eVar 4))) (mB (eBin (bEq true) (eVar 9) (eArgs (gList false) (aCons (eVar 8) aNil))))))) (sRet (eC (.bool false))) sSkip)
def l4 : SM := (sIf (mOr (mB (eBin (bEq true) (eArgs (needN 3 (pureF m__law_found)) (aCons (eVar 5) (aCons (eVar 1) (aCons (eVar 4) aNil)))) (eArgs (gLst false) (aCons (eVar 8) aNil)))) (mB (eBin (bEq true) (eArgs (needN 3 (pureF m_found_looks)) (aCons (eVar 5) (aCons (eVar 1) (aCons (eVar 4) aNil)))) (eArgs gTup (aCons (eVar 8) aNil))))) (sRet (eC (.bool false))) sSkip)
theorem b_look_eq : b_look = sCons l1 (sCons l2 (sCons l3 l4)) := rfl
def b_turn : SM := (sCons (sSet 3 (eArgs (needN 2 m__law_box) (aCons (eVar 0) (aCons (eVar 2) aNil))))
    (sCons (sSet 4 (eArgs (needN 2 m__law_take) (aCons (eVar 3) (aCons (eC (.int 4)) aNil))))
    (sCons (sSet 5 (eBMs gJoin (eC (.str "")) (aCons (eSl false (eArgs (needN 2 m__law_mixed) (aCons (eVar 3) (aCons (eC (.str "abc xyzABC-9~")) aNil))) none (some (eBin (bAdd false) (eBin (bMul false) (eC (.int 2)) (eBin (bAdd false) (eVar 4) (eC (.int 1)))) (eArgs (needN 2 m__law_take) (aCons (eVar 3) (aCons (eC (.int 4)) aNil)))))) aNil)))
    (sCons (sSet 6 (eBin bSub (eBin (bAdd false) (eArgs gLen (aCons (eVar 5) aNil)) (eArgs (needN 2 m__law_take) (aCons (eVar 3) (aCons (eBin (bAdd false) (eBin (bMul false) (eC (.int 2)) (eVar 4)) (eC (.int 1))) aNil)))) (eVar 4)))
    (sCons (sSet 7 (eArgs (needN 3 (pureF m__law_looks)) (aCons (eArgs gLen (aCons (eVar 5) aNil)) (aCons (eVar 4) (aCons (eVar 6) aNil)))))
    (sCons (sFor (iOf (eSl false (eArgs (needN 2 m__law_mixed) (aCons (eVar 3) (aCons (eVar 7) aNil))) none (some (eC (.int 3))))) (gN 8) (sCons (sSet 9 (eArgs (gList false) (aCons (eVar 8) aNil)))
    (sCons (sSet 1 (eArgs (needN 4 fun rs => needN 4 (pureF m_spoilt_text) (permL [1, 0, 3, 2] rs)) (aCons (eVar 4) (aCons (eVar 5) (aCons (eVar 6) (aCons (eVar 9) aNil))))))
    (sCons (sIf (mOr (mNot (mT (eArgs (needN 1 (pureF m__law_is_text)) (aCons (eVar 1) aNil)))) (mOr (mB (eBin (bEq true) (eArgs gLen (aCons (eVar 1) aNil)) (eVar 6))) (mOr (mB (eBin bGt (eArgs (needN 2 (pureF m__law_edits)) (aCons (eVar 5) (aCons (eVar 1) aNil))) (eVar 4))) (mB (eBin (bEq true) (eVar 9) (eArgs (gList false) (aCons (eVar 8) aNil))))))) (sRet (eC (.bool false))) sSkip)
    (sIf (mOr (mB (eBin (bEq true) (eArgs (needN 3 (pureF m__law_found)) (aCons (eVar 5) (aCons (eVar 1) (aCons (eVar 4) aNil)))) (eArgs (gLst false) (aCons (eVar 8) aNil)))) (mB (eBin (bEq true) (eArgs (needN 3 (pureF m_found_looks)) (aCons (eVar 5) (aCons (eVar 1) (aCons (eVar 4) aNil)))) (eArgs gTup (aCons (eVar 8) aNil))))) (sRet (eC (.bool false))) sSkip)))))
    (sIf (mNot (mT (eArgs (needN 5 m__law_errors) (aCons (eVar 3) (aCons (eVar 5) (aCons (eVar 4) (aCons (eBin bIx (eVar 7) (eC (.int 0))) (aCons (eVar 6) aNil)))))))) (sRet (eC (.bool false))) sSkip)))))))
def t1 : SM := (sSet 3 (eArgs (needN 2 m__law_box) (aCons (eVar 0) (aCons (eVar 2) aNil))))
def t2 : SM := (sSet 4 (eArgs (needN 2 m__law_take) (aCons (eVar 3) (aCons (eC (.int 4)) aNil))))
def t3 : SM := (sSet 5 (eBMs gJoin (eC (.str "")) (aCons (eSl false (eArgs (needN 2 m__law_mixed) (aCons (eVar 3) (aCons (eC (.str "abc xyzABC-9~")) aNil))) none (some (eBin (bAdd false) (eBin (bMul false) (eC (.int 2)) (eBin (bAdd false) (eVar 4) (eC (.int 1)))) (eArgs (needN 2 m__law_take) (aCons (eVar 3) (aCons (eC (.int 4)) aNil)))))) aNil)))
def t4 : SM := (sSet 6 (eBin bSub (eBin (bAdd false) (eArgs gLen (aCons (eVar 5) aNil)) (eArgs (needN 2 m__law_take) (aCons (eVar 3) (aCons (eBin (bAdd false) (eBin (bMul false) (eC (.int 2)) (eVar 4)) (eC (.int 1))) aNil)))) (eVar 4)))
def t5 : SM := (sSet 7 (eArgs (needN 3 (pureF m__law_looks)) (aCons (eArgs gLen (aCons (eVar 5) aNil)) (aCons (eVar 4) (aCons (eVar 6) aNil)))))
def t6 : SM := (sFor (iOf (eSl false (eArgs (needN 2 m__law_mixed) (aCons (eVar 3) (aCons (eVar 7) aNil))) none (some (eC (.int 3))))) (gN 8) (sCons (sSet 9 (eArgs (gList false) (aCons (eVar 8) aNil)))
    (sCons (sSet 1 (eArgs (needN 4 fun rs => needN 4 (pureF m_spoilt_text) (permL [1, 0, 3, 2] rs)) (aCons (eVar 4) (aCons (eVar 5) (aCons (eVar 6) (aCons (eVar 9) aNil))))))
    (sCons (sIf (mOr (mNot (mT (eArgs (needN 1 (pureF m__law_is_text)) (aCons (eVar 1) aNil)))) (mOr (mB (eBin (bEq true) (eArgs gLen (aCons (eVar 1) aNil)) (eVar 6))) (mOr (mB (eBin bGt (eArgs (needN 2 (pureF m__law_edits)) (aCons (eVar 5) (aCons (eVar 1) aNil))) (eVar 4))) (mB (eBin (bEq true) (eVar 9) (eArgs (gList false) (aCons (eVar 8) aNil))))))) (sRet (eC (.bool false))) sSkip)
    (sIf (mOr (mB (eBin (bEq true) (eArgs (needN 3 (pureF m__law_found)) (aCons (eVar 5) (aCons (eVar 1) (aCons (eVar 4) aNil)))) (eArgs (gLst false) (aCons (eVar 8) aNil)))) (mB (eBin (bEq true) (eArgs (needN 3 (pureF m_found_looks)) (aCons (eVar 5) (aCons (eVar 1) (aCons (eVar 4) aNil)))) (eArgs gTup (aCons (eVar 8) aNil))))) (sRet (eC (.bool false))) sSkip)))))
def t7 : SM := (sIf (mNot (mT (eArgs (needN 5 m__law_errors) (aCons (eVar 3) (aCons (eVar 5) (aCons (eVar 4) (aCons (eBin bIx (eVar 7) (eC (.int 0))) (aCons (eVar 6) aNil)))))))) (sRet (eC (.bool false))) sSkip)
theorem b_turn_eq : b_turn = sCons t1 (sCons t2 (sCons t3 (sCons t4 (sCons t5 (sCons t6 t7))))) := rfl
def c1 : SM := (sSet 1 (eArgs (needN 4 (pureF m_spoilt_text)) (aCons (eC (.str "ab")) (aCons (eC (.int 0)) (aCons (eArgs gTup (aCons (eC (.int 0)) (aCons (eC (.int 0)) aNil))) (aCons (eC (.int 2)) aNil))))))
def c2 : SM := (sIf (mOr (mB (eBin (bEq true) (eVar 1) (eC (.str "ab")))) (mB (eBin (bEq true) (eArgs (needN 3 (pureF m_found_looks)) (aCons (eC (.str "abcd")) (aCons (eArgs (needN 4 (pureF m_spoilt_text)) (aCons (eC (.str "abcd")) (aCons (eC (.int 1)) (aCons (eArgs gTup (aCons (eC (.int 1)) (aCons (eC (.int 2)) aNil))) (aCons (eC (.int 4)) aNil))))) (aCons (eC (.int 1)) aNil)))) (eArgs gTup (aCons (eArgs gTup (aCons (eC (.int 1)) (aCons (eC (.int 2)) aNil))) aNil))))) (sRet (eC (.bool false))) sSkip)
def c3 : SM := (sFor (iArgs gRange1 (aCons (eC (.int 2)) aNil)) (gN 2) (sCons (sSet 3 (eArgs (needN 2 m__law_box) (aCons (eVar 0) (aCons (eVar 2) aNil))))
    (sCons (sSet 4 (eArgs (needN 2 m__law_take) (aCons (eVar 3) (aCons (eC (.int 4)) aNil))))
    (sCons (sSet 5 (eBMs gJoin (eC (.str "")) (aCons (eSl false (eArgs (needN 2 m__law_mixed) (aCons (eVar 3) (aCons (eC (.str "abc xyzABC-9~")) aNil))) none (some (eBin (bAdd false) (eBin (bMul false) (eC (.int 2)) (eBin (bAdd false) (eVar 4) (eC (.int 1)))) (eArgs (needN 2 m__law_take) (aCons (eVar 3) (aCons (eC (.int 4)) aNil)))))) aNil)))
    (sCons (sSet 6 (eBin bSub (eBin (bAdd false) (eArgs gLen (aCons (eVar 5) aNil)) (eArgs (needN 2 m__law_take) (aCons (eVar 3) (aCons (eBin (bAdd false) (eBin (bMul false) (eC (.int 2)) (eVar 4)) (eC (.int 1))) aNil)))) (eVar 4)))
    (sCons (sSet 7 (eArgs (needN 3 (pureF m__law_looks)) (aCons (eArgs gLen (aCons (eVar 5) aNil)) (aCons (eVar 4) (aCons (eVar 6) aNil)))))
    (sCons (sFor (iOf (eSl false (eArgs (needN 2 m__law_mixed) (aCons (eVar 3) (aCons (eVar 7) aNil))) none (some (eC (.int 3))))) (gN 8) (sCons (sSet 9 (eArgs (gList false) (aCons (eVar 8) aNil)))
    (sCons (sSet 1 (eArgs (needN 4 fun rs => needN 4 (pureF m_spoilt_text) (permL [1, 0, 3, 2] rs)) (aCons (eVar 4) (aCons (eVar 5) (aCons (eVar 6) (aCons (eVar 9) aNil))))))
    (sCons (sIf (mOr (mNot (mT (eArgs (needN 1 (pureF m__law_is_text)) (aCons (eVar 1) aNil)))) (mOr (mB (eBin (bEq true) (eArgs gLen (aCons (eVar 1) aNil)) (eVar 6))) (mOr (mB (eBin bGt (eArgs (needN 2 (pureF m__law_edits)) (aCons (eVar 5) (aCons (eVar 1) aNil))) (eVar 4))) (mB (eBin (bEq true) (eVar 9) (eArgs (gList false) (aCons (eVar 8) aNil))))))) (sRet (eC (.bool false))) sSkip)
    (sIf (mOr (mB (eBin (bEq true) (eArgs (needN 3 (pureF m__law_found)) (aCons (eVar 5) (aCons (eVar 1) (aCons (eVar 4) aNil)))) (eArgs (gLst false) (aCons (eVar 8) aNil)))) (mB (eBin (bEq true) (eArgs (needN 3 (pureF m_found_looks)) (aCons (eVar 5) (aCons (eVar 1) (aCons (eVar 4) aNil)))) (eArgs gTup (aCons (eVar 8) aNil))))) (sRet (eC (.bool false))) sSkip)))))
    (sIf (mNot (mT (eArgs (needN 5 m__law_errors) (aCons (eVar 3) (aCons (eVar 5) (aCons (eVar 4) (aCons (eBin bIx (eVar 7) (eC (.int 0))) (aCons (eVar 6) aNil)))))))) (sRet (eC (.bool false))) sSkip))))))))
def c4 : SM := (sRet (eC (.bool true)))
theorem b_law_eq : b_law = sCons c1 (sCons c2 (sCons c3 c4)) := rfl

def ALP : List Nat := [97, 98, 99, 32, 120, 121, 122, 65, 66, 67, 45, 57, 126]
theorem ALP_eq : (PyData.str "abc xyzABC-9~") = .str (tx ALP) := by kernel_rfl
theorem sl_obj {α : Type} {f : α → PyData} {ys : List α} {S : Sto} {r : Nat} (h : S[r]? = some (.lst (ys.map fun a => R.dat (f a)))) (k : Nat) : gSl false (.obj r) none (some (k : Int)) S = .ok (.dat (.list ((ys.take k).map f))) S := by
  unfold gSl
  dsimp only [lv]
  rw [h]
  dsimp only
  rw [cutR_f, cut_first, newL_f]
theorem listU_tx (l : List Nat) (hl : l.length ≤ 1000) (S : Sto) : gListU true [T2 l] S = .ok (.obj S.length) (S ++ [.lst (l.map fun c => R.dat (sg c))]) := by
  have sz := sz_of (show l.length ≤ 10000 by omega)
  unfold gListU
  dsimp only
  rw [tx_len, if_pos (by rw [sz]; trivial)]
  unfold signs
  rw [tx_codes, List.map_map]
  rfl
theorem listU_l {α : Type} (f : α → PyData) (xs : List α) (S : Sto) : gListU true [.dat (.list (xs.map f))] S = .ok (.obj S.length) (S ++ [.lst (xs.map fun a => R.dat (f a))]) := by
  show newL true ((xs.map f).map .dat) S = _
  rw [map_dat]
  rfl
theorem len_list {α : Type} (f : α → PyData) (xs : List α) (hl : xs.length ≤ 1000) (S : Sto) : gLen [.dat (.list (xs.map f))] S = .ok (nR xs.length) S := by
  have sz := sz_of (show xs.length ≤ 10000 by omega)
  simp only [Pev.fnB, Pev.OutS.toF, Pev.sCons, Pev.sSet, Pev.sRet, Pev.sRetN, Pev.sIf, Pev.sSkip, Pev.sExpr, Pev.sTgt, Pev.sFor, Pev.sRaise, Pev.sPut, Pev.putAt, Pev.sPar2, Pev.sPar3, Pev.sTry, Pev.hRun, Pev.OutS.fade, Pev.OutS.calm, Pev.Out.toS, Pev.Out.bind, Pev.noX, Pev.eVar, Pev.eC, Pev.eBin, Pev.eUn, Pev.eArgs, Pev.aCons, Pev.aNil, Pev.needN, Pev.eAnd, Pev.eOr, Pev.eNot, Pev.eIf, Pev.mAnd, Pev.mOr, Pev.mNot, Pev.mB, Pev.mT, Pev.eChain, Pev.truth, Pev.ans, Pev.ofT, Pev.ofB, Pev.bAdd, Pev.bSub, Pev.bMul, Pev.bDiv, Pev.bMod, Pev.bLt, Pev.bLe, Pev.bGt, Pev.bGe, Pev.bIsN, Pev.isNone?, Pev.uNeg, Pev.bIx, Pev.lv, Pev.lvt, Pev.gLen, Pev.gAbs, Pev.gInt, Pev.gBool, Pev.gList, Pev.gTuple, Pev.gTup, Pev.gLst, Pev.newL, Pev.newT, Pev.datAll, Pev.R.d?, Pev.uIs, Pev.tyOf, Pev.eLc, Pev.iOf, Pev.itOf, Pev.iArgs, Pev.gRange1, Pev.gRange2, Pev.gN, Pev.gTp, Pev.gsCons, Pev.gsNil, Pev.tv, Pev.eBMl, Pev.gAppend, Pev.gPop, Pev.gExtend, Pev.cellOf, Pev.eFld, Pev.tYes', Pev.wipeR, Pev.permL, List.map_cons, List.map_nil, List.length_cons, List.length_nil, List.cons_append, List.nil_append, List.append_nil, List.replicate, List.getElem?_cons_zero, List.getElem?_cons_succ, List.getElem?_nil, List.set_cons_zero, List.set_cons_succ, List.set_nil, List.filterMap_cons, List.filterMap_nil, Option.map_some, Option.map_none, Option.bind_some, Option.bind_none, if_true, if_false, Bool.not_true, Bool.not_false, Nat.reduceSub, Nat.reduceAdd, Nat.reduceEqDiff, Nat.reduceLeDiff, reduceIte, ite_true, ite_false, Bool.true_eq_false, Bool.false_eq_true, ↓reduceIte, Nat.zero_add, Nat.add_zero, Nat.sub_zero, Pev.outD_dat, Pev.snap_dat, Pev.outX, List.any_cons, List.any_nil, List.all_cons, List.all_nil, id_eq, Bool.or_false, Bool.or_true, Bool.true_or, Bool.false_or, Bool.and_true, Bool.true_and, Bool.and_false, Bool.false_and, Bool.and_self, Bool.or_self, Int.cast_ofNat_Int, decide_true, decide_false, Pev.isa_self, Pev.isa_bi, Pev.isa_tl, Pev.isa_lt, Pev.isa_ti, Pev.isa_li, Pev.isa_it, Pev.gAll, Pev.gAny, Pev.gSum, Pev.bls?, Pev.ints?, Pev.eq_ints, Pev.datAll_map, Pev.map_dat, Pev.app_map, Pev.datAll_f, Pev.ints_f, Pev.bls_f, Pev.at0, Pev.at1, Pev.at2, Pev.atLast, Pev.two_small, Pev.three_small, Pev.one_small, Pev.nil_small, Pev.oPart, Pev.toI, Pev.eSl, Pev.gSl, Pev.uRev, List.isEmpty_cons, List.isEmpty_nil, List.length_map, sz]
theorem mem_alp {y : List Nat} (h : y.Perm ALP) : y.length = 13 ∧ y.Nodup ∧ Fine y ∧ 48 ∉ y := by
  have e : ALP.Nodup := by unfold ALP; decide
  refine ⟨h.length_eq, (h.nodup_iff).mpr e, fun c hc => ?_, fun hc => ?_⟩
  · have := h.mem_iff.mp hc
    unfold ALP at this
    simp only [List.mem_cons, List.not_mem_nil, or_false] at this
    unfold Sg
    omega
  · have := h.mem_iff.mp hc
    unfold ALP at this
    simp at this
/-- a look there always is -/
theorem lk_some {L n o : Nat} (h2 : 2 * (n + 1) ≤ L) (h3 : (o : Int) - L ≤ n) (h4 : (L : Int) - o ≤ n) : ∃ u, (lk L n o)[0]? = some u ∧ u ∈ lk L n o := by
  have cl := cut_lin (p := n) h2
  have ce := cut_end L n
  have cm := cut_mono L n n
  have hm : (n, ((cut L n n : Int) + ((o : Int) - L)).toNat) ∈ lk L n o := mem_lk.mpr ⟨Nat.le_refl _, by dsimp only; omega, by unfold okP; dsimp only; rw [ce]; omega⟩
  cases e : lk L n o with
  | nil => rw [e] at hm; cases hm
  | cons u r => exact ⟨u, rfl, List.mem_cons_self⟩
theorem lawtext_ok {z : List Nat} (fz : Fine z) (lz : z.length ≤ 60) : Gv m__law_is_text [.str (tx z)] (.bool true) := by
  have sz := sz_of (show z.length ≤ 10000 by omega)
  have it := it_tx z []
  have us : uIs [.str] (T2 z) [] = .ok (.dat (.bool true)) [] := rfl
  have lc := lc_pure (keep := []) (g := gN 1) (t := (mNot (mB (eChain bLe bLe (eC (.str " ")) (eVar 1) (eC (.str "~")))))) (elt := eVar 1) (ρ := [some (T2 z), none]) (S := []) (fun c : Nat => R.dat (sg c)) (fun _ => false) (fun c => R.dat (sg c)) stands_nil z (fun c hc => ⟨_, rfl, by
    have cs := chain_sg (fz c hc) [some (T2 z), some (.dat (sg c))] rfl []
    show (mNot (mB (eChain bLe bLe (eC (.str " ")) (eVar 1) (eC (.str "~"))))) [some (T2 z), some (.dat (sg c))] [] = _
    generalize (eChain bLe bLe (eC (.str " ")) (eVar 1) (eC (.str "~"))) = m at cs
    simp only [Pev.fnB, Pev.OutS.toF, Pev.sCons, Pev.sSet, Pev.sRet, Pev.sRetN, Pev.sIf, Pev.sSkip, Pev.sExpr, Pev.sTgt, Pev.sFor, Pev.sRaise, Pev.sPut, Pev.sAugS, Pev.sPar2, Pev.sPar3, Pev.OutS.fade, Pev.OutS.calm, Pev.Out.toS, Pev.Out.bind, Pev.noX, Pev.eVar, Pev.eC, Pev.eBin, Pev.eUn, Pev.eArgs, Pev.aCons, Pev.aNil, Pev.needN, Pev.eAnd, Pev.eOr, Pev.eNot, Pev.eIf, Pev.mAnd, Pev.mOr, Pev.mNot, Pev.mB, Pev.mT, Pev.eChain, Pev.truth, Pev.ofT, Pev.ofB, Pev.R.d?, Pev.eLc, Pev.iOf, Pev.iArgs, Pev.gN, Pev.gTp, Pev.gsCons, Pev.gsNil, Pev.tv, Pev.eBMl, Pev.eFld, Pev.tYes', Pev.wipeR, Pev.permL, List.map_cons, List.map_nil, List.length_cons, List.length_nil, List.cons_append, List.nil_append, List.append_nil, List.replicate, List.getElem?_cons_zero, List.getElem?_cons_succ, List.getElem?_nil, List.set_cons_zero, List.set_cons_succ, List.set_nil, List.filterMap_cons, List.filterMap_nil, Option.map_some, Option.map_none, Option.bind_some, Option.bind_none, if_true, if_false, Bool.not_true, Bool.not_false, Nat.reduceSub, Nat.reduceAdd, Nat.reduceEqDiff, Nat.reduceLeDiff, reduceIte, ite_true, ite_false, Bool.true_eq_false, Bool.false_eq_true, ↓reduceIte, Nat.zero_add, Nat.add_zero, Nat.sub_zero, id_eq, Bool.or_false, Bool.or_true, Bool.true_or, Bool.false_or, Bool.and_true, Bool.true_and, Bool.and_false, Bool.false_and, Bool.and_self, Bool.or_self, cs], fun h => by cases h⟩)
  have fl : z.filter (fun _ => false) = [] := List.filter_eq_nil_iff.mpr fun _ _ h => by cases h
  rw [fl] at lc
  have gg : gLst false [] [] = .ok (.dat (.list [])) [] := rfl
  have nl : newL false [] [] = .ok (.dat (.list [])) [] := rfl
  have be : bEq false (.dat (.list [])) (.dat (.list [])) [] = .ok (.dat (.bool true)) [] := rfl
  unfold Gv m__law_is_text b__law_is_text
  generalize hm : (mNot (mB (eChain bLe bLe (eC (.str " ")) (eVar 1) (eC (.str "~"))))) = m at lc
  unfold T2 at *
  simp only [Pev.fnB, Pev.OutS.toF, Pev.sCons, Pev.sSet, Pev.sRet, Pev.sRetN, Pev.sIf, Pev.sSkip, Pev.sExpr, Pev.sTgt, Pev.sFor, Pev.sRaise, Pev.sPut, Pev.sAugS, Pev.sPar2, Pev.sPar3, Pev.OutS.fade, Pev.OutS.calm, Pev.Out.toS, Pev.Out.bind, Pev.noX, Pev.eVar, Pev.eC, Pev.eBin, Pev.eUn, Pev.eArgs, Pev.aCons, Pev.aNil, Pev.needN, Pev.eAnd, Pev.eOr, Pev.eNot, Pev.eIf, Pev.mAnd, Pev.mOr, Pev.mNot, Pev.mB, Pev.mT, Pev.eChain, Pev.truth, Pev.ofT, Pev.ofB, Pev.R.d?, Pev.eLc, Pev.iOf, Pev.iArgs, Pev.gN, Pev.gTp, Pev.gsCons, Pev.gsNil, Pev.tv, Pev.eBMl, Pev.eFld, Pev.tYes', Pev.wipeR, Pev.permL, List.map_cons, List.map_nil, List.length_cons, List.length_nil, List.cons_append, List.nil_append, List.append_nil, List.replicate, List.getElem?_cons_zero, List.getElem?_cons_succ, List.getElem?_nil, List.set_cons_zero, List.set_cons_succ, List.set_nil, List.filterMap_cons, List.filterMap_nil, Option.map_some, Option.map_none, Option.bind_some, Option.bind_none, if_true, if_false, Bool.not_true, Bool.not_false, Nat.reduceSub, Nat.reduceAdd, Nat.reduceEqDiff, Nat.reduceLeDiff, reduceIte, ite_true, ite_false, Bool.true_eq_false, Bool.false_eq_true, ↓reduceIte, Nat.zero_add, Nat.add_zero, Nat.sub_zero, id_eq, Bool.or_false, Bool.or_true, Bool.true_or, Bool.false_or, Bool.and_true, Bool.true_and, Bool.and_false, Bool.false_and, Bool.and_self, Bool.or_self, us, it, List.length_map, sz, lc, gg, nl, be, outD_dat]
theorem four_call {m : FM} {d e f g h : PyData} (hg : Gv m [d, e, f, g] h) (S : Sto) : pureF m [.dat d, .dat e, .dat f, .dat g] S = .ok (.dat h) S := pure_gives hg (by rw [List.mapM_cons, snap_dat, List.mapM_cons, snap_dat, List.mapM_cons, snap_dat, List.mapM_cons, snap_dat]; rfl) rfl
section
variable {ns : List Int} {k n o q a : Nat} {x z : List Nat} {S : Sto} {x1 x2 x3 x4 x5 x6 x7 x8 x9 : Option R}
theorem t1_ok {j : Nat} (hj : j < 100) (hn : ns.length ≤ 63) : ∃ k S', Tk k S' ∧ t1 [some (.ro (ns.map .int)), x1, some (nR j), x3, x4, x5, x6, x7, x8, x9] S = .nx [some (.ro (ns.map .int)), x1, some (nR j), some (.obj k), x4, x5, x6, x7, x8, x9] S' := by
  obtain ⟨S', h1, h2⟩ := newbox (ns := ns) (S := S) hj hn
  refine ⟨S.length, S', h1, ?_⟩
  unfold t1
  unfold nR at h2
  simp only [Pev.fnB, Pev.OutS.toF, Pev.sCons, Pev.sSet, Pev.sRet, Pev.sRetN, Pev.sIf, Pev.sSkip, Pev.sExpr, Pev.sTgt, Pev.sFor, Pev.sRaise, Pev.sPut, Pev.sAugS, Pev.sPar2, Pev.sPar3, Pev.OutS.fade, Pev.OutS.calm, Pev.Out.toS, Pev.Out.bind, Pev.noX, Pev.eVar, Pev.eC, Pev.eBin, Pev.eUn, Pev.eArgs, Pev.aCons, Pev.aNil, Pev.needN, Pev.eAnd, Pev.eOr, Pev.eNot, Pev.eIf, Pev.mAnd, Pev.mOr, Pev.mNot, Pev.mB, Pev.mT, Pev.eChain, Pev.truth, Pev.ofT, Pev.ofB, Pev.R.d?, Pev.eLc, Pev.iOf, Pev.iArgs, Pev.gN, Pev.gTp, Pev.gsCons, Pev.gsNil, Pev.tv, Pev.eBMl, Pev.eFld, Pev.tYes', Pev.wipeR, Pev.permL, List.map_cons, List.map_nil, List.length_cons, List.length_nil, List.cons_append, List.nil_append, List.append_nil, List.replicate, List.getElem?_cons_zero, List.getElem?_cons_succ, List.getElem?_nil, List.set_cons_zero, List.set_cons_succ, List.set_nil, List.filterMap_cons, List.filterMap_nil, Option.map_some, Option.map_none, Option.bind_some, Option.bind_none, if_true, if_false, Bool.not_true, Bool.not_false, Nat.reduceSub, Nat.reduceAdd, Nat.reduceEqDiff, Nat.reduceLeDiff, reduceIte, ite_true, ite_false, Bool.true_eq_false, Bool.false_eq_true, ↓reduceIte, Nat.zero_add, Nat.add_zero, Nat.sub_zero, id_eq, Bool.or_false, Bool.or_true, Bool.true_or, Bool.false_or, Bool.and_true, Bool.true_and, Bool.and_false, Bool.false_and, Bool.and_self, Bool.or_self, h2]
theorem t2_ok (h : Tk k S) : ∃ n S', n ≤ 3 ∧ Tk k S' ∧ t2 [some (.ro (ns.map .int)), x1, x2, some (.obj k), x4, x5, x6, x7, x8, x9] S = .nx [some (.ro (ns.map .int)), x1, x2, some (.obj k), some (nR n), x5, x6, x7, x8, x9] S' := by
  obtain ⟨n, S2, n1, n2, _, n3⟩ := draw h 4 (by omega) (by omega)
  refine ⟨n, S2, by omega, n2, ?_⟩
  have n3 : m__law_take [.obj k, .dat (.int 4)] S = .ok (nR n) S2 := n3
  unfold t2
  simp only [Pev.fnB, Pev.OutS.toF, Pev.sCons, Pev.sSet, Pev.sRet, Pev.sRetN, Pev.sIf, Pev.sSkip, Pev.sExpr, Pev.sTgt, Pev.sFor, Pev.sRaise, Pev.sPut, Pev.sAugS, Pev.sPar2, Pev.sPar3, Pev.OutS.fade, Pev.OutS.calm, Pev.Out.toS, Pev.Out.bind, Pev.noX, Pev.eVar, Pev.eC, Pev.eBin, Pev.eUn, Pev.eArgs, Pev.aCons, Pev.aNil, Pev.needN, Pev.eAnd, Pev.eOr, Pev.eNot, Pev.eIf, Pev.mAnd, Pev.mOr, Pev.mNot, Pev.mB, Pev.mT, Pev.eChain, Pev.truth, Pev.ofT, Pev.ofB, Pev.R.d?, Pev.eLc, Pev.iOf, Pev.iArgs, Pev.gN, Pev.gTp, Pev.gsCons, Pev.gsNil, Pev.tv, Pev.eBMl, Pev.eFld, Pev.tYes', Pev.wipeR, Pev.permL, List.map_cons, List.map_nil, List.length_cons, List.length_nil, List.cons_append, List.nil_append, List.append_nil, List.replicate, List.getElem?_cons_zero, List.getElem?_cons_succ, List.getElem?_nil, List.set_cons_zero, List.set_cons_succ, List.set_nil, List.filterMap_cons, List.filterMap_nil, Option.map_some, Option.map_none, Option.bind_some, Option.bind_none, if_true, if_false, Bool.not_true, Bool.not_false, Nat.reduceSub, Nat.reduceAdd, Nat.reduceEqDiff, Nat.reduceLeDiff, reduceIte, ite_true, ite_false, Bool.true_eq_false, Bool.false_eq_true, ↓reduceIte, Nat.zero_add, Nat.add_zero, Nat.sub_zero, id_eq, Bool.or_false, Bool.or_true, Bool.true_or, Bool.false_or, Bool.and_true, Bool.true_and, Bool.and_false, Bool.false_and, Bool.and_self, Bool.or_self, n3]
theorem t3_ok (h : Tk k S) (hn : n ≤ 3) : ∃ (x : List Nat) (S' : Sto), Fine x ∧ x.Nodup ∧ 48 ∉ x ∧ 2 * (n + 1) ≤ x.length ∧ x.length ≤ 11 ∧ Tk k S' ∧ t3 [some (.ro (ns.map .int)), x1, x2, some (.obj k), some (nR n), x5, x6, x7, x8, x9] S = .nx [some (.ro (ns.map .int)), x1, x2, some (.obj k), some (nR n), some (T2 x), x6, x7, x8, x9] S' := by
  obtain ⟨ys, S1, p1, p2, p3, p4⟩ := mixed_ok sg ALP (by decide) (arg := .str (tx ALP)) (len_tx (by decide)) (listU_tx ALP (by decide)) h
  obtain ⟨q1, q2, q3, q4⟩ := mem_alp p1
  obtain ⟨t, S2, d1, d2, d3, d4⟩ := draw p2 4 (by omega) (by omega)
  have d4 : m__law_take [.obj k, .dat (.int 4)] S1 = .ok (nR t) S2 := d4
  have lk := h.lt
  have c2 : S2[S.length + 1]? = some (.lst (ys.map fun a => R.dat (sg a))) := by rw [d3.2 _ (by omega)]; exact p3
  have m2 : bMul false (.dat (.int 2)) (.dat (.int ((n + 1 : Nat) : Int))) S1 = .ok (.dat (.int ((2 * (n + 1) : Nat) : Int))) S1 := mul_nn (x := 2) (y := n + 1) (by omega) S1
  have sl := sl_obj c2 (2 * (n + 1) + t)
  have jn := join_ok (l := ys.take (2 * (n + 1) + t)) (by rw [List.length_take]; omega) S2
  refine ⟨ys.take (2 * (n + 1) + t), S2, fun c hc => q3 c (List.mem_of_mem_take hc), (List.take_sublist _ _).nodup q2, fun hc => q4 (List.mem_of_mem_take hc), by rw [List.length_take]; omega, by rw [List.length_take]; omega, d2, ?_⟩
  have em : eC (.str "") [some (.ro (ns.map .int)), x1, x2, some (.obj k), some (nR n), x5, x6, x7, x8, x9] S = .ok (.dat (.str "")) S := rfl
  unfold t3
  rw [ALP_eq]
  unfold sSet eBMs
  rw [em]
  dsimp only [Out.bind]
  unfold nR T2 at *
  simp only [Pev.fnB, Pev.OutS.toF, Pev.sCons, Pev.sSet, Pev.sRet, Pev.sRetN, Pev.sIf, Pev.sSkip, Pev.sExpr, Pev.sTgt, Pev.sFor, Pev.sRaise, Pev.sPut, Pev.sAugS, Pev.sPar2, Pev.sPar3, Pev.OutS.fade, Pev.OutS.calm, Pev.Out.toS, Pev.Out.bind, Pev.noX, Pev.eVar, Pev.eC, Pev.eBin, Pev.eUn, Pev.eArgs, Pev.aCons, Pev.aNil, Pev.needN, Pev.eAnd, Pev.eOr, Pev.eNot, Pev.eIf, Pev.mAnd, Pev.mOr, Pev.mNot, Pev.mB, Pev.mT, Pev.eChain, Pev.truth, Pev.ofT, Pev.ofB, Pev.R.d?, Pev.eLc, Pev.iOf, Pev.iArgs, Pev.gN, Pev.gTp, Pev.gsCons, Pev.gsNil, Pev.tv, Pev.eBMl, Pev.eFld, Pev.tYes', Pev.wipeR, Pev.permL, List.map_cons, List.map_nil, List.length_cons, List.length_nil, List.cons_append, List.nil_append, List.append_nil, List.replicate, List.getElem?_cons_zero, List.getElem?_cons_succ, List.getElem?_nil, List.set_cons_zero, List.set_cons_succ, List.set_nil, List.filterMap_cons, List.filterMap_nil, Option.map_some, Option.map_none, Option.bind_some, Option.bind_none, if_true, if_false, Bool.not_true, Bool.not_false, Nat.reduceSub, Nat.reduceAdd, Nat.reduceEqDiff, Nat.reduceLeDiff, reduceIte, ite_true, ite_false, Bool.true_eq_false, Bool.false_eq_true, ↓reduceIte, Nat.zero_add, Nat.add_zero, Nat.sub_zero, id_eq, Bool.or_false, Bool.or_true, Bool.true_or, Bool.false_or, Bool.and_true, Bool.true_and, Bool.and_false, Bool.false_and, Bool.and_self, Bool.or_self, p4, eSl, oPart, toI_i, add_n1, m2, d4, add_nn, sl, jn]
theorem t4_ok (h : Tk k S) (hn : n ≤ 3) (h2 : 2 * (n + 1) ≤ x.length) (lx : x.length ≤ 11) : ∃ (o : Nat) (S' : Sto), o ≤ 14 ∧ (o : Int) - x.length ≤ n ∧ (x.length : Int) - o ≤ n ∧ Tk k S' ∧ t4 [some (.ro (ns.map .int)), x1, x2, some (.obj k), some (nR n), some (T2 x), x6, x7, x8, x9] S = .nx [some (.ro (ns.map .int)), x1, x2, some (.obj k), some (nR n), some (T2 x), some (nR o), x7, x8, x9] S' := by
  obtain ⟨t, S1, d1, d2, _, d4⟩ := draw h (2 * n + 1) (by omega) (by omega)
  refine ⟨x.length + t - n, S1, by omega, by omega, by omega, d2, ?_⟩
  have gl := len_tx (l := x) (by omega) S
  have m2 : bMul false (.dat (.int 2)) (.dat (.int (n : Nat))) S = .ok (.dat (.int ((2 * n : Nat) : Int))) S := mul_nn (x := 2) (y := n) (by omega) S
  have sb : bSub (.dat (.int ((x.length + t : Nat) : Int))) (.dat (.int (n : Nat))) S1 = .ok (.dat (.int ((x.length + t - n : Nat) : Int))) S1 := by
    rw [sub_ii]
    congr 3
    omega
  unfold t4
  unfold nR T2 at *
  simp only [Pev.fnB, Pev.OutS.toF, Pev.sCons, Pev.sSet, Pev.sRet, Pev.sRetN, Pev.sIf, Pev.sSkip, Pev.sExpr, Pev.sTgt, Pev.sFor, Pev.sRaise, Pev.sPut, Pev.sAugS, Pev.sPar2, Pev.sPar3, Pev.OutS.fade, Pev.OutS.calm, Pev.Out.toS, Pev.Out.bind, Pev.noX, Pev.eVar, Pev.eC, Pev.eBin, Pev.eUn, Pev.eArgs, Pev.aCons, Pev.aNil, Pev.needN, Pev.eAnd, Pev.eOr, Pev.eNot, Pev.eIf, Pev.mAnd, Pev.mOr, Pev.mNot, Pev.mB, Pev.mT, Pev.eChain, Pev.truth, Pev.ofT, Pev.ofB, Pev.R.d?, Pev.eLc, Pev.iOf, Pev.iArgs, Pev.gN, Pev.gTp, Pev.gsCons, Pev.gsNil, Pev.tv, Pev.eBMl, Pev.eFld, Pev.tYes', Pev.wipeR, Pev.permL, List.map_cons, List.map_nil, List.length_cons, List.length_nil, List.cons_append, List.nil_append, List.append_nil, List.replicate, List.getElem?_cons_zero, List.getElem?_cons_succ, List.getElem?_nil, List.set_cons_zero, List.set_cons_succ, List.set_nil, List.filterMap_cons, List.filterMap_nil, Option.map_some, Option.map_none, Option.bind_some, Option.bind_none, if_true, if_false, Bool.not_true, Bool.not_false, Nat.reduceSub, Nat.reduceAdd, Nat.reduceEqDiff, Nat.reduceLeDiff, reduceIte, ite_true, ite_false, Bool.true_eq_false, Bool.false_eq_true, ↓reduceIte, Nat.zero_add, Nat.add_zero, Nat.sub_zero, id_eq, Bool.or_false, Bool.or_true, Bool.true_or, Bool.false_or, Bool.and_true, Bool.true_and, Bool.and_false, Bool.false_and, Bool.and_self, Bool.or_self, gl, m2, add_n1, d4, add_nn, sb]
theorem t5_ok (hn : n ≤ 3) (lx : x.length ≤ 20) (ho : o ≤ 20) : t5 [some (.ro (ns.map .int)), x1, x2, x3, some (nR n), some (T2 x), some (nR o), x7, x8, x9] S = .nx [some (.ro (ns.map .int)), x1, x2, x3, some (nR n), some (T2 x), some (nR o), some (.dat (.list ((lk x.length n o).map prI))), x8, x9] S := by
  have gl := len_tx (l := x) (by omega) S
  have t := three_call (lawlooks_ok (L := x.length) (n := n) (o := o) lx hn ho) S
  unfold t5
  unfold nR T2 at *
  simp only [Pev.fnB, Pev.OutS.toF, Pev.sCons, Pev.sSet, Pev.sRet, Pev.sRetN, Pev.sIf, Pev.sSkip, Pev.sExpr, Pev.sTgt, Pev.sFor, Pev.sRaise, Pev.sPut, Pev.sAugS, Pev.sPar2, Pev.sPar3, Pev.OutS.fade, Pev.OutS.calm, Pev.Out.toS, Pev.Out.bind, Pev.noX, Pev.eVar, Pev.eC, Pev.eBin, Pev.eUn, Pev.eArgs, Pev.aCons, Pev.aNil, Pev.needN, Pev.eAnd, Pev.eOr, Pev.eNot, Pev.eIf, Pev.mAnd, Pev.mOr, Pev.mNot, Pev.mB, Pev.mT, Pev.eChain, Pev.truth, Pev.ofT, Pev.ofB, Pev.R.d?, Pev.eLc, Pev.iOf, Pev.iArgs, Pev.gN, Pev.gTp, Pev.gsCons, Pev.gsNil, Pev.tv, Pev.eBMl, Pev.eFld, Pev.tYes', Pev.wipeR, Pev.permL, List.map_cons, List.map_nil, List.length_cons, List.length_nil, List.cons_append, List.nil_append, List.append_nil, List.replicate, List.getElem?_cons_zero, List.getElem?_cons_succ, List.getElem?_nil, List.set_cons_zero, List.set_cons_succ, List.set_nil, List.filterMap_cons, List.filterMap_nil, Option.map_some, Option.map_none, Option.bind_some, Option.bind_none, if_true, if_false, Bool.not_true, Bool.not_false, Nat.reduceSub, Nat.reduceAdd, Nat.reduceEqDiff, Nat.reduceLeDiff, reduceIte, ite_true, ite_false, Bool.true_eq_false, Bool.false_eq_true, ↓reduceIte, Nat.zero_add, Nat.add_zero, Nat.sub_zero, id_eq, Bool.or_false, Bool.or_true, Bool.true_or, Bool.false_or, Bool.and_true, Bool.true_and, Bool.and_false, Bool.false_and, Bool.and_self, Bool.or_self, gl, t]
theorem look_ok (hn : n ≤ 3) (lx : x.length ≤ 20) (ho : o ≤ 20) (fx : Fine x) (nd : x.Nodup) (h0 : 48 ∉ x) (h2 : 2 * (n + 1) ≤ x.length) (hq : (q, a) ∈ lk x.length n o) : ∃ x1' x9', b_look [some (.ro (ns.map .int)), x1, x2, x3, some (nR n), some (T2 x), some (nR o), x7, some (.dat (prI (q, a))), x9] S = .nx [some (.ro (ns.map .int)), x1', x2, x3, some (nR n), some (T2 x), some (nR o), x7, some (.dat (prI (q, a))), x9'] S := by
  obtain ⟨g1, g2, g3⟩ := spoilt_all (s := 48) h2 nd h0 hq
  have sp := four_call (spoilt_ok false fx nd h0 h2 lx hn ho hq) S
  have fz : Fine (ml x n q ((a : Int) - cut x.length n q) ((o : Int) - x.length - ((a : Int) - cut x.length n q)) 48 (n + 1)) := ml_fine fx (by unfold Sg; omega) _
  generalize ml x n q ((a : Int) - cut x.length n q) ((o : Int) - x.length - ((a : Int) - cut x.length n q)) 48 (n + 1) = z at *
  have e1 : l1 [some (.ro (ns.map .int)), x1, x2, x3, some (nR n), some (T2 x), some (nR o), x7, some (.dat (prI (q, a))), x9] S = .nx [some (.ro (ns.map .int)), x1, x2, x3, some (nR n), some (T2 x), some (nR o), x7, some (.dat (prI (q, a))), some (.dat (lkd false q a))] S := rfl
  have e2 : l2 [some (.ro (ns.map .int)), x1, x2, x3, some (nR n), some (T2 x), some (nR o), x7, some (.dat (prI (q, a))), some (.dat (lkd false q a))] S = .nx [some (.ro (ns.map .int)), some (T2 z), x2, x3, some (nR n), some (T2 x), some (nR o), x7, some (.dat (prI (q, a))), some (.dat (lkd false q a))] S := by
    unfold l2
    unfold nR T2 at *
    simp only [Pev.fnB, Pev.OutS.toF, Pev.sCons, Pev.sSet, Pev.sRet, Pev.sRetN, Pev.sIf, Pev.sSkip, Pev.sExpr, Pev.sTgt, Pev.sFor, Pev.sRaise, Pev.sPut, Pev.sAugS, Pev.sPar2, Pev.sPar3, Pev.OutS.fade, Pev.OutS.calm, Pev.Out.toS, Pev.Out.bind, Pev.noX, Pev.eVar, Pev.eC, Pev.eBin, Pev.eUn, Pev.eArgs, Pev.aCons, Pev.aNil, Pev.needN, Pev.eAnd, Pev.eOr, Pev.eNot, Pev.eIf, Pev.mAnd, Pev.mOr, Pev.mNot, Pev.mB, Pev.mT, Pev.eChain, Pev.truth, Pev.ofT, Pev.ofB, Pev.R.d?, Pev.eLc, Pev.iOf, Pev.iArgs, Pev.gN, Pev.gTp, Pev.gsCons, Pev.gsNil, Pev.tv, Pev.eBMl, Pev.eFld, Pev.tYes', Pev.wipeR, Pev.permL, List.map_cons, List.map_nil, List.length_cons, List.length_nil, List.cons_append, List.nil_append, List.append_nil, List.replicate, List.getElem?_cons_zero, List.getElem?_cons_succ, List.getElem?_nil, List.set_cons_zero, List.set_cons_succ, List.set_nil, List.filterMap_cons, List.filterMap_nil, Option.map_some, Option.map_none, Option.bind_some, Option.bind_none, if_true, if_false, Bool.not_true, Bool.not_false, Nat.reduceSub, Nat.reduceAdd, Nat.reduceEqDiff, Nat.reduceLeDiff, reduceIte, ite_true, ite_false, Bool.true_eq_false, Bool.false_eq_true, ↓reduceIte, Nat.zero_add, Nat.add_zero, Nat.sub_zero, id_eq, Bool.or_false, Bool.or_true, Bool.true_or, Bool.false_or, Bool.and_true, Bool.true_and, Bool.and_false, Bool.false_and, Bool.and_self, Bool.or_self, sp]
  have tx1 := one_call (lawtext_ok fz (by omega)) S
  have gl := len_tx (l := z) (by omega) S
  have eq : bEq true (nR z.length) (nR o) S = .ok (.dat (.bool false)) S := by
    unfold nR
    rw [eq_ints, if_pos rfl, decide_eq_true (by omega)]
    rfl
  obtain ⟨v, ⟨v1, v2⟩, v3⟩ := edits_ok fx fz (by omega) (by omega)
  have v3 := two_call v3 S
  have v4 := v2 n g2
  have gt := gt_ii (v : Int) (n : Int) S
  rw [decide_eq_false (by omega)] at gt
  have gs : gList false [.dat (prI (q, a))] S = .ok (.dat (lkd false q a)) S := rfl
  have fl : Fit 1 (lkd false q a) := fit_lst fun d hd => by
    simp only [List.mem_cons, List.not_mem_nil, or_false] at hd
    rcases hd with rfl | rfl <;> exact fit_int 0 _
  have sm : bEq true (.dat (lkd false q a)) (.dat (lkd false q a)) S = .ok (.dat (.bool false)) S := beq_same fl
  have e3 : l3 [some (.ro (ns.map .int)), some (T2 z), x2, x3, some (nR n), some (T2 x), some (nR o), x7, some (.dat (prI (q, a))), some (.dat (lkd false q a))] S = .nx [some (.ro (ns.map .int)), some (T2 z), x2, x3, some (nR n), some (T2 x), some (nR o), x7, some (.dat (prI (q, a))), some (.dat (lkd false q a))] S := by
    unfold l3
    unfold nR T2 at *
    simp only [Pev.fnB, Pev.OutS.toF, Pev.sCons, Pev.sSet, Pev.sRet, Pev.sRetN, Pev.sIf, Pev.sSkip, Pev.sExpr, Pev.sTgt, Pev.sFor, Pev.sRaise, Pev.sPut, Pev.sAugS, Pev.sPar2, Pev.sPar3, Pev.OutS.fade, Pev.OutS.calm, Pev.Out.toS, Pev.Out.bind, Pev.noX, Pev.eVar, Pev.eC, Pev.eBin, Pev.eUn, Pev.eArgs, Pev.aCons, Pev.aNil, Pev.needN, Pev.eAnd, Pev.eOr, Pev.eNot, Pev.eIf, Pev.mAnd, Pev.mOr, Pev.mNot, Pev.mB, Pev.mT, Pev.eChain, Pev.truth, Pev.ofT, Pev.ofB, Pev.R.d?, Pev.eLc, Pev.iOf, Pev.iArgs, Pev.gN, Pev.gTp, Pev.gsCons, Pev.gsNil, Pev.tv, Pev.eBMl, Pev.eFld, Pev.tYes', Pev.wipeR, Pev.permL, List.map_cons, List.map_nil, List.length_cons, List.length_nil, List.cons_append, List.nil_append, List.append_nil, List.replicate, List.getElem?_cons_zero, List.getElem?_cons_succ, List.getElem?_nil, List.set_cons_zero, List.set_cons_succ, List.set_nil, List.filterMap_cons, List.filterMap_nil, Option.map_some, Option.map_none, Option.bind_some, Option.bind_none, if_true, if_false, Bool.not_true, Bool.not_false, Nat.reduceSub, Nat.reduceAdd, Nat.reduceEqDiff, Nat.reduceLeDiff, reduceIte, ite_true, ite_false, Bool.true_eq_false, Bool.false_eq_true, ↓reduceIte, Nat.zero_add, Nat.add_zero, Nat.sub_zero, id_eq, Bool.or_false, Bool.or_true, Bool.true_or, Bool.false_or, Bool.and_true, Bool.true_and, Bool.and_false, Bool.false_and, Bool.and_self, Bool.or_self, tx1, gl, eq, v3, gt, gs, sm]
  have f1 := three_call (lawfound_ok (n := n) fx fz lx (show z.length ≤ 20 by omega) hn) S
  have f2 := three_call (found_ok (n := n) fx fz lx (show z.length ≤ 20 by omega) hn) S
  rw [g3] at f1 f2
  have s1 : gLst false [.dat (prI (q, a))] S = .ok (.dat (.list [prI (q, a)])) S := rfl
  have s2 : gTup [.dat (prI (q, a))] S = .ok (.dat (.tuple [prI (q, a)])) S := rfl
  have b1 : bEq true (.dat (.list [prI (q, a)])) (.dat (.list [prI (q, a)])) S = .ok (.dat (.bool false)) S := beq_same (fit_prl [(q, a)])
  have b2 : bEq true (.dat (.tuple [prI (q, a)])) (.dat (.tuple [prI (q, a)])) S = .ok (.dat (.bool false)) S := beq_same (fit_prs prI (fun q => fit_pr _ _) [(q, a)])
  have e4 : l4 [some (.ro (ns.map .int)), some (T2 z), x2, x3, some (nR n), some (T2 x), some (nR o), x7, some (.dat (prI (q, a))), some (.dat (lkd false q a))] S = .nx [some (.ro (ns.map .int)), some (T2 z), x2, x3, some (nR n), some (T2 x), some (nR o), x7, some (.dat (prI (q, a))), some (.dat (lkd false q a))] S := by
    unfold l4
    unfold nR T2 at *
    simp only [Pev.fnB, Pev.OutS.toF, Pev.sCons, Pev.sSet, Pev.sRet, Pev.sRetN, Pev.sIf, Pev.sSkip, Pev.sExpr, Pev.sTgt, Pev.sFor, Pev.sRaise, Pev.sPut, Pev.sAugS, Pev.sPar2, Pev.sPar3, Pev.OutS.fade, Pev.OutS.calm, Pev.Out.toS, Pev.Out.bind, Pev.noX, Pev.eVar, Pev.eC, Pev.eBin, Pev.eUn, Pev.eArgs, Pev.aCons, Pev.aNil, Pev.needN, Pev.eAnd, Pev.eOr, Pev.eNot, Pev.eIf, Pev.mAnd, Pev.mOr, Pev.mNot, Pev.mB, Pev.mT, Pev.eChain, Pev.truth, Pev.ofT, Pev.ofB, Pev.R.d?, Pev.eLc, Pev.iOf, Pev.iArgs, Pev.gN, Pev.gTp, Pev.gsCons, Pev.gsNil, Pev.tv, Pev.eBMl, Pev.eFld, Pev.tYes', Pev.wipeR, Pev.permL, List.map_cons, List.map_nil, List.length_cons, List.length_nil, List.cons_append, List.nil_append, List.append_nil, List.replicate, List.getElem?_cons_zero, List.getElem?_cons_succ, List.getElem?_nil, List.set_cons_zero, List.set_cons_succ, List.set_nil, List.filterMap_cons, List.filterMap_nil, Option.map_some, Option.map_none, Option.bind_some, Option.bind_none, if_true, if_false, Bool.not_true, Bool.not_false, Nat.reduceSub, Nat.reduceAdd, Nat.reduceEqDiff, Nat.reduceLeDiff, reduceIte, ite_true, ite_false, Bool.true_eq_false, Bool.false_eq_true, ↓reduceIte, Nat.zero_add, Nat.add_zero, Nat.sub_zero, id_eq, Bool.or_false, Bool.or_true, Bool.true_or, Bool.false_or, Bool.and_true, Bool.true_and, Bool.and_false, Bool.false_and, Bool.and_self, Bool.or_self, f1, f2, s1, s2, b1, b2]
  have all := (congrFun (congrFun b_look_eq _) _).trans ((cons_nx e1).trans ((cons_nx e2).trans ((cons_nx e3).trans e4)))
  exact ⟨_, _, all⟩
theorem t6_ok (h : Tk k S) (hn : n ≤ 3) (lx : x.length ≤ 20) (ho : o ≤ 20) (fx : Fine x) (nd : x.Nodup) (h0 : 48 ∉ x) (h2 : 2 * (n + 1) ≤ x.length) : ∃ x1' x8' x9' S', Tk k S' ∧ t6 [some (.ro (ns.map .int)), x1, x2, some (.obj k), some (nR n), some (T2 x), some (nR o), some (.dat (.list ((lk x.length n o).map prI))), x8, x9] S = .nx [some (.ro (ns.map .int)), x1', x2, some (.obj k), some (nR n), some (T2 x), some (nR o), some (.dat (.list ((lk x.length n o).map prI))), x8', x9'] S' := by
  have ls := lk_small (x := x) (y := List.replicate o 0) (n := n) lx (by rw [List.length_replicate]; exact ho) hn
  rw [List.length_replicate] at ls
  obtain ⟨ys, S1, p1, p2, p3, p4⟩ := mixed_ok prI (lk x.length n o) (by omega) (arg := .list ((lk x.length n o).map prI)) (len_list prI _ (by omega)) (listU_l prI _) h
  have sl : gSl false (.obj (S.length + 1)) none (some 3) S1 = .ok (.dat (.list ((ys.take 3).map prI))) S1 := sl_obj p3 3
  have it := it_lk S1 (ys.take 3)
  obtain ⟨ρ', S', e, x1', x8', x9', rfl, rfl⟩ := for_nx (keep := []) (g := gN 8) (b := b_look) (fun _ ρ S' => ∃ x1' x8' x9', ρ = [some (.ro (ns.map .int)), x1', x2, some (.obj k), some (nR n), some (T2 x), some (nR o), some (.dat (.list ((lk x.length n o).map prI))), x8', x9'] ∧ S' = S1) ((ys.take 3).map fun q => R.dat (prI q)) (ρ := [some (.ro (ns.map .int)), x1, x2, some (.obj k), some (nR n), some (T2 x), some (nR o), some (.dat (.list ((lk x.length n o).map prI))), x8, x9]) (S := S1) ⟨_, _, _, rfl, rfl⟩ (fun _ _ _ _ _ => stands_nil) (by
    rintro i r ρ S2 hr ⟨x1', x8', x9', rfl, rfl⟩
    rw [List.getElem?_map] at hr
    obtain ⟨⟨q, a⟩, hu, rfl⟩ := Option.map_eq_some_iff.mp hr
    have hm : (q, a) ∈ lk x.length n o := p1.mem_iff.mp (List.mem_of_mem_take (List.mem_of_getElem? hu))
    obtain ⟨y1, y9, e⟩ := look_ok (ns := ns) (S := S2) (x1 := x1') (x2 := x2) (x3 := some (.obj k)) (x7 := some (.dat (.list ((lk x.length n o).map prI)))) (x9 := x9') hn lx ho fx nd h0 h2 hm
    exact ⟨_, rfl, _, _, e, _, _, _, rfl, rfl⟩)
  refine ⟨x1', x8', x9', S', p2, ?_⟩
  have ei : iOf (eSl false (eArgs (needN 2 m__law_mixed) (aCons (eVar 3) (aCons (eVar 7) aNil))) none (some (eC (.int 3)))) [some (.ro (ns.map .int)), x1, x2, some (.obj k), some (nR n), some (T2 x), some (nR o), some (.dat (.list ((lk x.length n o).map prI))), x8, x9] S = .ok ⟨(ys.take 3).map fun q => R.dat (prI q), []⟩ S' := by
    simp only [Pev.fnB, Pev.OutS.toF, Pev.sCons, Pev.sSet, Pev.sRet, Pev.sRetN, Pev.sIf, Pev.sSkip, Pev.sExpr, Pev.sTgt, Pev.sFor, Pev.sRaise, Pev.sPut, Pev.sAugS, Pev.sPar2, Pev.sPar3, Pev.OutS.fade, Pev.OutS.calm, Pev.Out.toS, Pev.Out.bind, Pev.noX, Pev.eVar, Pev.eC, Pev.eBin, Pev.eUn, Pev.eArgs, Pev.aCons, Pev.aNil, Pev.needN, Pev.eAnd, Pev.eOr, Pev.eNot, Pev.eIf, Pev.mAnd, Pev.mOr, Pev.mNot, Pev.mB, Pev.mT, Pev.eChain, Pev.truth, Pev.ofT, Pev.ofB, Pev.R.d?, Pev.eLc, Pev.iOf, Pev.iArgs, Pev.gN, Pev.gTp, Pev.gsCons, Pev.gsNil, Pev.tv, Pev.eBMl, Pev.eFld, Pev.tYes', Pev.wipeR, Pev.permL, List.map_cons, List.map_nil, List.length_cons, List.length_nil, List.cons_append, List.nil_append, List.append_nil, List.replicate, List.getElem?_cons_zero, List.getElem?_cons_succ, List.getElem?_nil, List.set_cons_zero, List.set_cons_succ, List.set_nil, List.filterMap_cons, List.filterMap_nil, Option.map_some, Option.map_none, Option.bind_some, Option.bind_none, if_true, if_false, Bool.not_true, Bool.not_false, Nat.reduceSub, Nat.reduceAdd, Nat.reduceEqDiff, Nat.reduceLeDiff, reduceIte, ite_true, ite_false, Bool.true_eq_false, Bool.false_eq_true, ↓reduceIte, Nat.zero_add, Nat.add_zero, Nat.sub_zero, id_eq, Bool.or_false, Bool.or_true, Bool.true_or, Bool.false_or, Bool.and_true, Bool.true_and, Bool.and_false, Bool.false_and, Bool.and_self, Bool.or_self, p4, eSl, oPart, toI_i, sl, it]
  show sFor _ (gN 8) b_look [some (.ro (ns.map .int)), x1, x2, some (.obj k), some (nR n), some (T2 x), some (nR o), some (.dat (.list ((lk x.length n o).map prI))), x8, x9] S = _
  unfold sFor
  rw [ei]
  exact e
theorem t7_ok (h : Tk k S) (hn : n ≤ 3) (lx : x.length ≤ 15) (ho : o ≤ 20) (fx : Fine x) (nd : x.Nodup) (h2 : 2 * (n + 1) ≤ x.length) (h3 : (o : Int) - x.length ≤ n) (h4 : (x.length : Int) - o ≤ n) : ∃ S', t7 [some (.ro (ns.map .int)), x1, x2, some (.obj k), some (nR n), some (T2 x), some (nR o), some (.dat (.list ((lk x.length n o).map prI))), x8, x9] S = .nx [some (.ro (ns.map .int)), x1, x2, some (.obj k), some (nR n), some (T2 x), some (nR o), some (.dat (.list ((lk x.length n o).map prI))), x8, x9] S' := by
  obtain ⟨⟨q, a⟩, hu, _⟩ := lk_some h2 h3 h4
  have ls := lk_small (x := x) (y := List.replicate o 0) (n := n) (by omega) (by rw [List.length_replicate]; exact ho) hn
  rw [List.length_replicate] at ls
  have ix : bIx (.dat (.list ((lk x.length n o).map prI))) (.dat (.int 0)) S = .ok (.dat (pr q a)) S := ix_list (f := prI) (i := 0) hu (by omega) S
  obtain ⟨S', _, e⟩ := errors_ok (q := q) (a := a) h fx lx hn ho h2 nd
  refine ⟨S', ?_⟩
  unfold t7
  unfold nR T2 at *
  simp only [Pev.fnB, Pev.OutS.toF, Pev.sCons, Pev.sSet, Pev.sRet, Pev.sRetN, Pev.sIf, Pev.sSkip, Pev.sExpr, Pev.sTgt, Pev.sFor, Pev.sRaise, Pev.sPut, Pev.sAugS, Pev.sPar2, Pev.sPar3, Pev.OutS.fade, Pev.OutS.calm, Pev.Out.toS, Pev.Out.bind, Pev.noX, Pev.eVar, Pev.eC, Pev.eBin, Pev.eUn, Pev.eArgs, Pev.aCons, Pev.aNil, Pev.needN, Pev.eAnd, Pev.eOr, Pev.eNot, Pev.eIf, Pev.mAnd, Pev.mOr, Pev.mNot, Pev.mB, Pev.mT, Pev.eChain, Pev.truth, Pev.ofT, Pev.ofB, Pev.R.d?, Pev.eLc, Pev.iOf, Pev.iArgs, Pev.gN, Pev.gTp, Pev.gsCons, Pev.gsNil, Pev.tv, Pev.eBMl, Pev.eFld, Pev.tYes', Pev.wipeR, Pev.permL, List.map_cons, List.map_nil, List.length_cons, List.length_nil, List.cons_append, List.nil_append, List.append_nil, List.replicate, List.getElem?_cons_zero, List.getElem?_cons_succ, List.getElem?_nil, List.set_cons_zero, List.set_cons_succ, List.set_nil, List.filterMap_cons, List.filterMap_nil, Option.map_some, Option.map_none, Option.bind_some, Option.bind_none, if_true, if_false, Bool.not_true, Bool.not_false, Nat.reduceSub, Nat.reduceAdd, Nat.reduceEqDiff, Nat.reduceLeDiff, reduceIte, ite_true, ite_false, Bool.true_eq_false, Bool.false_eq_true, ↓reduceIte, Nat.zero_add, Nat.add_zero, Nat.sub_zero, id_eq, Bool.or_false, Bool.or_true, Bool.true_or, Bool.false_or, Bool.and_true, Bool.true_and, Bool.and_false, Bool.false_and, Bool.and_self, Bool.or_self, ix, e]
abbrev rT (ns : List Int) (x1 x2 x3 x4 x5 x6 x7 x8 x9 : Option R) : Rho := [some (.ro (ns.map .int)), x1, x2, x3, x4, x5, x6, x7, x8, x9]
theorem turn_ok (hl : ns.length ≤ 63) {j : Nat} (hj : j < 100) : ∃ (y1 y3 y4 y5 y6 y7 y8 y9 : Option R) (S' : Sto), b_turn (rT ns x1 (some (nR j)) x3 x4 x5 x6 x7 x8 x9) S = .nx (rT ns y1 (some (nR j)) y3 y4 y5 y6 y7 y8 y9) S' := by
  obtain ⟨k, S1, k1, e1⟩ := t1_ok (ns := ns) (S := S) (x1 := x1) (x3 := x3) (x4 := x4) (x5 := x5) (x6 := x6) (x7 := x7) (x8 := x8) (x9 := x9) hj hl
  obtain ⟨n, S2, hn, k2, e2⟩ := t2_ok (ns := ns) (x1 := x1) (x2 := some (nR j)) (x4 := x4) (x5 := x5) (x6 := x6) (x7 := x7) (x8 := x8) (x9 := x9) k1
  obtain ⟨x, S3, fx, nd, h0, h2, lx, k3, e3⟩ := t3_ok (ns := ns) (x1 := x1) (x2 := some (nR j)) (x5 := x5) (x6 := x6) (x7 := x7) (x8 := x8) (x9 := x9) k2 hn
  obtain ⟨o, S4, ho, h3, h4, k4, e4⟩ := t4_ok (ns := ns) (x1 := x1) (x2 := some (nR j)) (x6 := x6) (x7 := x7) (x8 := x8) (x9 := x9) k3 hn h2 lx
  have e5 := t5_ok (ns := ns) (S := S4) (x := x) (o := o) (x1 := x1) (x2 := some (nR j)) (x3 := some (.obj k)) (x7 := x7) (x8 := x8) (x9 := x9) hn (by omega) (by omega)
  obtain ⟨y1, y8, y9, S6, k6, e6⟩ := t6_ok (ns := ns) (x := x) (o := o) (x1 := x1) (x2 := some (nR j)) (x8 := x8) (x9 := x9) k4 hn (by omega) (by omega) fx nd h0 h2
  obtain ⟨S7, e7⟩ := t7_ok (ns := ns) (x := x) (o := o) (x1 := y1) (x2 := some (nR j)) (x8 := y8) (x9 := y9) k6 hn (by omega) (by omega) fx nd h2 h3 h4
  have all := (congrFun (congrFun b_turn_eq _) _).trans ((cons_nx e1).trans ((cons_nx e2).trans ((cons_nx e3).trans ((cons_nx e4).trans ((cons_nx e5).trans ((cons_nx e6).trans e7))))))
  exact ⟨_, _, _, _, _, _, _, _, S7, all⟩
theorem c1_ok (x2 x3 x4 x5 x6 x7 x8 x9 : Option R) : c1 (rT ns none x2 x3 x4 x5 x6 x7 x8 x9) [] = .nx (rT ns (some (.dat (.str "ab"))) x2 x3 x4 x5 x6 x7 x8 x9) [] := by kernel_rfl
theorem c2_ok (x2 x3 x4 x5 x6 x7 x8 x9 : Option R) : c2 (rT ns (some (.dat (.str "ab"))) x2 x3 x4 x5 x6 x7 x8 x9) [] = .nx (rT ns (some (.dat (.str "ab"))) x2 x3 x4 x5 x6 x7 x8 x9) [] := by kernel_rfl
theorem c3_ok (hl : ns.length ≤ 63) : ∃ ρ S, c3 (rT ns (some (.dat (.str "ab"))) none none none none none none none none) [] = .nx ρ S := by
  obtain ⟨ρ', S', e, _⟩ := for_nx (keep := []) (g := gN 2) (b := b_turn) (fun i ρ S => ∃ x1 x2 x3 x4 x5 x6 x7 x8 x9, ρ = rT ns x1 x2 x3 x4 x5 x6 x7 x8 x9) ((List.range 2).map fun j : Nat => R.dat (.int (j : Nat))) (ρ := rT ns (some (.dat (.str "ab"))) none none none none none none none none) (S := []) ⟨_, _, _, _, _, _, _, _, _, rfl⟩ (fun _ _ _ _ _ => stands_nil) (by
    rintro i q ρ S hq ⟨x1, x2, x3, x4, x5, x6, x7, x8, x9, rfl⟩
    have hi := (List.getElem?_eq_some_iff.mp hq).1
    rw [List.length_map, List.length_range] at hi
    rw [List.getElem?_map, List.getElem?_range hi] at hq
    have := Option.some.inj hq
    subst this
    obtain ⟨y1, y3, y4, y5, y6, y7, y8, y9, S', e⟩ := turn_ok (S := S) (x1 := x1) (x3 := x3) (x4 := x4) (x5 := x5) (x6 := x6) (x7 := x7) (x8 := x8) (x9 := x9) hl (show i < 100 by omega)
    exact ⟨_, rfl, _, _, e, _, _, _, _, _, _, _, _, _, rfl⟩)
  exact ⟨ρ', S', e⟩
theorem law_true (ns : List Int) (hl : ns.length ≤ 63) : ∃ S, m_law [.ro (ns.map .int)] [] = .ok (.dat (.bool true)) S := by
  obtain ⟨ρ, S, e⟩ := c3_ok (ns := ns) hl
  refine ⟨S, ?_⟩
  show OutS.toF (b_law (rT ns none none none none none none none none none) []) = _
  rw [b_law_eq, cons_nx (c1_ok ..), cons_nx (c2_ok ..), cons_nx e]
  rfl
end
end Lw
namespace Lw
open PySem PySem.Spec PyProof.Rows L2 Pev
/-! ### what the top has written -/
abbrev eBl : List Bool := [true, true, true, true]
structure EnvC (P : Program) (w : World) (mg : Str → Option Value) (T : Tb) (base : Heap) where
  cu : T.cur = none
  z_abs : mg "abs" = none
  z_all : mg "all" = none
  z_bool : mg "bool" = none
  z_enumerate : mg "enumerate" = none
  z_int : mg "int" = none
  z_isinstance : mg "isinstance" = none
  z_len : mg "len" = none
  z_list : mg "list" = none
  z_max : mg "max" = none
  z_min : mg "min" = none
  z_range : mg "range" = none
  z_str : mg "str" = none
  z_tuple : mg "tuple" = none
  t_SIGNS : Tok
  c_SIGNS : mg "SIGNS" = some (.str "0123456789abcdefghijklmnopqrstuvwxyzABCDEFGHIJKLMNOPQRSTUVWXYZ" t_SIGNS)
  a_is_string : Addr
  fd_is_string : FuncData
  F_is_string : L2.Fun T.K "is_string" "is_string" s_is_string a_is_string fd_is_string
  g_is_string : mg "is_string" = some (.ref a_is_string)
  b_is_string : Binds T.K fd_is_string ["value"] []
  a_is_text : Addr
  fd_is_text : FuncData
  F_is_text : L2.Fun T.K "is_text" "is_text" s_is_text a_is_text fd_is_text
  g_is_text : mg "is_text" = some (.ref a_is_text)
  b_is_text : Binds T.K fd_is_text ["value"] []
  a_is_integer : Addr
  fd_is_integer : FuncData
  F_is_integer : L2.Fun T.K "is_integer" "is_integer" s_is_integer a_is_integer fd_is_integer
  g_is_integer : mg "is_integer" = some (.ref a_is_integer)
  b_is_integer : Binds T.K fd_is_integer ["value"] []
  a_need_many : Addr
  fd_need_many : FuncData
  F_need_many : FunD T.K "need_many" "need_many" (defArgs s_need_many) (defBody s_need_many) (defScope s_need_many) [.int 0] [] a_need_many fd_need_many
  g_need_many : mg "need_many" = some (.ref a_need_many)
  b_need_many : Binds T.K fd_need_many ["value", "word", "least"] []
  a_places_of : Addr
  fd_places_of : FuncData
  F_places_of : L2.Fun T.K "places_of" "places_of" s_places_of a_places_of fd_places_of
  g_places_of : mg "places_of" = some (.ref a_places_of)
  b_places_of : Binds T.K fd_places_of ["length", "near"] []
  a_looks_of : Addr
  fd_looks_of : FuncData
  F_looks_of : L2.Fun T.K "looks_of" "looks_of" s_looks_of a_looks_of fd_looks_of
  g_looks_of : mg "looks_of" = some (.ref a_looks_of)
  b_looks_of : Binds T.K fd_looks_of ["length", "near", "other"] []
  a_found_looks : Addr
  fd_found_looks : FuncData
  F_found_looks : L2.Fun T.K "found_looks" "found_looks" s_found_looks a_found_looks fd_found_looks
  g_found_looks : mg "found_looks" = some (.ref a_found_looks)
  b_found_looks : Binds T.K fd_found_looks ["one", "other", "near"] []
  a_is_number : Addr
  fd_is_number : FuncData
  F_is_number : L2.Fun T.K "is_number" "is_number" s_is_number a_is_number fd_is_number
  g_is_number : mg "is_number" = some (.ref a_is_number)
  b_is_number : Binds T.K fd_is_number ["value"] []
  a_is_sequence : Addr
  fd_is_sequence : FuncData
  F_is_sequence : L2.Fun T.K "is_sequence" "is_sequence" s_is_sequence a_is_sequence fd_is_sequence
  g_is_sequence : mg "is_sequence" = some (.ref a_is_sequence)
  b_is_sequence : Binds T.K fd_is_sequence ["value"] []
  a_is_pair : Addr
  fd_is_pair : FuncData
  F_is_pair : L2.Fun T.K "is_pair" "is_pair" s_is_pair a_is_pair fd_is_pair
  g_is_pair : mg "is_pair" = some (.ref a_is_pair)
  b_is_pair : Binds T.K fd_is_pair ["value"] []
  a_are_unlike : Addr
  fd_are_unlike : FuncData
  F_are_unlike : L2.Fun T.K "are_unlike" "are_unlike" s_are_unlike a_are_unlike fd_are_unlike
  g_are_unlike : mg "are_unlike" = some (.ref a_are_unlike)
  b_are_unlike : Binds T.K fd_are_unlike ["values"] []
  a_spoilt_piece : Addr
  fd_spoilt_piece : FuncData
  F_spoilt_piece : L2.Fun T.K "spoilt_piece" "spoilt_piece" s_spoilt_piece a_spoilt_piece fd_spoilt_piece
  g_spoilt_piece : mg "spoilt_piece" = some (.ref a_spoilt_piece)
  b_spoilt_piece : Binds T.K fd_spoilt_piece ["piece", "longer", "sign"] []
  a_spoilt_text : Addr
  fd_spoilt_text : FuncData
  F_spoilt_text : L2.Fun T.K "spoilt_text" "spoilt_text" s_spoilt_text a_spoilt_text fd_spoilt_text
  g_spoilt_text : mg "spoilt_text" = some (.ref a_spoilt_text)
  b_spoilt_text : Binds T.K fd_spoilt_text ["text", "near", "look", "other"] []
  a__law_box : Addr
  fd__law_box : FuncData
  F__law_box : L2.Fun T.K "_law_box" "_law_box" s__law_box a__law_box fd__law_box
  g__law_box : mg "_law_box" = some (.ref a__law_box)
  b__law_box : Binds T.K fd__law_box ["script", "k"] []
  a__law_take : Addr
  fd__law_take : FuncData
  F__law_take : L2.Fun T.K "_law_take" "_law_take" s__law_take a__law_take fd__law_take
  g__law_take : mg "_law_take" = some (.ref a__law_take)
  b__law_take : Binds T.K fd__law_take ["box", "many"] []
  a__law_mixed : Addr
  fd__law_mixed : FuncData
  F__law_mixed : L2.Fun T.K "_law_mixed" "_law_mixed" s__law_mixed a__law_mixed fd__law_mixed
  g__law_mixed : mg "_law_mixed" = some (.ref a__law_mixed)
  b__law_mixed : Binds T.K fd__law_mixed ["box", "some"] []
  a__law_edits : Addr
  fd__law_edits : FuncData
  F__law_edits : L2.Fun T.K "_law_edits" "_law_edits" s__law_edits a__law_edits fd__law_edits
  g__law_edits : mg "_law_edits" = some (.ref a__law_edits)
  b__law_edits : Binds T.K fd__law_edits ["one", "other"] []
  a__law_looks : Addr
  fd__law_looks : FuncData
  F__law_looks : L2.Fun T.K "_law_looks" "_law_looks" s__law_looks a__law_looks fd__law_looks
  g__law_looks : mg "_law_looks" = some (.ref a__law_looks)
  b__law_looks : Binds T.K fd__law_looks ["length", "near", "other"] []
  a__law_found : Addr
  fd__law_found : FuncData
  F__law_found : L2.Fun T.K "_law_found" "_law_found" s__law_found a__law_found fd__law_found
  g__law_found : mg "_law_found" = some (.ref a__law_found)
  b__law_found : Binds T.K fd__law_found ["one", "other", "near"] []
  a__law_is_text : Addr
  fd__law_is_text : FuncData
  F__law_is_text : L2.Fun T.K "_law_is_text" "_law_is_text" s__law_is_text a__law_is_text fd__law_is_text
  g__law_is_text : mg "_law_is_text" = some (.ref a__law_is_text)
  b__law_is_text : Binds T.K fd__law_is_text ["value"] []
  a__law_pick : Addr
  fd__law_pick : FuncData
  F__law_pick : L2.Fun T.K "_law_pick" "_law_pick" s__law_pick a__law_pick fd__law_pick
  g__law_pick : mg "_law_pick" = some (.ref a__law_pick)
  b__law_pick : Binds T.K fd__law_pick ["box", "some"] []
  a__law_refused : Addr
  fd__law_refused : FuncData
  F__law_refused : L2.Fun T.K "_law_refused" "_law_refused" s__law_refused a__law_refused fd__law_refused
  g__law_refused : mg "_law_refused" = some (.ref a__law_refused)
  b__law_refused : Binds T.K fd__law_refused ["work"] []
  a__law_errors : Addr
  fd__law_errors : FuncData
  F__law_errors : L2.Fun T.K "_law_errors" "_law_errors" s__law_errors a__law_errors fd__law_errors
  g__law_errors : mg "_law_errors" = some (.ref a__law_errors)
  b__law_errors : Binds T.K fd__law_errors ["box", "text", "near", "look", "other"] []
  a_law : Addr
  fd_law : FuncData
  F_law : L2.Fun T.K "law" "law" s_law a_law fd_law
  g_law : mg "law" = some (.ref a_law)
  b_law : Binds T.K fd_law ["script"] []
  le__law_errors : Addr
  lP__law_errors : Addr
  lc__law_errors : fd__law_errors.code = .ref le__law_errors
  lB__law_errors : LamX.TabB base mg le__law_errors lP__law_errors
  lm__law_errors : (lP__law_errors, (("_law_errors" : Str) ++ ".<locals>.") ++ "<lambda>") ∈ T.tabs
  lo__law_errors : ∀ t ∈ T.tabs, t.1 = lP__law_errors → t.2 = (("_law_errors" : Str) ++ ".<locals>.") ++ "<lambda>"
  us_need_many_1 : List Value
  bd_need_many_1 : Binds T.K fd_need_many ["value", "word", "least"] us_need_many_1
  dv_need_many_1 : Vals [.int 0] us_need_many_1
  bk_spoilt_text_1032 : BindsK T.K fd_spoilt_text ["text", "near", "look", "other"] ["near", "text", "other", "look"] [1, 0, 3, 2]
  eB : Addr
  ie : Nat → Addr
  er : ErrsN T.K P mg T.cls eB ie T.fld 0 eBl
  fl : T.fld = fun k => (["at", "at", "at", "word"] : List Str).getD k ""
  ge : GlobsN mg T.cls 0 (["InvalidText", "InvalidIndex", "Refused", "InvalidSize"] : List Str)
  nd : ∀ i j, i < eBl.length → j < eBl.length → T.cls i = T.cls j → i = j
  nB : ∀ i, i < eBl.length → T.cls i ≠ eB
structure Env (P : Program) (w : World) (mg : Str → Option Value) (T : Tb) (base : Heap) extends EnvC P w mg T base where
  ln : T.lams = []
  lx : ∀ (β : List Addr) (α : List (Option Addr)) (H : Hp), T.ctx β α H
def EnvC.toL {P : Program} {w : World} {mg : Str → Option Value} {T : Tb}{base : Heap}  (G : EnvC P w mg T base) (ls : List LamI) (σ : L2.St) (ρ : Rho) : EnvC P w mg ((T.lam ls).er σ ρ) base := {
  cu := G.cu,
  z_abs := G.z_abs,
  z_all := G.z_all,
  z_bool := G.z_bool,
  z_enumerate := G.z_enumerate,
  z_int := G.z_int,
  z_isinstance := G.z_isinstance,
  z_len := G.z_len,
  z_list := G.z_list,
  z_max := G.z_max,
  z_min := G.z_min,
  z_range := G.z_range,
  z_str := G.z_str,
  z_tuple := G.z_tuple,
  t_SIGNS := G.t_SIGNS,
  c_SIGNS := G.c_SIGNS,
  a_is_string := G.a_is_string,
  fd_is_string := G.fd_is_string,
  F_is_string := G.F_is_string,
  g_is_string := G.g_is_string,
  b_is_string := G.b_is_string,
  a_is_text := G.a_is_text,
  fd_is_text := G.fd_is_text,
  F_is_text := G.F_is_text,
  g_is_text := G.g_is_text,
  b_is_text := G.b_is_text,
  a_is_integer := G.a_is_integer,
  fd_is_integer := G.fd_is_integer,
  F_is_integer := G.F_is_integer,
  g_is_integer := G.g_is_integer,
  b_is_integer := G.b_is_integer,
  a_need_many := G.a_need_many,
  fd_need_many := G.fd_need_many,
  F_need_many := G.F_need_many,
  g_need_many := G.g_need_many,
  b_need_many := G.b_need_many,
  a_places_of := G.a_places_of,
  fd_places_of := G.fd_places_of,
  F_places_of := G.F_places_of,
  g_places_of := G.g_places_of,
  b_places_of := G.b_places_of,
  a_looks_of := G.a_looks_of,
  fd_looks_of := G.fd_looks_of,
  F_looks_of := G.F_looks_of,
  g_looks_of := G.g_looks_of,
  b_looks_of := G.b_looks_of,
  a_found_looks := G.a_found_looks,
  fd_found_looks := G.fd_found_looks,
  F_found_looks := G.F_found_looks,
  g_found_looks := G.g_found_looks,
  b_found_looks := G.b_found_looks,
  a_is_number := G.a_is_number,
  fd_is_number := G.fd_is_number,
  F_is_number := G.F_is_number,
  g_is_number := G.g_is_number,
  b_is_number := G.b_is_number,
  a_is_sequence := G.a_is_sequence,
  fd_is_sequence := G.fd_is_sequence,
  F_is_sequence := G.F_is_sequence,
  g_is_sequence := G.g_is_sequence,
  b_is_sequence := G.b_is_sequence,
  a_is_pair := G.a_is_pair,
  fd_is_pair := G.fd_is_pair,
  F_is_pair := G.F_is_pair,
  g_is_pair := G.g_is_pair,
  b_is_pair := G.b_is_pair,
  a_are_unlike := G.a_are_unlike,
  fd_are_unlike := G.fd_are_unlike,
  F_are_unlike := G.F_are_unlike,
  g_are_unlike := G.g_are_unlike,
  b_are_unlike := G.b_are_unlike,
  a_spoilt_piece := G.a_spoilt_piece,
  fd_spoilt_piece := G.fd_spoilt_piece,
  F_spoilt_piece := G.F_spoilt_piece,
  g_spoilt_piece := G.g_spoilt_piece,
  b_spoilt_piece := G.b_spoilt_piece,
  a_spoilt_text := G.a_spoilt_text,
  fd_spoilt_text := G.fd_spoilt_text,
  F_spoilt_text := G.F_spoilt_text,
  g_spoilt_text := G.g_spoilt_text,
  b_spoilt_text := G.b_spoilt_text,
  a__law_box := G.a__law_box,
  fd__law_box := G.fd__law_box,
  F__law_box := G.F__law_box,
  g__law_box := G.g__law_box,
  b__law_box := G.b__law_box,
  a__law_take := G.a__law_take,
  fd__law_take := G.fd__law_take,
  F__law_take := G.F__law_take,
  g__law_take := G.g__law_take,
  b__law_take := G.b__law_take,
  a__law_mixed := G.a__law_mixed,
  fd__law_mixed := G.fd__law_mixed,
  F__law_mixed := G.F__law_mixed,
  g__law_mixed := G.g__law_mixed,
  b__law_mixed := G.b__law_mixed,
  a__law_edits := G.a__law_edits,
  fd__law_edits := G.fd__law_edits,
  F__law_edits := G.F__law_edits,
  g__law_edits := G.g__law_edits,
  b__law_edits := G.b__law_edits,
  a__law_looks := G.a__law_looks,
  fd__law_looks := G.fd__law_looks,
  F__law_looks := G.F__law_looks,
  g__law_looks := G.g__law_looks,
  b__law_looks := G.b__law_looks,
  a__law_found := G.a__law_found,
  fd__law_found := G.fd__law_found,
  F__law_found := G.F__law_found,
  g__law_found := G.g__law_found,
  b__law_found := G.b__law_found,
  a__law_is_text := G.a__law_is_text,
  fd__law_is_text := G.fd__law_is_text,
  F__law_is_text := G.F__law_is_text,
  g__law_is_text := G.g__law_is_text,
  b__law_is_text := G.b__law_is_text,
  a__law_pick := G.a__law_pick,
  fd__law_pick := G.fd__law_pick,
  F__law_pick := G.F__law_pick,
  g__law_pick := G.g__law_pick,
  b__law_pick := G.b__law_pick,
  a__law_refused := G.a__law_refused,
  fd__law_refused := G.fd__law_refused,
  F__law_refused := G.F__law_refused,
  g__law_refused := G.g__law_refused,
  b__law_refused := G.b__law_refused,
  a__law_errors := G.a__law_errors,
  fd__law_errors := G.fd__law_errors,
  F__law_errors := G.F__law_errors,
  g__law_errors := G.g__law_errors,
  b__law_errors := G.b__law_errors,
  a_law := G.a_law,
  fd_law := G.fd_law,
  F_law := G.F_law,
  g_law := G.g_law,
  b_law := G.b_law,
  le__law_errors := G.le__law_errors,
  lP__law_errors := G.lP__law_errors,
  lc__law_errors := G.lc__law_errors,
  lB__law_errors := G.lB__law_errors,
  lm__law_errors := G.lm__law_errors,
  lo__law_errors := G.lo__law_errors,
  us_need_many_1 := G.us_need_many_1,
  bd_need_many_1 := G.bd_need_many_1,
  dv_need_many_1 := G.dv_need_many_1,
  bk_spoilt_text_1032 := G.bk_spoilt_text_1032,
  eB := G.eB,
  ie := G.ie,
  er := G.er,
  fl := G.fl,
  ge := G.ge,
  nd := G.nd,
  nB := G.nB }
section
variable {P : Program} {w : World} {T : Tb} {mg : Str → Option Value} {base : Heap}
theorem ok_is_string (G : Env P w mg T base) : FnG P w T.K mg base 2 G.a_is_string G.fd_is_string ["value"] (spF T 1 m_is_string) :=
  fn_ok (k := 1) (b := b_is_string) G.F_is_string sc_is_string rfl rfl fun cdv A outer s H E hr => (ts_one (ts_ret (tr_is1 .str rfl rfl G.z_isinstance (tr_var 0) (pe_bltn rfl G.z_str PyProof.Rows.boot_str rfl))))
theorem ok_is_text (G : Env P w mg T base) : FnG P w T.K mg base 3 G.a_is_text G.fd_is_text ["value"] (spF T 1 m_is_text) :=
  fn_ok (k := 2) (b := b_is_text) G.F_is_text sc_is_text rfl rfl fun cdv A outer s H E hr => (ts_one (ts_ret (tr_and rfl (tr_call via_pure (ok_is_string G) (hr.mono (by decide)) rfl G.g_is_string G.F_is_string.kp G.b_is_string (takes_of rfl rfl rfl rfl) (tr_cons (tr_var 0) tr_nil)) (tr_one (tr_callB (cr_all rfl) snd_all rfl G.z_all boot_all (tr_cons (tr_lc false [("sign", 1)] rfl sc_is_text.nd (ti_of rfl (tr_var 0)) (blk_mk (by kernel_rfl)) (fun _ _ _ _ _ => (tg_name 1 sc_is_text.nd rfl (by first | exact Or.inl rfl | exact Or.inr rfl))) (fun _ _ _ _ _ => tts_nil) (fun _ _ _ _ _ => (tr_chain op_leU op_leU sndc_le snd_le tr_str (tr_var 1) tr_str))) tr_nil))))))
theorem ok_is_integer (G : Env P w mg T base) : FnG P w T.K mg base 2 G.a_is_integer G.fd_is_integer ["value"] (spF T 1 m_is_integer) :=
  fn_ok (k := 1) (b := b_is_integer) G.F_is_integer sc_is_integer rfl rfl fun cdv A outer s H E hr => (ts_one (ts_ret (tr_and rfl (tr_is1 .int rfl rfl G.z_isinstance (tr_var 0) (pe_bltn rfl G.z_int PyProof.Rows.boot_int rfl)) (tr_one (tr_not rfl (tr_is1 .bl rfl rfl G.z_isinstance (tr_var 0) (pe_bltn rfl G.z_bool PyProof.Rows.boot_bool rfl)))))))
theorem ok_need_many (G : Env P w mg T base) : FnG P w T.K mg base 3 G.a_need_many G.fd_need_many ["value", "word", "least"] (spF T 3 m_need_many) :=
  fn_okD (k := 2) (b := b_need_many) G.F_need_many sc_need_many rfl rfl fun cdv A outer s H E hr => (ts_cons (ts_if (PW.pt (tt_or (tt_not (tt_tru rfl (tr_call via_pure (ok_is_integer G) (hr.mono (by decide)) rfl G.g_is_integer G.F_is_integer.kp G.b_is_integer (takes_of rfl rfl rfl rfl) (tr_cons (tr_var 0) tr_nil)))) (tt_or1 (tt_cmpR op_ltU snd_lt (tr_var 0) (tr_var 2) (by rfl))))) (ts_one (ts_raise 3 rfl (errs_1 G.er 3) hr (takes_of rfl rfl rfl rfl) rfl (globs_0 G.ge 3) (tr_var 1))) ts_nil)
    (ts_one (ts_ret (tr_var 0))))
theorem ok_places_of (G : Env P w mg T base) : FnG P w T.K mg base 2 G.a_places_of G.fd_places_of ["length", "near"] (spF T 2 m_places_of) :=
  fn_ok (k := 1) (b := b_places_of) G.F_places_of sc_places_of rfl rfl fun cdv A outer s H E hr => (ts_cons (ts_set 2 sc_places_of.nd rfl (by first | exact Or.inl rfl | exact Or.inr rfl) (tr_op op_addU (snd_add false) (tr_var 1) tr_int))
    (ts_one (ts_ret (tr_lc false [("at", 3)] rfl sc_places_of.nd (ti_range1 rfl G.z_range (tr_cons (tr_var 2) tr_nil)) (blk_mk (by kernel_rfl)) (fun _ _ _ _ _ => (tg_name 3 sc_places_of.nd rfl (by first | exact Or.inl rfl | exact Or.inr rfl))) (fun _ _ _ _ _ => tts_nil) (fun _ _ _ _ _ => (tr_tup (tr_cons (tr_op op_fdivN snd_div (tr_op op_mulU (snd_mul false) (tr_var 0) (tr_var 3)) (tr_var 2)) (tr_cons (tr_op op_fdivN snd_div (tr_op op_mulU (snd_mul false) (tr_var 0) (tr_op op_addU (snd_add false) (tr_var 3) tr_int)) (tr_var 2)) tr_nil))))))))
theorem ok_looks_of (G : Env P w mg T base) : FnG P w T.K mg base 3 G.a_looks_of G.fd_looks_of ["length", "near", "other"] (spF T 3 m_looks_of) :=
  fn_ok (k := 2) (b := b_looks_of) G.F_looks_of sc_looks_of rfl rfl fun cdv A outer s H E hr => (ts_cons (ts_par2 3 4 rfl sc_looks_of.nd rfl rfl (by decide) rfl rfl (tr_cons (tr_op op_sub snd_sub (tr_var 2) (tr_var 0)) (tr_cons (tr_lst true tr_nil) tr_nil)) (by rfl))
    (ts_cons (ts_for (vs := [5, 6, 7]) (passes_of rfl) rfl (ti_enumU rfl rfl G.z_enumerate (tr_cons (tr_call via_pure (ok_places_of G) (hr.mono (by decide)) rfl G.g_places_of G.F_places_of.kp G.b_places_of (takes_of rfl rfl rfl rfl) (tr_cons (tr_var 0) (tr_cons (tr_var 1) tr_nil))) tr_nil)) (tg_tup 2 rfl rfl (tgs_cons (tg_name 5 sc_looks_of.nd rfl (by first | exact Or.inl rfl | exact Or.inr rfl)) (tgs_cons (tg_tup 2 rfl rfl (tgs_cons (tg_name 6 sc_looks_of.nd rfl (by first | exact Or.inl rfl | exact Or.inr rfl)) (tgs_cons (tg_name 7 sc_looks_of.nd rfl (by first | exact Or.inl rfl | exact Or.inr rfl)) tgs_nil))) tgs_nil))) (ts_one (ts_for (vs := [8]) (passes_of rfl) rfl (ti_range2 rfl G.z_range (tr_cons (tr_callB (call_max2 rfl) snd_max2 rfl G.z_max boot_max (tr_cons (tr_op op_sub snd_sub tr_int (tr_var 5)) (tr_cons (tr_op op_addU (snd_add false) (tr_op op_sub snd_sub (tr_var 3) (tr_var 1)) (tr_var 5)) tr_nil))) (tr_cons (tr_op op_addU (snd_add false) (tr_callB (call_min2 rfl) snd_min2 rfl G.z_min boot_min (tr_cons (tr_var 5) (tr_cons (tr_op op_sub snd_sub (tr_op op_addU (snd_add false) (tr_var 3) (tr_var 1)) (tr_var 5)) tr_nil))) tr_int) tr_nil))) (tg_name 8 sc_looks_of.nd rfl (by first | exact Or.inl rfl | exact Or.inr rfl)) (ts_one (ts_if (PW.pt (tt_and (tt_cmpR op_geU snd_ge (tr_op op_addU (snd_add false) (tr_var 6) (tr_var 8)) tr_int (by rfl)) (tt_and1 (tt_cmpR op_leU snd_le (tr_op op_addU (snd_add false) (tr_var 7) (tr_var 8)) (tr_var 2) (by rfl))))) (ts_one (ts_expr (tr_bml rfl PySem.F.slot_list_append PySem.F.type_list_append mt_append snd_append (tr_var 4) (tr_cons (tr_tup (tr_cons (tr_var 5) (tr_cons (tr_op op_addU (snd_add false) (tr_var 6) (tr_var 8)) tr_nil))) tr_nil)))) ts_nil)))))
    (ts_one (ts_ret (tr_var 4)))))
theorem ok_found_looks (G : Env P w mg T base) : FnG P w T.K mg base 4 G.a_found_looks G.fd_found_looks ["one", "other", "near"] (spF T 3 m_found_looks) :=
  fn_ok (k := 3) (b := b_found_looks) G.F_found_looks sc_found_looks rfl rfl fun cdv A outer s H E hr => (ts_cons (ts_for (vs := [3, 4]) (passes_of rfl) rfl (ti_enumU rfl rfl G.z_enumerate (tr_cons (tr_tup (tr_cons (tr_var 0) (tr_cons (tr_var 1) tr_nil))) tr_nil)) (tg_tup 2 rfl rfl (tgs_cons (tg_name 3 sc_found_looks.nd rfl (by first | exact Or.inl rfl | exact Or.inr rfl)) (tgs_cons (tg_name 4 sc_found_looks.nd rfl (by first | exact Or.inl rfl | exact Or.inr rfl)) tgs_nil))) (ts_one (ts_if (tt_not (tt_tru rfl (tr_call via_pure (ok_is_text G) (hr.mono (by decide)) rfl G.g_is_text G.F_is_text.kp G.b_is_text (takes_of rfl rfl rfl rfl) (tr_cons (tr_var 4) tr_nil)))) (ts_one (ts_raise 0 rfl (errs_1 G.er 0) hr (takes_of rfl rfl rfl rfl) rfl (globs_0 G.ge 0) (tr_var 3))) ts_nil)))
    (ts_cons (ts_par2 5 6 rfl sc_found_looks.nd rfl rfl (by decide) rfl rfl (tr_cons (tr_call via_pure (ok_places_of G) (hr.mono (by decide)) rfl G.g_places_of G.F_places_of.kp G.b_places_of (takes_of rfl rfl rfl rfl) (tr_cons (tr_callB call_len snd_len rfl G.z_len boot_len (tr_cons (tr_var 0) tr_nil)) (tr_cons (tr_callD (dd := [.int 0]) via_pure (ok_need_many G) (hr.mono (by decide)) rfl G.g_need_many G.F_need_many.kp G.bd_need_many_1 G.dv_need_many_1 (fun _ => (.cons (.int _) .nil)) (takes_of rfl rfl rfl rfl) (tr_cons (tr_var 2) (tr_cons tr_str tr_nil))) tr_nil))) (tr_cons (tr_lst true tr_nil) tr_nil)) (by rfl))
    (ts_cons (ts_for (vs := [7, 8]) (passes_of rfl) rfl (ti_of rfl (tr_call via_pure (ok_looks_of G) (hr.mono (by decide)) rfl G.g_looks_of G.F_looks_of.kp G.b_looks_of (takes_of rfl rfl rfl rfl) (tr_cons (tr_callB call_len snd_len rfl G.z_len boot_len (tr_cons (tr_var 0) tr_nil)) (tr_cons (tr_var 2) (tr_cons (tr_callB call_len snd_len rfl G.z_len boot_len (tr_cons (tr_var 1) tr_nil)) tr_nil))))) (tg_tup 2 rfl rfl (tgs_cons (tg_name 7 sc_found_looks.nd rfl (by first | exact Or.inl rfl | exact Or.inr rfl)) (tgs_cons (tg_name 8 sc_found_looks.nd rfl (by first | exact Or.inl rfl | exact Or.inr rfl)) tgs_nil))) (ts_cons (ts_tgt (vs := [9, 10]) (tr_ix rfl (tr_var 5) (tr_var 7)) (tg_tup 2 rfl rfl (tgs_cons (tg_name 9 sc_found_looks.nd rfl (by first | exact Or.inl rfl | exact Or.inr rfl)) (tgs_cons (tg_name 10 sc_found_looks.nd rfl (by first | exact Or.inl rfl | exact Or.inr rfl)) tgs_nil))))
    (ts_one (ts_if (tt_cmpR (op_eqD (hu1 hr)) snd_eq (tr_sl11 false rfl (tr_var 1) (tr_var 8) (tr_op op_sub snd_sub (tr_op op_addU (snd_add false) (tr_var 8) (tr_var 10)) (tr_var 9))) (tr_sl11 false rfl (tr_var 0) (tr_var 9) (tr_var 10)) (by rfl)) (ts_one (ts_expr (tr_bml rfl PySem.F.slot_list_append PySem.F.type_list_append mt_append snd_append (tr_var 6) (tr_cons (tr_tup (tr_cons (tr_var 7) (tr_cons (tr_var 8) tr_nil))) tr_nil)))) ts_nil))))
    (ts_one (ts_ret (tr_callTy call_tuple_of snd_tuple rfl G.z_tuple PyProof.Rows.boot_tuple (tr_cons (tr_var 6) tr_nil)))))))
theorem ok_is_number (G : Env P w mg T base) : FnG P w T.K mg base 3 G.a_is_number G.fd_is_number ["value"] (spF T 1 m_is_number) :=
  fn_ok (k := 2) (b := b_is_number) G.F_is_number sc_is_number rfl rfl fun cdv A outer s H E hr => (ts_one (ts_ret (tr_and rfl (tr_call via_pure (ok_is_integer G) (hr.mono (by decide)) rfl G.g_is_integer G.F_is_integer.kp G.b_is_integer (takes_of rfl rfl rfl rfl) (tr_cons (tr_var 0) tr_nil)) (tr_one (tr_cmpR op_geU snd_ge (tr_var 0) tr_int (by rfl))))))
theorem ok_is_sequence (G : Env P w mg T base) : FnG P w T.K mg base 2 G.a_is_sequence G.fd_is_sequence ["value"] (spF T 1 m_is_sequence) :=
  fn_ok (k := 1) (b := b_is_sequence) G.F_is_sequence sc_is_sequence rfl rfl fun cdv A outer s H E hr => (ts_one (ts_ret (tr_isT [.lst, .tup] rfl rfl G.z_isinstance (tr_var 0) (ty_args (pe_bltn rfl G.z_list PyProof.Rows.boot_list rfl) (ty_args1 (pe_bltn rfl G.z_tuple PyProof.Rows.boot_tuple rfl))))))
theorem ok_is_pair (G : Env P w mg T base) : FnG P w T.K mg base 3 G.a_is_pair G.fd_is_pair ["value"] (spF T 1 m_is_pair) :=
  fn_ok (k := 2) (b := b_is_pair) G.F_is_pair sc_is_pair rfl rfl fun cdv A outer s H E hr => (ts_one (ts_ret (tr_and rfl (tr_call via_pure (ok_is_sequence G) (hr.mono (by decide)) rfl G.g_is_sequence G.F_is_sequence.kp G.b_is_sequence (takes_of rfl rfl rfl rfl) (tr_cons (tr_var 0) tr_nil)) (tr_one (tr_cmpR (op_eqD (hu1 hr)) snd_eq (tr_callB call_len snd_len rfl G.z_len boot_len (tr_cons (tr_var 0) tr_nil)) tr_int (by rfl))))))
theorem ok_are_unlike (G : Env P w mg T base) : FnG P w T.K mg base 2 G.a_are_unlike G.fd_are_unlike ["values"] (spF T 1 m_are_unlike) :=
  fn_ok (k := 1) (b := b_are_unlike) G.F_are_unlike sc_are_unlike rfl rfl fun cdv A outer s H E hr => (ts_one (ts_ret (tr_callB (cr_all rfl) snd_all rfl G.z_all boot_all (tr_cons (tr_lc false [("at", 1), ("value", 2)] rfl sc_are_unlike.nd (ti_enumU rfl rfl G.z_enumerate (tr_cons (tr_var 0) tr_nil)) (blk_mk (by kernel_rfl)) (fun _ _ _ _ _ => (tg_tup 2 rfl rfl (tgs_cons (tg_name 1 sc_are_unlike.nd rfl (by first | exact Or.inl rfl | exact Or.inr rfl)) (tgs_cons (tg_name 2 sc_are_unlike.nd rfl (by first | exact Or.inl rfl | exact Or.inr rfl)) tgs_nil)))) (fun _ _ _ _ _ => tts_nil) (fun _ _ _ _ _ => (tr_cmpR (op_notInU (hu65 hr)) snd_notIn (tr_var 2) (tr_sl01 false rfl (tr_var 0) (tr_var 1)) (by rfl)))) tr_nil))))
theorem ok_spoilt_piece (G : Env P w mg T base) : FnG P w T.K mg base 2 G.a_spoilt_piece G.fd_spoilt_piece ["piece", "longer", "sign"] (spF T 3 m_spoilt_piece) :=
  fn_ok (k := 1) (b := b_spoilt_piece) G.F_spoilt_piece sc_spoilt_piece rfl rfl fun cdv A outer s H E hr => (ts_cons (ts_if (tt_cmpR op_gtU snd_gt (tr_var 1) tr_int (by rfl)) (ts_one (ts_ret (tr_tup (tr_cons (tr_op op_addU (snd_add false) (tr_op op_addU (snd_add false) (tr_sl01 false rfl (tr_var 0) tr_int) (tr_var 2)) (tr_sl10 false rfl (tr_var 0) tr_int)) (tr_cons (tr_op op_sub snd_sub (tr_var 1) tr_int) tr_nil))))) ts_nil)
    (ts_cons (ts_if (tt_cmpR op_ltU snd_lt (tr_var 1) tr_int (by rfl)) (ts_one (ts_ret (tr_tup (tr_cons (tr_sl10 false rfl (tr_var 0) tr_int) (tr_cons (tr_op op_addU (snd_add false) (tr_var 1) tr_int) tr_nil))))) ts_nil)
    (ts_one (ts_ret (tr_tup (tr_cons (tr_op op_addU (snd_add false) (tr_var 2) (tr_sl10 false rfl (tr_var 0) tr_int)) (tr_cons tr_int tr_nil)))))))
theorem ok_spoilt_text (G : Env P w mg T base) : FnG P w T.K mg base 4 G.a_spoilt_text G.fd_spoilt_text ["text", "near", "look", "other"] (spF T 4 m_spoilt_text) :=
  fn_ok (k := 3) (b := b_spoilt_text) G.F_spoilt_text sc_spoilt_text rfl rfl fun cdv A outer s H E hr => (ts_cons (ts_if (tt_not (tt_tru rfl (tr_call via_pure (ok_is_text G) (hr.mono (by decide)) rfl G.g_is_text G.F_is_text.kp G.b_is_text (takes_of rfl rfl rfl rfl) (tr_cons (tr_var 0) tr_nil)))) (ts_one (ts_raise 0 rfl (errs_1 G.er 0) hr (takes_of rfl rfl rfl rfl) rfl (globs_0 G.ge 0) (tr_un un_neg snd_neg tr_int))) ts_nil)
    (ts_cons (ts_expr (tr_callD (dd := [.int 0]) via_pure (ok_need_many G) (hr.mono (by decide)) rfl G.g_need_many G.F_need_many.kp G.bd_need_many_1 G.dv_need_many_1 (fun _ => (.cons (.int _) .nil)) (takes_of rfl rfl rfl rfl) (tr_cons (tr_var 1) (tr_cons tr_str tr_nil))))
    (ts_cons (ts_expr (tr_callD (dd := [.int 0]) via_pure (ok_need_many G) (hr.mono (by decide)) rfl G.g_need_many G.F_need_many.kp G.bd_need_many_1 G.dv_need_many_1 (fun _ => (.cons (.int _) .nil)) (takes_of rfl rfl rfl rfl) (tr_cons (tr_var 3) (tr_cons tr_str tr_nil))))
    (ts_cons (ts_if (PW.pt (tt_or (tt_cmpR op_ltU snd_lt (tr_callB call_len snd_len rfl G.z_len boot_len (tr_cons (tr_var 0) tr_nil)) (tr_op op_mulU (snd_mul false) tr_int (tr_op op_addU (snd_add false) (tr_var 1) tr_int)) (by rfl)) (tt_or1 (tt_not (tt_tru rfl (tr_call via_pure (ok_are_unlike G) (hr.mono (by decide)) rfl G.g_are_unlike G.F_are_unlike.kp G.b_are_unlike (takes_of rfl rfl rfl rfl) (tr_cons (tr_lc false [("sign", 5)] rfl sc_spoilt_text.nd (ti_of rfl (tr_var 0)) (blk_mk (by kernel_rfl)) (fun _ _ _ _ _ => (tg_name 5 sc_spoilt_text.nd rfl (by first | exact Or.inl rfl | exact Or.inr rfl))) (fun _ _ _ _ _ => tts_nil) (fun _ _ _ _ _ => (tr_var 5))) tr_nil))))))) (ts_one (ts_raise 2 rfl (errs_1 G.er 2) hr (takes_of rfl rfl rfl rfl) rfl (globs_0 G.ge 2) (tr_un un_neg snd_neg tr_int))) ts_nil)
    (ts_cons (ts_if (PW.pt (tt_or (tt_not (tt_tru rfl (tr_call via_pure (ok_is_pair G) (hr.mono (by decide)) rfl G.g_is_pair G.F_is_pair.kp G.b_is_pair (takes_of rfl rfl rfl rfl) (tr_cons (tr_var 2) tr_nil)))) (tt_or1 (tt_not (tt_tru rfl (tr_callB (cr_all rfl) snd_all rfl G.z_all boot_all (tr_cons (tr_lc false [("one", 13)] rfl sc_spoilt_text.nd (ti_of rfl (tr_var 2)) (blk_mk (by kernel_rfl)) (fun _ _ _ _ _ => (tg_name 13 sc_spoilt_text.nd rfl (by first | exact Or.inl rfl | exact Or.inr rfl))) (fun _ _ _ _ _ => tts_nil) (fun _ _ _ _ _ => (tr_call via_pure (ok_is_number G) (hr.mono (by decide)) rfl G.g_is_number G.F_is_number.kp G.b_is_number takes0 (tr_cons (tr_var 13) tr_nil)))) tr_nil))))))) (ts_one (ts_raise 1 rfl (errs_1 G.er 1) hr (takes_of rfl rfl rfl rfl) rfl (globs_0 G.ge 1) (tr_un un_neg snd_neg tr_int))) ts_nil)
    (ts_cons (ts_if (tt_cmpR (op_notInU (hu65 hr)) snd_notIn (tr_callTy call_tuple_of snd_tuple rfl G.z_tuple PyProof.Rows.boot_tuple (tr_cons (tr_var 2) tr_nil)) (tr_call via_pure (ok_looks_of G) (hr.mono (by decide)) rfl G.g_looks_of G.F_looks_of.kp G.b_looks_of (takes_of rfl rfl rfl rfl) (tr_cons (tr_callB call_len snd_len rfl G.z_len boot_len (tr_cons (tr_var 0) tr_nil)) (tr_cons (tr_var 1) (tr_cons (tr_var 3) tr_nil)))) (by rfl)) (ts_one (ts_raise 1 rfl (errs_1 G.er 1) hr (takes_of rfl rfl rfl rfl) rfl (globs_0 G.ge 1) (tr_un un_neg snd_neg tr_int))) ts_nil)
    (ts_cons (ts_par2 4 5 rfl sc_spoilt_text.nd rfl rfl (by decide) rfl rfl (tr_cons (tr_call via_pure (ok_places_of G) (hr.mono (by decide)) rfl G.g_places_of G.F_places_of.kp G.b_places_of (takes_of rfl rfl rfl rfl) (tr_cons (tr_callB call_len snd_len rfl G.z_len boot_len (tr_cons (tr_var 0) tr_nil)) (tr_cons (tr_var 1) tr_nil))) (tr_cons (tr_ix rfl (tr_lc false [("sign", 5)] rfl sc_spoilt_text.nd (ti_of rfl (tr_glob (v := .str "0123456789abcdefghijklmnopqrstuvwxyzABCDEFGHIJKLMNOPQRSTUVWXYZ") rfl G.c_SIGNS ⟨_, rfl⟩ (fun _ => .str _))) (blk_mk (by kernel_rfl)) (fun _ _ _ _ _ => (tg_name 5 sc_spoilt_text.nd rfl (by first | exact Or.inl rfl | exact Or.inr rfl))) (fun _ _ _ _ _ => (tts_one (tt_cmpR (op_notInU (hu65 hr)) snd_notIn (tr_var 5) (tr_var 0) (by rfl)))) (fun _ _ _ _ _ => (tr_var 5))) tr_int) tr_nil)) (by rfl))
    (ts_cons (ts_par2 6 7 rfl sc_spoilt_text.nd rfl rfl (by decide) rfl rfl (tr_cons (tr_op op_sub snd_sub (tr_ix rfl (tr_var 2) tr_int) (tr_ix rfl (tr_ix rfl (tr_var 4) (tr_ix rfl (tr_var 2) tr_int)) tr_int)) (tr_cons tr_str tr_nil)) (by rfl))
    (ts_cons (ts_set 8 sc_spoilt_text.nd rfl (by first | exact Or.inl rfl | exact Or.inr rfl) (tr_op op_sub snd_sub (tr_op op_sub snd_sub (tr_var 3) (tr_callB call_len snd_len rfl G.z_len boot_len (tr_cons (tr_var 0) tr_nil))) (tr_var 6)))
    (ts_cons (ts_for (vs := [9, 10, 11]) (passes_of rfl) rfl (ti_enumU rfl rfl G.z_enumerate (tr_cons (tr_var 4) tr_nil)) (tg_tup 2 rfl rfl (tgs_cons (tg_name 9 sc_spoilt_text.nd rfl (by first | exact Or.inl rfl | exact Or.inr rfl)) (tgs_cons (tg_tup 2 rfl rfl (tgs_cons (tg_name 10 sc_spoilt_text.nd rfl (by first | exact Or.inl rfl | exact Or.inr rfl)) (tgs_cons (tg_name 11 sc_spoilt_text.nd rfl (by first | exact Or.inl rfl | exact Or.inr rfl)) tgs_nil))) tgs_nil))) (ts_cons (ts_set 12 sc_spoilt_text.nd rfl (by first | exact Or.inl rfl | exact Or.inr rfl) (tr_sl11 false rfl (tr_var 0) (tr_var 10) (tr_var 11)))
    (ts_cons (ts_if (tt_cmpR op_ltU snd_lt (tr_var 9) (tr_ix rfl (tr_var 2) tr_int) (by rfl)) (ts_one (ts_tgt (vs := [12, 6]) (tr_call via_pure (ok_spoilt_piece G) (hr.mono (by decide)) rfl G.g_spoilt_piece G.F_spoilt_piece.kp G.b_spoilt_piece (takes_of rfl rfl rfl rfl) (tr_cons (tr_var 12) (tr_cons (tr_var 6) (tr_cons (tr_var 5) tr_nil)))) (tg_tup 2 rfl rfl (tgs_cons (tg_name 12 sc_spoilt_text.nd rfl (by first | exact Or.inl rfl | exact Or.inr rfl)) (tgs_cons (tg_name 6 sc_spoilt_text.nd rfl (by first | exact Or.inl rfl | exact Or.inr rfl)) tgs_nil))))) (ts_one (ts_if (tt_cmpR op_gtU snd_gt (tr_var 9) (tr_ix rfl (tr_var 2) tr_int) (by rfl)) (ts_one (ts_tgt (vs := [12, 8]) (tr_call via_pure (ok_spoilt_piece G) (hr.mono (by decide)) rfl G.g_spoilt_piece G.F_spoilt_piece.kp G.b_spoilt_piece (takes_of rfl rfl rfl rfl) (tr_cons (tr_var 12) (tr_cons (tr_var 8) (tr_cons (tr_var 5) tr_nil)))) (tg_tup 2 rfl rfl (tgs_cons (tg_name 12 sc_spoilt_text.nd rfl (by first | exact Or.inl rfl | exact Or.inr rfl)) (tgs_cons (tg_name 8 sc_spoilt_text.nd rfl (by first | exact Or.inl rfl | exact Or.inr rfl)) tgs_nil))))) ts_nil)))
    (ts_one (ts_set 7 sc_spoilt_text.nd rfl (by first | exact Or.inl rfl | exact Or.inr rfl) (tr_op op_addU (snd_add false) (tr_var 7) (tr_var 12)))))))
    (ts_one (ts_ret (tr_var 7)))))))))))))
theorem ok__law_box (G : Env P w mg T base) : FnG P w T.K mg base 2 G.a__law_box G.fd__law_box ["script", "k"] (spF T 2 m__law_box) :=
  fn_ok (k := 1) (b := b__law_box) G.F__law_box sc__law_box rfl rfl fun cdv A outer s H E hr => (ts_cons (ts_set 2 sc__law_box.nd rfl (by first | exact Or.inl rfl | exact Or.inr rfl) (tr_op op_addU (snd_add false) (tr_op op_mulU (snd_mul false) tr_int (tr_var 1)) tr_int))
    (ts_cons (ts_if (tt_cmpR op_ltU snd_lt (tr_var 1) (tr_callB call_len snd_len rfl G.z_len boot_len (tr_cons (tr_var 0) tr_nil)) (by rfl)) (ts_one (ts_set 2 sc__law_box.nd rfl (by first | exact Or.inl rfl | exact Or.inr rfl) (tr_callB call_abs snd_abs rfl G.z_abs boot_abs (tr_cons (tr_ix rfl (tr_var 0) (tr_var 1)) tr_nil)))) (ts_one (ts_if (tt_cmpR op_gtU snd_gt (tr_callB call_len snd_len rfl G.z_len boot_len (tr_cons (tr_var 0) tr_nil)) tr_int (by rfl)) (ts_one (ts_set 2 sc__law_box.nd rfl (by first | exact Or.inl rfl | exact Or.inr rfl) (tr_op op_addU (snd_add false) (tr_var 2) (tr_op op_mulU (snd_mul false) (tr_op op_modN snd_mod (tr_callTy call_int1 snd_int rfl G.z_int PyProof.Rows.boot_int (tr_cons (tr_callB call_abs snd_abs rfl G.z_abs boot_abs (tr_cons (tr_ix rfl (tr_var 0) (tr_op op_modN snd_mod (tr_callTy call_int1 snd_int rfl G.z_int PyProof.Rows.boot_int (tr_cons (tr_var 1) tr_nil)) (tr_callB call_len snd_len rfl G.z_len boot_len (tr_cons (tr_var 0) tr_nil)))) tr_nil)) tr_nil)) tr_int) tr_int)))) ts_nil)))
    (ts_one (ts_ret (tr_lst true (tr_cons (tr_ix rfl (tr_lst false (tr_cons tr_int (tr_cons (tr_var 2) tr_nil))) (tr_callTy call_int1 snd_int rfl G.z_int PyProof.Rows.boot_int (tr_cons (tr_cmpR op_geU snd_ge (tr_var 2) (tr_op op_pow snd_pow tr_int tr_int) (by rfl)) tr_nil))) (tr_cons (tr_op op_addU (snd_add false) (tr_op op_modN snd_mod (tr_callTy call_int1 snd_int rfl G.z_int PyProof.Rows.boot_int (tr_cons (tr_op op_addU (snd_add false) (tr_op op_mulU (snd_mul false) (tr_op op_modN snd_mod (tr_callTy call_int1 snd_int rfl G.z_int PyProof.Rows.boot_int (tr_cons (tr_var 2) tr_nil)) tr_int) tr_int) (tr_op op_mulU (snd_mul false) tr_int (tr_var 1))) tr_nil)) tr_int) tr_int) (tr_cons tr_int tr_nil))))))))
theorem ok__law_take (G : Env P w mg T base) : FnG P w T.K mg base 2 G.a__law_take G.fd__law_take ["box", "many"] (spF T 2 m__law_take) :=
  fn_ok (k := 1) (b := b__law_take) G.F__law_take sc__law_take rfl rfl fun cdv A outer s H E hr => (ts_cons (ts_if (tt_cmpR op_gtU snd_gt (tr_ix rfl (tr_var 0) tr_int) tr_int (by rfl)) (ts_cons (ts_set 2 sc__law_take.nd rfl (by first | exact Or.inl rfl | exact Or.inr rfl) (tr_op op_modN snd_mod (tr_callTy call_int1 snd_int rfl G.z_int PyProof.Rows.boot_int (tr_cons (tr_ix rfl (tr_var 0) tr_int) tr_nil)) (tr_var 1)))
    (ts_cons (ts_put (tr_op op_fdivN snd_div (tr_ix rfl (tr_var 0) tr_int) (tr_var 1)) (tr_var 0) tr_int)
    (ts_one (ts_ret (tr_var 2))))) ts_nil)
    (ts_cons (ts_put (tr_op op_addU (snd_add false) (tr_ix rfl (tr_var 0) tr_int) tr_int) (tr_var 0) tr_int)
    (ts_cons (ts_set 3 sc__law_take.nd rfl (by first | exact Or.inl rfl | exact Or.inr rfl) (tr_op op_modN snd_mod (tr_callTy call_int1 snd_int rfl G.z_int PyProof.Rows.boot_int (tr_cons (tr_op op_addU (snd_add false) (tr_op op_mulU (snd_mul false) (tr_op op_addU (snd_add false) (tr_ix rfl (tr_var 0) tr_int) (tr_op op_mulU (snd_mul false) tr_int (tr_ix rfl (tr_var 0) tr_int))) tr_int) tr_int) tr_nil)) tr_int))
    (ts_cons (ts_put (tr_op op_addU (snd_add false) (tr_op op_modN snd_mod (tr_callTy call_int1 snd_int rfl G.z_int PyProof.Rows.boot_int (tr_cons (tr_op op_addU (snd_add false) (tr_op op_mulU (snd_mul false) (tr_var 3) tr_int) tr_int) tr_nil)) tr_int) tr_int) (tr_var 0) tr_int)
    (ts_one (ts_ret (tr_op op_modN snd_mod (tr_callTy call_int1 snd_int rfl G.z_int PyProof.Rows.boot_int (tr_cons (tr_op op_fdivN snd_div (tr_op op_addU (snd_add false) (tr_op op_mulU (snd_mul false) (tr_var 3) tr_int) (tr_ix rfl (tr_var 0) tr_int)) tr_int) tr_nil)) (tr_var 1))))))))
theorem ok__law_mixed (G : Env P w mg T base) : FnG P w T.K mg base 3 G.a__law_mixed G.fd__law_mixed ["box", "some"] (spF T 2 m__law_mixed) :=
  fn_ok (k := 2) (b := b__law_mixed) G.F__law_mixed sc__law_mixed rfl rfl fun cdv A outer s H E hr => (ts_cons (ts_par2 2 3 rfl sc__law_mixed.nd rfl rfl (by decide) rfl rfl (tr_cons (tr_callTy (call_list_U rfl) (snd_listU true) rfl G.z_list PyProof.Rows.boot_list (tr_cons (tr_var 1) tr_nil)) (tr_cons (tr_lst true tr_nil) tr_nil)) (by rfl))
    (ts_cons (ts_for (vs := [4]) (passes_of rfl) rfl (ti_range1 rfl G.z_range (tr_cons (tr_callB call_len snd_len rfl G.z_len boot_len (tr_cons (tr_var 1) tr_nil)) tr_nil)) (tg_name 4 sc__law_mixed.nd rfl (by first | exact Or.inl rfl | exact Or.inr rfl)) (ts_one (ts_expr (tr_bml rfl PySem.F.slot_list_append PySem.F.type_list_append mt_append snd_append (tr_var 3) (tr_cons (tr_bml rfl PySem.F.slot_list_pop PySem.F.type_list_pop mt_popAt snd_popI (tr_var 2) (tr_cons (tr_call via_ref (ok__law_take G) (hr.mono (by decide)) rfl G.g__law_take G.F__law_take.kp G.b__law_take (takes_of rfl rfl rfl rfl) (tr_cons (tr_var 0) (tr_cons (tr_callB call_len snd_len rfl G.z_len boot_len (tr_cons (tr_var 2) tr_nil)) tr_nil))) tr_nil)) tr_nil)))))
    (ts_one (ts_ret (tr_var 3)))))
theorem ok__law_edits (G : Env P w mg T base) : FnG P w T.K mg base 2 G.a__law_edits G.fd__law_edits ["one", "other"] (spF T 2 m__law_edits) :=
  fn_ok (k := 1) (b := b__law_edits) G.F__law_edits sc__law_edits rfl rfl fun cdv A outer s H E hr => (ts_cons (ts_set 2 sc__law_edits.nd rfl (by first | exact Or.inl rfl | exact Or.inr rfl) (tr_lr1 false rfl rfl G.z_list rfl G.z_range (tr_op op_addU (snd_add false) (tr_callB call_len snd_len rfl G.z_len boot_len (tr_cons (tr_var 1) tr_nil)) tr_int)))
    (ts_cons (ts_for (vs := [3, 4]) (passes_of rfl) rfl (ti_enumU rfl rfl G.z_enumerate (tr_cons (tr_var 0) tr_nil)) (tg_tup 2 rfl rfl (tgs_cons (tg_name 3 sc__law_edits.nd rfl (by first | exact Or.inl rfl | exact Or.inr rfl)) (tgs_cons (tg_name 4 sc__law_edits.nd rfl (by first | exact Or.inl rfl | exact Or.inr rfl)) tgs_nil))) (ts_cons (ts_set 5 sc__law_edits.nd rfl (by first | exact Or.inl rfl | exact Or.inr rfl) (tr_lst true (tr_cons (tr_op op_addU (snd_add false) (tr_var 3) tr_int) tr_nil)))
    (ts_cons (ts_for (vs := [6, 7]) (passes_of rfl) rfl (ti_enumU rfl rfl G.z_enumerate (tr_cons (tr_var 1) tr_nil)) (tg_tup 2 rfl rfl (tgs_cons (tg_name 6 sc__law_edits.nd rfl (by first | exact Or.inl rfl | exact Or.inr rfl)) (tgs_cons (tg_name 7 sc__law_edits.nd rfl (by first | exact Or.inl rfl | exact Or.inr rfl)) tgs_nil))) (ts_one (ts_expr (tr_bml rfl PySem.F.slot_list_append PySem.F.type_list_append mt_append snd_append (tr_var 5) (tr_cons (tr_callB (call_min3Nu rfl) snd_min3 rfl G.z_min boot_min (tr_cons (tr_op op_addU (snd_add false) (tr_ix rfl (tr_var 5) (tr_var 6)) tr_int) (tr_cons (tr_op op_addU (snd_add false) (tr_ix rfl (tr_var 2) (tr_op op_addU (snd_add false) (tr_var 6) tr_int)) tr_int) (tr_cons (tr_op op_addU (snd_add false) (tr_ix rfl (tr_var 2) (tr_var 6)) (tr_callTy call_int1 snd_int rfl G.z_int PyProof.Rows.boot_int (tr_cons (tr_cmpR (op_neD (hu1 hr)) snd_ne (tr_var 4) (tr_var 7) (by rfl)) tr_nil))) tr_nil)))) tr_nil)))))
    (ts_one (ts_set 2 sc__law_edits.nd rfl (by first | exact Or.inl rfl | exact Or.inr rfl) (tr_var 5))))))
    (ts_one (ts_ret (tr_ix rfl (tr_var 2) (tr_un un_neg snd_neg tr_int))))))
theorem ok__law_looks (G : Env P w mg T base) : FnG P w T.K mg base 2 G.a__law_looks G.fd__law_looks ["length", "near", "other"] (spF T 3 m__law_looks) :=
  fn_ok (k := 1) (b := b__law_looks) G.F__law_looks sc__law_looks rfl rfl fun cdv A outer s H E hr => (ts_cons (ts_set 3 sc__law_looks.nd rfl (by first | exact Or.inl rfl | exact Or.inr rfl) (tr_lst true tr_nil))
    (ts_cons (ts_for (vs := [4]) (passes_of rfl) rfl (ti_range1 rfl G.z_range (tr_cons (tr_op op_addU (snd_add false) (tr_var 1) tr_int) tr_nil)) (tg_name 4 sc__law_looks.nd rfl (by first | exact Or.inl rfl | exact Or.inr rfl)) (ts_cons (ts_par2 5 6 rfl sc__law_looks.nd rfl rfl (by decide) rfl rfl (tr_cons (tr_op op_fdivN snd_div (tr_op op_mulU (snd_mul false) (tr_var 0) (tr_var 4)) (tr_op op_addU (snd_add false) (tr_var 1) tr_int)) (tr_cons (tr_op op_fdivN snd_div (tr_op op_mulU (snd_mul false) (tr_var 0) (tr_op op_addU (snd_add false) (tr_var 4) tr_int)) (tr_op op_addU (snd_add false) (tr_var 1) tr_int)) tr_nil)) (by rfl))
    (ts_one (ts_for (vs := [7]) (passes_of rfl) rfl (ti_range1 rfl G.z_range (tr_cons (tr_op op_addU (snd_add false) (tr_var 2) tr_int) tr_nil)) (tg_name 7 sc__law_looks.nd rfl (by first | exact Or.inl rfl | exact Or.inr rfl)) (ts_cons (ts_set 8 sc__law_looks.nd rfl (by first | exact Or.inl rfl | exact Or.inr rfl) (tr_op op_sub snd_sub (tr_var 7) (tr_var 5)))
    (ts_one (ts_if (PW.pt (tt_and (tt_cmpR op_leU snd_le (tr_callB call_abs snd_abs rfl G.z_abs boot_abs (tr_cons (tr_var 8) tr_nil)) (tr_var 4) (by rfl)) (tt_and (tt_cmpR op_leU snd_le (tr_callB call_abs snd_abs rfl G.z_abs boot_abs (tr_cons (tr_op op_sub snd_sub (tr_op op_sub snd_sub (tr_var 2) (tr_var 0)) (tr_var 8)) tr_nil)) (tr_op op_sub snd_sub (tr_var 1) (tr_var 4)) (by rfl)) (tt_and1 (tt_cmpR op_leU snd_le (tr_op op_sub snd_sub (tr_op op_addU (snd_add false) (tr_var 7) (tr_var 6)) (tr_var 5)) (tr_var 2) (by rfl)))))) (ts_one (ts_expr (tr_bml rfl PySem.F.slot_list_append PySem.F.type_list_append mt_append snd_append (tr_var 3) (tr_cons (tr_tup (tr_cons (tr_var 4) (tr_cons (tr_var 7) tr_nil))) tr_nil)))) ts_nil)))))))
    (ts_one (ts_ret (tr_var 3)))))
theorem ok__law_found (G : Env P w mg T base) : FnG P w T.K mg base 3 G.a__law_found G.fd__law_found ["one", "other", "near"] (spF T 3 m__law_found) :=
  fn_ok (k := 2) (b := b__law_found) G.F__law_found sc__law_found rfl rfl fun cdv A outer s H E hr => (ts_cons (ts_set 3 sc__law_found.nd rfl (by first | exact Or.inl rfl | exact Or.inr rfl) (tr_lst true tr_nil))
    (ts_cons (ts_for (vs := [4, 5]) (passes_of rfl) rfl (ti_of rfl (tr_call via_pure (ok__law_looks G) (hr.mono (by decide)) rfl G.g__law_looks G.F__law_looks.kp G.b__law_looks (takes_of rfl rfl rfl rfl) (tr_cons (tr_callB call_len snd_len rfl G.z_len boot_len (tr_cons (tr_var 0) tr_nil)) (tr_cons (tr_var 2) (tr_cons (tr_callB call_len snd_len rfl G.z_len boot_len (tr_cons (tr_var 1) tr_nil)) tr_nil))))) (tg_tup 2 rfl rfl (tgs_cons (tg_name 4 sc__law_found.nd rfl (by first | exact Or.inl rfl | exact Or.inr rfl)) (tgs_cons (tg_name 5 sc__law_found.nd rfl (by first | exact Or.inl rfl | exact Or.inr rfl)) tgs_nil))) (ts_cons (ts_set 6 sc__law_found.nd rfl (by first | exact Or.inl rfl | exact Or.inr rfl) (tr_sl11 false rfl (tr_var 0) (tr_op op_fdivN snd_div (tr_op op_mulU (snd_mul false) (tr_callB call_len snd_len rfl G.z_len boot_len (tr_cons (tr_var 0) tr_nil)) (tr_var 4)) (tr_op op_addU (snd_add false) (tr_var 2) tr_int)) (tr_op op_fdivN snd_div (tr_op op_mulU (snd_mul false) (tr_callB call_len snd_len rfl G.z_len boot_len (tr_cons (tr_var 0) tr_nil)) (tr_op op_addU (snd_add false) (tr_var 4) tr_int)) (tr_op op_addU (snd_add false) (tr_var 2) tr_int))))
    (ts_one (ts_if (tt_cmpR (op_eqD (hu1 hr)) snd_eq (tr_sl11 false rfl (tr_var 1) (tr_var 5) (tr_op op_addU (snd_add false) (tr_var 5) (tr_callB call_len snd_len rfl G.z_len boot_len (tr_cons (tr_var 6) tr_nil)))) (tr_var 6) (by rfl)) (ts_one (ts_expr (tr_bml rfl PySem.F.slot_list_append PySem.F.type_list_append mt_append snd_append (tr_var 3) (tr_cons (tr_tup (tr_cons (tr_var 4) (tr_cons (tr_var 5) tr_nil))) tr_nil)))) ts_nil))))
    (ts_one (ts_ret (tr_var 3)))))
theorem ok__law_is_text (G : Env P w mg T base) : FnG P w T.K mg base 2 G.a__law_is_text G.fd__law_is_text ["value"] (spF T 1 m__law_is_text) :=
  fn_ok (k := 1) (b := b__law_is_text) G.F__law_is_text sc__law_is_text rfl rfl fun cdv A outer s H E hr => (ts_one (ts_ret (tr_and rfl (tr_is1 .str rfl rfl G.z_isinstance (tr_var 0) (pe_bltn rfl G.z_str PyProof.Rows.boot_str rfl)) (tr_one (tr_cmpR (op_eqD (hu1 hr)) snd_eq (tr_lc false [("sign", 1)] rfl sc__law_is_text.nd (ti_of rfl (tr_var 0)) (blk_mk (by kernel_rfl)) (fun _ _ _ _ _ => (tg_name 1 sc__law_is_text.nd rfl (by first | exact Or.inl rfl | exact Or.inr rfl))) (fun _ _ _ _ _ => (tts_one (tt_not (tt_chain op_leU op_leU sndc_le snd_le tr_str (tr_var 1) tr_str)))) (fun _ _ _ _ _ => (tr_var 1))) (tr_lst false tr_nil) (by rfl))))))
theorem ok__law_pick (G : Env P w mg T base) : FnG P w T.K mg base 3 G.a__law_pick G.fd__law_pick ["box", "some"] (spF T 2 m__law_pick) :=
  fn_ok (k := 2) (b := b__law_pick) G.F__law_pick sc__law_pick rfl rfl fun cdv A outer s H E hr => (ts_one (ts_ret (tr_ix rfl (tr_var 1) (tr_call via_ref (ok__law_take G) (hr.mono (by decide)) rfl G.g__law_take G.F__law_take.kp G.b__law_take (takes_of rfl rfl rfl rfl) (tr_cons (tr_var 0) (tr_cons (tr_callB call_len snd_len rfl G.z_len boot_len (tr_cons (tr_var 1) tr_nil)) tr_nil))))))
theorem ok__law_refused (G : EnvC P w mg T base) (hl : Nat → Sto → Out R) {k : Nat} (cdv : Value) (A : Around) (outer : List PySem.Env) (s : Shared) (H : Hp) (E : XK) (hr : RoomG k (A.deeper (envOfC "_law_refused" (defScope s__law_refused) s.heap.objs.size G.a__law_refused cdv)))
    (hole : ∀ (pn : List (Addr × Obj)) (xe : Value → Shared → Prop) (W' : WX), Takes ((cxOf (L2.CX P w) P w T.K mg base ["work", "e"] "_law_refused" (defScope s__law_refused) G.a__law_refused cdv A outer s H E).tr pn xe) W' → ∀ p1 p2 : Pos, PE ((cxOf (L2.CX P w) P w T.K mg base ["work", "e"] "_law_refused" (defScope s__law_refused) G.a__law_refused cdv A outer s H E).tr pn xe) (.Call (.Name "work" p1) [] [] p2) (tE T W' (eWork 0 hl))) :
    PSs (cxOf (L2.CX P w) P w T.K mg base ["work", "e"] "_law_refused" (defScope s__law_refused) G.a__law_refused cdv A outer s H E) (defBody s__law_refused) (tS T (fun cls d _ H' => E cls d H') (b__law_refused hl)) := (ts_cons (ts_try G.cu rfl rfl (takes_of rfl rfl rfl rfl) (fun W pn xe tk hp => (ts_one (ts_expr (hole _ _ _ tk _ _)))) (.named 1 sc__law_refused.nd rfl rfl ⟨rfl, by decide, Or.inl (globs_0 G.ge 0)⟩ (hits_row G.er G.nd G.nB 0 [true, false, false, false] (by decide) (by rfl)) (fun a oe cls d pn hz hf => (ts_one (ts_ret (tr_tup (tr_cons tr_str (tr_cons (tr_fld [0] 1 hz hf (by intro k hk; simp only [List.mem_cons, List.not_mem_nil, or_false] at hk; subst hk; exact fld_at G.er G.fl 0 "at")) tr_nil)))))) (.named 1 sc__law_refused.nd rfl rfl ⟨rfl, by decide, Or.inl (globs_0 G.ge 3)⟩ (hits_row G.er G.nd G.nB 3 [false, false, false, true] (by decide) (by rfl)) (fun a oe cls d pn hz hf => (ts_one (ts_ret (tr_tup (tr_cons tr_str (tr_cons (tr_fld [3] 1 hz hf (by intro k hk; simp only [List.mem_cons, List.not_mem_nil, or_false] at hk; subst hk; exact fld_at G.er G.fl 3 "word")) tr_nil)))))) (.named 1 sc__law_refused.nd rfl rfl ⟨rfl, by decide, Or.inl (globs_0 G.ge 1)⟩ (hits_row G.er G.nd G.nB 1 [false, true, false, false] (by decide) (by rfl)) (fun a oe cls d pn hz hf => (ts_one (ts_ret (tr_tup (tr_cons tr_str (tr_cons (tr_fld [1] 1 hz hf (by intro k hk; simp only [List.mem_cons, List.not_mem_nil, or_false] at hk; subst hk; exact fld_at G.er G.fl 1 "at")) tr_nil)))))) (.named 1 sc__law_refused.nd rfl rfl ⟨rfl, by decide, Or.inl (globs_0 G.ge 2)⟩ (hits_row G.er G.nd G.nB 2 [false, false, true, false] (by decide) (by rfl)) (fun a oe cls d pn hz hf => (ts_one (ts_ret (tr_tup (tr_cons tr_str (tr_cons (tr_fld [2] 1 hz hf (by intro k hk; simp only [List.mem_cons, List.not_mem_nil, or_false] at hk; subst hk; exact fld_at G.er G.fl 2 "at")) tr_nil)))))) .nil)))))
    (ts_one (ts_ret tr_non)))
theorem ok__law_errors (G : Env P w mg T base) : FnG P w T.K mg base 8 G.a__law_errors G.fd__law_errors ["box", "text", "near", "look", "other"] (spF T 5 m__law_errors) :=
  fn_okC (k := 7) (b := b__law_errors) G.F__law_errors sc__law_errors rfl rfl fun cdv hc A outer s H E hr => (ts_cons (ts_set 5 sc__law_errors.nd rfl (by first | exact Or.inl rfl | exact Or.inr rfl) (tr_call via_ref (ok__law_pick G) (hr.mono (by decide)) rfl G.g__law_pick G.F__law_pick.kp G.b__law_pick (takes_of rfl rfl rfl rfl) (tr_cons (tr_var 0) (tr_cons (tr_lst false (tr_cons tr_non (tr_cons tr_bl (tr_cons (tr_op op_sub snd_sub tr_int tr_int) (tr_cons tr_str tr_nil))))) tr_nil))))
    (ts_cons (ts_set 6 sc__law_errors.nd rfl (by first | exact Or.inl rfl | exact Or.inr rfl) (tr_call via_ref (ok__law_pick G) (hr.mono (by decide)) rfl G.g__law_pick G.F__law_pick.kp G.b__law_pick (takes_of rfl rfl rfl rfl) (tr_cons (tr_var 0) (tr_cons (tr_lst false (tr_cons tr_non (tr_cons tr_int (tr_cons (tr_tup (tr_cons tr_str tr_nil)) (tr_cons tr_str tr_nil))))) tr_nil))))
    (ts_cons (ts_set 7 sc__law_errors.nd rfl (by first | exact Or.inl rfl | exact Or.inr rfl) (tr_call via_ref (ok__law_pick G) (hr.mono (by decide)) rfl G.g__law_pick G.F__law_pick.kp G.b__law_pick (takes_of rfl rfl rfl rfl) (tr_cons (tr_var 0) (tr_cons (tr_lst false (tr_cons tr_non (tr_cons tr_int (tr_cons (tr_tup tr_nil) (tr_cons (tr_op op_addU (snd_add false) (tr_var 3) (tr_tup (tr_cons tr_int tr_nil))) (tr_cons (tr_tup (tr_cons (tr_op op_addU (snd_add false) (tr_var 2) tr_int) (tr_cons tr_int tr_nil))) (tr_cons (tr_tup (tr_cons tr_int (tr_cons tr_int tr_nil))) (tr_cons (tr_tup (tr_cons tr_bl (tr_cons tr_int tr_nil))) (tr_cons (tr_tup (tr_cons (tr_op op_sub snd_sub tr_int tr_int) (tr_cons tr_int tr_nil))) tr_nil))))))))) tr_nil))))
    (ts_lamsB G.ln (ts_cons (ts_set 8 sc__law_errors.nd rfl (by first | exact Or.inl rfl | exact Or.inr rfl) (tr_lst true (tr_cons (tr_tupL (tr_cons (tr_lam0 0 rfl G.lx G.lB__law_errors (hc.symm.trans G.lc__law_errors) G.lm__law_errors G.lo__law_errors (LamX.lamS_by (by kernel_rfl))) (tr_cons (tr_tup (tr_cons tr_str (tr_cons (tr_op op_sub snd_sub tr_int tr_int) tr_nil))) tr_nil))) tr_nil)))
    (ts_cons (ts_expr (tr_bml rfl PySem.F.slot_list_append PySem.F.type_list_append mt_append snd_append (tr_var 8) (tr_cons (tr_tupL (tr_cons (tr_lam0 1 rfl G.lx G.lB__law_errors (hc.symm.trans G.lc__law_errors) G.lm__law_errors G.lo__law_errors (LamX.lamS_by (by kernel_rfl))) (tr_cons (tr_tup (tr_cons tr_str (tr_cons tr_str tr_nil))) tr_nil))) tr_nil)))
    (ts_cons (ts_expr (tr_bml rfl PySem.F.slot_list_append PySem.F.type_list_append mt_append snd_append (tr_var 8) (tr_cons (tr_tupL (tr_cons (tr_lam0 2 rfl G.lx G.lB__law_errors (hc.symm.trans G.lc__law_errors) G.lm__law_errors G.lo__law_errors (LamX.lamS_by (by kernel_rfl))) (tr_cons (tr_tup (tr_cons tr_str (tr_cons tr_str tr_nil))) tr_nil))) tr_nil)))
    (ts_cons (ts_expr (tr_bml rfl PySem.F.slot_list_append PySem.F.type_list_append mt_append snd_append (tr_var 8) (tr_cons (tr_tupL (tr_cons (tr_lam0 3 rfl G.lx G.lB__law_errors (hc.symm.trans G.lc__law_errors) G.lm__law_errors G.lo__law_errors (LamX.lamS_by (by kernel_rfl))) (tr_cons (tr_tup (tr_cons tr_str (tr_cons (tr_op op_sub snd_sub tr_int tr_int) tr_nil))) tr_nil))) tr_nil)))
    (ts_cons (ts_expr (tr_bml rfl PySem.F.slot_list_append PySem.F.type_list_append mt_append snd_append (tr_var 8) (tr_cons (tr_tupL (tr_cons (tr_lam0 4 rfl G.lx G.lB__law_errors (hc.symm.trans G.lc__law_errors) G.lm__law_errors G.lo__law_errors (LamX.lamS_by (by kernel_rfl))) (tr_cons (tr_tup (tr_cons tr_str (tr_cons (tr_op op_sub snd_sub tr_int tr_int) tr_nil))) tr_nil))) tr_nil)))
    (ts_cons (ts_expr (tr_bml rfl PySem.F.slot_list_append PySem.F.type_list_append mt_append snd_append (tr_var 8) (tr_cons (tr_tupL (tr_cons (tr_lam0 5 rfl G.lx G.lB__law_errors (hc.symm.trans G.lc__law_errors) G.lm__law_errors G.lo__law_errors (LamX.lamS_by (by kernel_rfl))) (tr_cons (tr_tup (tr_cons tr_str (tr_cons (tr_op op_sub snd_sub tr_int tr_int) tr_nil))) tr_nil))) tr_nil)))
    (ts_cons (ts_expr (tr_bml rfl PySem.F.slot_list_append PySem.F.type_list_append mt_append snd_append (tr_var 8) (tr_cons (tr_tupL (tr_cons (tr_lam0 6 rfl G.lx G.lB__law_errors (hc.symm.trans G.lc__law_errors) G.lm__law_errors G.lo__law_errors (LamX.lamS_by (by kernel_rfl))) (tr_cons (tr_tup (tr_cons tr_str (tr_cons (tr_op op_sub snd_sub tr_int tr_int) tr_nil))) tr_nil))) tr_nil)))
    (ts_one (ts_ret (tr_cmpR (op_eqD (hu1 hr)) snd_eq (tr_lcW [("work", 9), ("due", 10)] rfl sc__law_errors.nd G.lx (fun σ ρ => (ti_of rfl (tr_var 8))) (blk_mk (by kernel_rfl)) (fun σ ρ _ _ _ _ _ => (tg_w2 9 10 rfl rfl sc__law_errors.nd rfl rfl (by first | exact Or.inl rfl | exact Or.inr rfl) (by first | exact Or.inl rfl | exact Or.inr rfl))) (fun σ ρ s H C cl fp mk => (tts_one (tt_cmpR (op_neD (hu1 hr)) snd_ne (tr_lcallBL (T := T) (mg := mg) (base := base) (k := 4) (i := 0) (a := "work") b__law_refused (fun ls σ ρ hl cdv A outer s H E hr hole => ok__law_refused (G.toEnvC.toL ls σ ρ) hl cdv A outer s H E hr hole) rfl rfl rfl rfl rfl mk G.F__law_refused sc__law_refused rfl rfl G.lx (.cons ⟨_, _, _, rfl, LamX.lamS_by (by kernel_rfl), (by intros; rfl), fun A outer s H E f c hr => (tr_call via_ref (fnG_lam G.ln (ok_spoilt_text G)) (hr.mono (by decide)) rfl G.g_spoilt_text G.F_spoilt_text.kp G.b_spoilt_text (takes_of rfl rfl rfl rfl) (tr_cons (tr_var 6) (tr_cons (tr_var 5) (tr_cons tr_non (tr_cons (tr_var 5) tr_nil)))))⟩ (.cons ⟨_, _, _, rfl, LamX.lamS_by (by kernel_rfl), (by intros; rfl), fun A outer s H E f c hr => (tr_call via_ref (fnG_lam G.ln (ok_spoilt_text G)) (hr.mono (by decide)) rfl G.g_spoilt_text G.F_spoilt_text.kp G.b_spoilt_text (takes_of rfl rfl rfl rfl) (tr_cons (tr_var 1) (tr_cons (tr_var 5) (tr_cons tr_non (tr_cons (tr_var 5) tr_nil)))))⟩ (.cons ⟨_, _, _, rfl, LamX.lamS_by (by kernel_rfl), (by intros; rfl), fun A outer s H E f c hr => (tr_call via_ref (fnG_lam G.ln (ok_spoilt_text G)) (hr.mono (by decide)) rfl G.g_spoilt_text G.F_spoilt_text.kp G.b_spoilt_text (takes_of rfl rfl rfl rfl) (tr_cons (tr_var 1) (tr_cons (tr_var 2) (tr_cons (tr_var 7) (tr_cons (tr_var 5) tr_nil)))))⟩ (.cons ⟨_, _, _, rfl, LamX.lamS_by (by kernel_rfl), (by intros; rfl), fun A outer s H E f c hr => (tr_call via_ref (fnG_lam G.ln (ok_spoilt_text G)) (hr.mono (by decide)) rfl G.g_spoilt_text G.F_spoilt_text.kp G.b_spoilt_text (takes_of rfl rfl rfl rfl) (tr_cons (tr_var 1) (tr_cons (tr_op op_fdivN snd_div (tr_callB call_len snd_len rfl G.z_len boot_len (tr_cons (tr_var 1) tr_nil)) tr_int) (tr_cons (tr_var 7) (tr_cons (tr_var 4) tr_nil)))))⟩ (.cons ⟨_, _, _, rfl, LamX.lamS_by (by kernel_rfl), (by intros; rfl), fun A outer s H E f c hr => (tr_call via_ref (fnG_lam G.ln (ok_spoilt_text G)) (hr.mono (by decide)) rfl G.g_spoilt_text G.F_spoilt_text.kp G.b_spoilt_text (takes_of rfl rfl rfl rfl) (tr_cons (tr_op op_addU (snd_add false) (tr_var 1) (tr_sl01 false rfl (tr_var 1) tr_int)) (tr_cons (tr_var 2) (tr_cons (tr_var 7) (tr_cons (tr_var 4) tr_nil)))))⟩ (.cons ⟨_, _, _, rfl, LamX.lamS_by (by kernel_rfl), (by intros; rfl), fun A outer s H E f c hr => (tr_call via_ref (fnG_lam G.ln (ok_spoilt_text G)) (hr.mono (by decide)) rfl G.g_spoilt_text G.F_spoilt_text.kp G.b_spoilt_text (takes_of rfl rfl rfl rfl) (tr_cons (tr_var 1) (tr_cons (tr_var 2) (tr_cons (tr_var 7) (tr_cons (tr_var 4) tr_nil)))))⟩ (.cons ⟨_, _, _, rfl, LamX.lamS_by (by kernel_rfl), (by intros; rfl), fun A outer s H E f c hr => (tr_call via_ref (fnG_lam G.ln (ok_spoilt_text G)) (hr.mono (by decide)) rfl G.g_spoilt_text G.F_spoilt_text.kp G.b_spoilt_text (takes_of rfl rfl rfl rfl) (tr_cons (tr_var 1) (tr_cons (tr_var 2) (tr_cons (tr_var 3) (tr_cons (tr_op op_addU (snd_add false) (tr_op op_addU (snd_add false) (tr_callB call_len snd_len rfl G.z_len boot_len (tr_cons (tr_var 1) tr_nil)) (tr_var 2)) tr_int) tr_nil)))))⟩ .nil))))))) (hr.mono (by decide)) rfl G.g__law_refused G.F__law_refused.kp G.b__law_refused takes0 rfl (by first | exact Or.inl rfl | exact Or.inr (Or.inl rfl) | exact Or.inr (Or.inr rfl)) (tr_cons (tr_var 9) tr_nil)) (tr_var 10) (by rfl))))) (tr_lst false tr_nil) (by rfl)))))))))))))))
theorem ok_law (G : Env P w mg T base) : FnG P w T.K mg base 9 G.a_law G.fd_law ["script"] (spF T 1 m_law) :=
  fn_ok (k := 8) (b := b_law) G.F_law sc_law rfl rfl fun cdv A outer s H E hr => (ts_cons (ts_set 1 sc_law.nd rfl (by first | exact Or.inl rfl | exact Or.inr rfl) (tr_call via_pure (ok_spoilt_text G) (hr.mono (by decide)) rfl G.g_spoilt_text G.F_spoilt_text.kp G.b_spoilt_text (takes_of rfl rfl rfl rfl) (tr_cons tr_str (tr_cons tr_int (tr_cons (tr_tup (tr_cons tr_int (tr_cons tr_int tr_nil))) (tr_cons tr_int tr_nil))))))
    (ts_cons (ts_if (PW.pt (tt_or (tt_cmpR (op_neD (hu1 hr)) snd_ne (tr_var 1) tr_str (by rfl)) (tt_or1 (tt_cmpR (op_neD (hu1 hr)) snd_ne (tr_call via_pure (ok_found_looks G) (hr.mono (by decide)) rfl G.g_found_looks G.F_found_looks.kp G.b_found_looks (takes_of rfl rfl rfl rfl) (tr_cons tr_str (tr_cons (tr_call via_pure (ok_spoilt_text G) (hr.mono (by decide)) rfl G.g_spoilt_text G.F_spoilt_text.kp G.b_spoilt_text (takes_of rfl rfl rfl rfl) (tr_cons tr_str (tr_cons tr_int (tr_cons (tr_tup (tr_cons tr_int (tr_cons tr_int tr_nil))) (tr_cons tr_int tr_nil))))) (tr_cons tr_int tr_nil)))) (tr_tup (tr_cons (tr_tup (tr_cons tr_int (tr_cons tr_int tr_nil))) tr_nil)) (by rfl))))) (ts_one (ts_ret tr_bl)) ts_nil)
    (ts_cons (ts_for (vs := [2]) (passes_of rfl) rfl (ti_range1 rfl G.z_range (tr_cons tr_int tr_nil)) (tg_name 2 sc_law.nd rfl (by first | exact Or.inl rfl | exact Or.inr rfl)) (ts_cons (ts_set 3 sc_law.nd rfl (by first | exact Or.inl rfl | exact Or.inr rfl) (tr_call via_ref (ok__law_box G) (hr.mono (by decide)) rfl G.g__law_box G.F__law_box.kp G.b__law_box (takes_of rfl rfl rfl rfl) (tr_cons (tr_var 0) (tr_cons (tr_var 2) tr_nil))))
    (ts_cons (ts_set 4 sc_law.nd rfl (by first | exact Or.inl rfl | exact Or.inr rfl) (tr_call via_ref (ok__law_take G) (hr.mono (by decide)) rfl G.g__law_take G.F__law_take.kp G.b__law_take (takes_of rfl rfl rfl rfl) (tr_cons (tr_var 3) (tr_cons tr_int tr_nil))))
    (ts_cons (ts_set 5 sc_law.nd rfl (by first | exact Or.inl rfl | exact Or.inr rfl) (tr_bms rfl PySem.F.plainAttrs_str PySem.F.slot_str_join PySem.F.type_str_join mt_join snd_join tr_str (tr_cons (tr_sl01 false rfl (tr_call via_ref (ok__law_mixed G) (hr.mono (by decide)) rfl G.g__law_mixed G.F__law_mixed.kp G.b__law_mixed (takes_of rfl rfl rfl rfl) (tr_cons (tr_var 3) (tr_cons tr_str tr_nil))) (tr_op op_addU (snd_add false) (tr_op op_mulU (snd_mul false) tr_int (tr_op op_addU (snd_add false) (tr_var 4) tr_int)) (tr_call via_ref (ok__law_take G) (hr.mono (by decide)) rfl G.g__law_take G.F__law_take.kp G.b__law_take (takes_of rfl rfl rfl rfl) (tr_cons (tr_var 3) (tr_cons tr_int tr_nil))))) tr_nil)))
    (ts_cons (ts_set 6 sc_law.nd rfl (by first | exact Or.inl rfl | exact Or.inr rfl) (tr_op op_sub snd_sub (tr_op op_addU (snd_add false) (tr_callB call_len snd_len rfl G.z_len boot_len (tr_cons (tr_var 5) tr_nil)) (tr_call via_ref (ok__law_take G) (hr.mono (by decide)) rfl G.g__law_take G.F__law_take.kp G.b__law_take (takes_of rfl rfl rfl rfl) (tr_cons (tr_var 3) (tr_cons (tr_op op_addU (snd_add false) (tr_op op_mulU (snd_mul false) tr_int (tr_var 4)) tr_int) tr_nil)))) (tr_var 4)))
    (ts_cons (ts_set 7 sc_law.nd rfl (by first | exact Or.inl rfl | exact Or.inr rfl) (tr_call via_pure (ok__law_looks G) (hr.mono (by decide)) rfl G.g__law_looks G.F__law_looks.kp G.b__law_looks (takes_of rfl rfl rfl rfl) (tr_cons (tr_callB call_len snd_len rfl G.z_len boot_len (tr_cons (tr_var 5) tr_nil)) (tr_cons (tr_var 4) (tr_cons (tr_var 6) tr_nil)))))
    (ts_cons (ts_for (vs := [8]) (passes_of rfl) rfl (ti_of rfl (tr_sl01 false rfl (tr_call via_ref (ok__law_mixed G) (hr.mono (by decide)) rfl G.g__law_mixed G.F__law_mixed.kp G.b__law_mixed (takes_of rfl rfl rfl rfl) (tr_cons (tr_var 3) (tr_cons (tr_var 7) tr_nil))) tr_int)) (tg_name 8 sc_law.nd rfl (by first | exact Or.inl rfl | exact Or.inr rfl)) (ts_cons (ts_set 9 sc_law.nd rfl (by first | exact Or.inl rfl | exact Or.inr rfl) (tr_callTy call_list_of (snd_list false) rfl G.z_list PyProof.Rows.boot_list (tr_cons (tr_var 8) tr_nil)))
    (ts_cons (ts_set 1 sc_law.nd rfl (by first | exact Or.inl rfl | exact Or.inr rfl) (tr_callK ["near", "text", "other", "look"] [1, 0, 3, 2] via_pure (ok_spoilt_text G) (hr.mono (by decide)) rfl G.g_spoilt_text G.F_spoilt_text.kp G.bk_spoilt_text_1032 (takes_of rfl rfl rfl rfl) rfl (tk_cons (tr_var 4) (tk_cons (tr_var 5) (tk_cons (tr_var 6) (tk_cons (tr_var 9) tk_nil))))))
    (ts_cons (ts_if (PW.pt (tt_or (tt_not (tt_tru rfl (tr_call via_pure (ok__law_is_text G) (hr.mono (by decide)) rfl G.g__law_is_text G.F__law_is_text.kp G.b__law_is_text (takes_of rfl rfl rfl rfl) (tr_cons (tr_var 1) tr_nil)))) (tt_or (tt_cmpR (op_neD (hu1 hr)) snd_ne (tr_callB call_len snd_len rfl G.z_len boot_len (tr_cons (tr_var 1) tr_nil)) (tr_var 6) (by rfl)) (tt_or (tt_cmpR op_gtU snd_gt (tr_call via_pure (ok__law_edits G) (hr.mono (by decide)) rfl G.g__law_edits G.F__law_edits.kp G.b__law_edits (takes_of rfl rfl rfl rfl) (tr_cons (tr_var 5) (tr_cons (tr_var 1) tr_nil))) (tr_var 4) (by rfl)) (tt_or1 (tt_cmpR (op_neD (hu1 hr)) snd_ne (tr_var 9) (tr_callTy call_list_of (snd_list false) rfl G.z_list PyProof.Rows.boot_list (tr_cons (tr_var 8) tr_nil)) (by rfl))))))) (ts_one (ts_ret tr_bl)) ts_nil)
    (ts_one (ts_if (PW.pt (tt_or (tt_cmpR (op_neD (hu1 hr)) snd_ne (tr_call via_pure (ok__law_found G) (hr.mono (by decide)) rfl G.g__law_found G.F__law_found.kp G.b__law_found (takes_of rfl rfl rfl rfl) (tr_cons (tr_var 5) (tr_cons (tr_var 1) (tr_cons (tr_var 4) tr_nil)))) (tr_lst false (tr_cons (tr_var 8) tr_nil)) (by rfl)) (tt_or1 (tt_cmpR (op_neD (hu1 hr)) snd_ne (tr_call via_pure (ok_found_looks G) (hr.mono (by decide)) rfl G.g_found_looks G.F_found_looks.kp G.b_found_looks (takes_of rfl rfl rfl rfl) (tr_cons (tr_var 5) (tr_cons (tr_var 1) (tr_cons (tr_var 4) tr_nil)))) (tr_tup (tr_cons (tr_var 8) tr_nil)) (by rfl))))) (ts_one (ts_ret tr_bl)) ts_nil))))))
    (ts_one (ts_if (tt_not (tt_tru rfl (tr_call via_ref (ok__law_errors G) (hr.mono (by decide)) rfl G.g__law_errors G.F__law_errors.kp G.b__law_errors (takes_of rfl rfl rfl rfl) (tr_cons (tr_var 3) (tr_cons (tr_var 5) (tr_cons (tr_var 4) (tr_cons (tr_ix rfl (tr_var 7) tr_int) (tr_cons (tr_var 6) tr_nil)))))))) (ts_one (ts_ret tr_bl)) ts_nil)))))))))
    (ts_one (ts_ret tr_bl)))))
end
end Lw
namespace Lw
open PySem PySem.Spec PyProof.Rows L2 Pev
theorem es_0 : ErrSt si_0 "InvalidText.__init__" "at" where
  body := ⟨"no such text", [⟨7, 8, 7, 13⟩, ⟨7, 8, 7, 15⟩, ⟨7, 8, 7, 24⟩, ⟨7, 25, 7, 39⟩, ⟨7, 8, 7, 40⟩, ⟨7, 8, 7, 40⟩, ⟨8, 8, 8, 12⟩, ⟨8, 8, 8, 15⟩, ⟨8, 18, 8, 20⟩, ⟨8, 8, 8, 20⟩], rfl, fun _ => ⟨_, rfl⟩⟩
  kind := rfl
  co := rfl
  gen := rfl
  nocell := by decide +kernel
  slf := by decide +kernel
  sup := by decide +kernel
  cls := by decide +kernel
  hd := ⟨_, rfl, rfl⟩
  bind := fun _ _ _ _ _ _ _ _ _ => rfl
  bindK := fun _ _ _ _ _ _ _ _ _ => rfl
  fld := by decide +kernel
  ne := by decide +kernel
  nd := by decide +kernel
theorem es_1 : ErrSt si_1 "InvalidIndex.__init__" "at" where
  body := ⟨"no such number", [⟨12, 8, 12, 13⟩, ⟨12, 8, 12, 15⟩, ⟨12, 8, 12, 24⟩, ⟨12, 25, 12, 41⟩, ⟨12, 8, 12, 42⟩, ⟨12, 8, 12, 42⟩, ⟨13, 8, 13, 12⟩, ⟨13, 8, 13, 15⟩, ⟨13, 18, 13, 20⟩, ⟨13, 8, 13, 20⟩], rfl, fun _ => ⟨_, rfl⟩⟩
  kind := rfl
  co := rfl
  gen := rfl
  nocell := by decide +kernel
  slf := by decide +kernel
  sup := by decide +kernel
  cls := by decide +kernel
  hd := ⟨_, rfl, rfl⟩
  bind := fun _ _ _ _ _ _ _ _ _ => rfl
  bindK := fun _ _ _ _ _ _ _ _ _ => rfl
  fld := by decide +kernel
  ne := by decide +kernel
  nd := by decide +kernel
theorem es_2 : ErrSt si_2 "Refused.__init__" "at" where
  body := ⟨"refused", [⟨17, 8, 17, 13⟩, ⟨17, 8, 17, 15⟩, ⟨17, 8, 17, 24⟩, ⟨17, 25, 17, 34⟩, ⟨17, 8, 17, 35⟩, ⟨17, 8, 17, 35⟩, ⟨18, 8, 18, 12⟩, ⟨18, 8, 18, 15⟩, ⟨18, 18, 18, 20⟩, ⟨18, 8, 18, 20⟩], rfl, fun _ => ⟨_, rfl⟩⟩
  kind := rfl
  co := rfl
  gen := rfl
  nocell := by decide +kernel
  slf := by decide +kernel
  sup := by decide +kernel
  cls := by decide +kernel
  hd := ⟨_, rfl, rfl⟩
  bind := fun _ _ _ _ _ _ _ _ _ => rfl
  bindK := fun _ _ _ _ _ _ _ _ _ => rfl
  fld := by decide +kernel
  ne := by decide +kernel
  nd := by decide +kernel
theorem es_3 : ErrSt si_3 "InvalidSize.__init__" "word" where
  body := ⟨"no such size", [⟨22, 8, 22, 13⟩, ⟨22, 8, 22, 15⟩, ⟨22, 8, 22, 24⟩, ⟨22, 25, 22, 39⟩, ⟨22, 8, 22, 40⟩, ⟨22, 8, 22, 40⟩, ⟨23, 8, 23, 12⟩, ⟨23, 8, 23, 17⟩, ⟨23, 20, 23, 24⟩, ⟨23, 8, 23, 24⟩], rfl, fun _ => ⟨_, rfl⟩⟩
  kind := rfl
  co := rfl
  gen := rfl
  nocell := by decide +kernel
  slf := by decide +kernel
  sup := by decide +kernel
  cls := by decide +kernel
  hd := ⟨_, rfl, rfl⟩
  bind := fun _ _ _ _ _ _ _ _ _ => rfl
  bindK := fun _ _ _ _ _ _ _ _ _ => rfl
  fld := by decide +kernel
  ne := by decide +kernel
  nd := by decide +kernel
theorem facts {w : World} {K : PySem.W.Frag} {h : Heap} {mg : Str → Option Value} {a : Addr} (X : K.In h) (G : h.Ns mainGlobals mg) (hfa : mg ("law" : Str) = some (.ref a)) (c : SaysP PySem.Challenge.pw_whoiswho_k20_whole_looks_none_of_which_c faL tpL fnL esL tsL w K) (lc : LamsAt h K lmL) :
    ∃ (fd : FuncData) (cs : List (Addr × Addr)) (tabs : List (Addr × Str)), (∀ p ∈ cs, PySem.W.CodeHd h p.1 p.2) ∧ (∀ p ∈ cs, h.get? p.2 = some { cls := .none, data := .fields #[] }) ∧ (∀ p ∈ cs, K.lookup p.2 = none) ∧ (∀ t ∈ tabs, t.1 ∈ cs.map (·.2)) ∧ (∀ (s : Shared) (v : Value), BindsTo s fd ⟨[v], []⟩ [("script", v)]) ∧ ∀ base : Heap, K.In base → base.Ns mainGlobals mg → (∀ p ∈ cs, LamX.TabB base mg p.1 p.2) → FnG PySem.Challenge.pw_whoiswho_k20_whole_looks_none_of_which_c w K mg base 9 a fd ["script"] (spLaw K tabs) := by
  have e := hfa.symm.trans (He.glo_ok X G (c.fact 23 (f := .glo "law") rfl))
  cases e
  obtain ⟨fd_is_string, F_is_string⟩ := c.fun_ 0 (x := "is_string") (st := s_is_string) rfl
  obtain ⟨fd_is_text, F_is_text⟩ := c.fun_ 1 (x := "is_text") (st := s_is_text) rfl
  obtain ⟨fd_is_integer, F_is_integer⟩ := c.fun_ 2 (x := "is_integer") (st := s_is_integer) rfl
  obtain ⟨fd_need_many, F0_need_many⟩ := c.def_ 3 (d := df_need_many) rfl
  have F_need_many : FunD K "need_many" "need_many" (defArgs s_need_many) (defBody s_need_many) (defScope s_need_many) [.int 0] [] (He.ga K "need_many") fd_need_many := F0_need_many
  obtain ⟨fd_places_of, F_places_of⟩ := c.fun_ 4 (x := "places_of") (st := s_places_of) rfl
  obtain ⟨fd_looks_of, F_looks_of⟩ := c.fun_ 5 (x := "looks_of") (st := s_looks_of) rfl
  obtain ⟨fd_found_looks, F_found_looks⟩ := c.fun_ 6 (x := "found_looks") (st := s_found_looks) rfl
  obtain ⟨fd_is_number, F_is_number⟩ := c.fun_ 7 (x := "is_number") (st := s_is_number) rfl
  obtain ⟨fd_is_sequence, F_is_sequence⟩ := c.fun_ 8 (x := "is_sequence") (st := s_is_sequence) rfl
  obtain ⟨fd_is_pair, F_is_pair⟩ := c.fun_ 9 (x := "is_pair") (st := s_is_pair) rfl
  obtain ⟨fd_are_unlike, F_are_unlike⟩ := c.fun_ 10 (x := "are_unlike") (st := s_are_unlike) rfl
  obtain ⟨fd_spoilt_piece, F_spoilt_piece⟩ := c.fun_ 11 (x := "spoilt_piece") (st := s_spoilt_piece) rfl
  obtain ⟨fd_spoilt_text, F_spoilt_text⟩ := c.fun_ 12 (x := "spoilt_text") (st := s_spoilt_text) rfl
  obtain ⟨fd__law_box, F__law_box⟩ := c.fun_ 13 (x := "_law_box") (st := s__law_box) rfl
  obtain ⟨fd__law_take, F__law_take⟩ := c.fun_ 14 (x := "_law_take") (st := s__law_take) rfl
  obtain ⟨fd__law_mixed, F__law_mixed⟩ := c.fun_ 15 (x := "_law_mixed") (st := s__law_mixed) rfl
  obtain ⟨fd__law_edits, F__law_edits⟩ := c.fun_ 16 (x := "_law_edits") (st := s__law_edits) rfl
  obtain ⟨fd__law_looks, F__law_looks⟩ := c.fun_ 17 (x := "_law_looks") (st := s__law_looks) rfl
  obtain ⟨fd__law_found, F__law_found⟩ := c.fun_ 18 (x := "_law_found") (st := s__law_found) rfl
  obtain ⟨fd__law_is_text, F__law_is_text⟩ := c.fun_ 19 (x := "_law_is_text") (st := s__law_is_text) rfl
  obtain ⟨fd__law_pick, F__law_pick⟩ := c.fun_ 20 (x := "_law_pick") (st := s__law_pick) rfl
  obtain ⟨fd__law_refused, F__law_refused⟩ := c.fun_ 21 (x := "_law_refused") (st := s__law_refused) rfl
  obtain ⟨fd__law_errors, F__law_errors⟩ := c.fun_ 22 (x := "_law_errors") (st := s__law_errors) rfl
  obtain ⟨fd_law, F_law⟩ := c.fun_ 23 (x := "law") (st := s_law) rfl
  obtain ⟨ds_need_many_0, dv_need_many_0, bd_need_many_0⟩ := F_need_many.binds1 (ps := ["value", "word", "least"]) 3 1 (by simp) rfl fun _ _ _ _ _ _ _ us its hu hi => match us, its, hu, hi with | [_, _, _], [_], _, _ => ⟨_, rfl, rfl⟩
  cases dv_need_many_0
  obtain ⟨ds_need_many_1, dv_need_many_1, bd_need_many_1⟩ := F_need_many.binds1 (ps := ["value", "word", "least"]) 2 0 (by simp) rfl fun _ _ _ _ _ _ _ us its hu hi => match us, its, hu, hi with | [_, _], [_], _, _ => ⟨_, rfl, rfl⟩
  obtain ⟨t_SIGNS, v_SIGNS⟩ := He.str_ok X G (c.fact 38 (f := .str "SIGNS" "0123456789abcdefghijklmnopqrstuvwxyzABCDEFGHIJKLMNOPQRSTUVWXYZ") rfl)
  obtain ⟨x0, x1, x2, x3, x4, x5, x6, x7⟩ := c.ext rfl
  have su := He.free_ok X G (c.fact 37 (f := .free "super") rfl)
  have tp : (PySem.Challenge.pw_whoiswho_k20_whole_looks_none_of_which_c.main.scope.names.lookup ("super" : Str)).isSome = false := by decide +kernel
  have y0 := x7 ed_0 (List.mem_of_getElem? (i := 0) rfl)
  have y1 := x7 ed_1 (List.mem_of_getElem? (i := 1) rfl)
  have y2 := x7 ed_2 (List.mem_of_getElem? (i := 2) rfl)
  have y3 := x7 ed_3 (List.mem_of_getElem? (i := 3) rfl)
  obtain ⟨cs, q1, q2, q3, nd, q5⟩ := lc.all
  refine ⟨fd_law, cs, tabsOf cs lmL, q1, q2, q3, tabsOf_in, fun s v => by
    obtain ⟨_, _, _, _, _, _, _, _, _, z, _⟩ := F_law.ex
    subst z
    exact .of_eq rfl, fun base _ _ tB => ?_⟩
  obtain ⟨p__law_errors, i__law_errors, k__law_errors⟩ := q5 0 "_law_errors" rfl
  let E : Env PySem.Challenge.pw_whoiswho_k20_whole_looks_none_of_which_c w mg ({ tbOf K (esL.map (clA K)) ["at", "at", "at", "word"] with tabs := tabsOf cs lmL }) base := {
    cu := rfl
    le__law_errors := _
    lP__law_errors := _
    lc__law_errors := codeOf_fun F__law_errors k__law_errors
    lB__law_errors := tB _ (List.mem_of_getElem? i__law_errors)
    lm__law_errors := tabsOf_at2 (i := 0) rfl i__law_errors (by rfl)
    lo__law_errors := tabsOf_one2 nd (i := 0) rfl i__law_errors (by rfl)
    z_abs := He.free_ok X G (c.fact 24 (f := .free "abs") rfl)
    z_all := He.free_ok X G (c.fact 25 (f := .free "all") rfl)
    z_bool := He.free_ok X G (c.fact 26 (f := .free "bool") rfl)
    z_enumerate := He.free_ok X G (c.fact 27 (f := .free "enumerate") rfl)
    z_int := He.free_ok X G (c.fact 28 (f := .free "int") rfl)
    z_isinstance := He.free_ok X G (c.fact 29 (f := .free "isinstance") rfl)
    z_len := He.free_ok X G (c.fact 30 (f := .free "len") rfl)
    z_list := He.free_ok X G (c.fact 31 (f := .free "list") rfl)
    z_max := He.free_ok X G (c.fact 32 (f := .free "max") rfl)
    z_min := He.free_ok X G (c.fact 33 (f := .free "min") rfl)
    z_range := He.free_ok X G (c.fact 34 (f := .free "range") rfl)
    z_str := He.free_ok X G (c.fact 35 (f := .free "str") rfl)
    z_tuple := He.free_ok X G (c.fact 36 (f := .free "tuple") rfl)
    t_SIGNS := t_SIGNS
    c_SIGNS := v_SIGNS
    a_is_string := _
    fd_is_string := _
    F_is_string := F_is_string
    g_is_string := He.glo_ok X G (c.fact 0 (f := .glo "is_string") rfl)
    b_is_string := F_is_string.binds (ps := ["value"]) fun _ _ _ _ _ _ us hl => match us, hl with | [_], _ => rfl
    a_is_text := _
    fd_is_text := _
    F_is_text := F_is_text
    g_is_text := He.glo_ok X G (c.fact 1 (f := .glo "is_text") rfl)
    b_is_text := F_is_text.binds (ps := ["value"]) fun _ _ _ _ _ _ us hl => match us, hl with | [_], _ => rfl
    a_is_integer := _
    fd_is_integer := _
    F_is_integer := F_is_integer
    g_is_integer := He.glo_ok X G (c.fact 2 (f := .glo "is_integer") rfl)
    b_is_integer := F_is_integer.binds (ps := ["value"]) fun _ _ _ _ _ _ us hl => match us, hl with | [_], _ => rfl
    a_need_many := _
    fd_need_many := _
    F_need_many := F_need_many
    g_need_many := He.glo_ok X G (c.fact 3 (f := .glo "need_many") rfl)
    b_need_many := bd_need_many_0
    a_places_of := _
    fd_places_of := _
    F_places_of := F_places_of
    g_places_of := He.glo_ok X G (c.fact 4 (f := .glo "places_of") rfl)
    b_places_of := F_places_of.binds (ps := ["length", "near"]) fun _ _ _ _ _ _ us hl => match us, hl with | [_, _], _ => rfl
    a_looks_of := _
    fd_looks_of := _
    F_looks_of := F_looks_of
    g_looks_of := He.glo_ok X G (c.fact 5 (f := .glo "looks_of") rfl)
    b_looks_of := F_looks_of.binds (ps := ["length", "near", "other"]) fun _ _ _ _ _ _ us hl => match us, hl with | [_, _, _], _ => rfl
    a_found_looks := _
    fd_found_looks := _
    F_found_looks := F_found_looks
    g_found_looks := He.glo_ok X G (c.fact 6 (f := .glo "found_looks") rfl)
    b_found_looks := F_found_looks.binds (ps := ["one", "other", "near"]) fun _ _ _ _ _ _ us hl => match us, hl with | [_, _, _], _ => rfl
    a_is_number := _
    fd_is_number := _
    F_is_number := F_is_number
    g_is_number := He.glo_ok X G (c.fact 7 (f := .glo "is_number") rfl)
    b_is_number := F_is_number.binds (ps := ["value"]) fun _ _ _ _ _ _ us hl => match us, hl with | [_], _ => rfl
    a_is_sequence := _
    fd_is_sequence := _
    F_is_sequence := F_is_sequence
    g_is_sequence := He.glo_ok X G (c.fact 8 (f := .glo "is_sequence") rfl)
    b_is_sequence := F_is_sequence.binds (ps := ["value"]) fun _ _ _ _ _ _ us hl => match us, hl with | [_], _ => rfl
    a_is_pair := _
    fd_is_pair := _
    F_is_pair := F_is_pair
    g_is_pair := He.glo_ok X G (c.fact 9 (f := .glo "is_pair") rfl)
    b_is_pair := F_is_pair.binds (ps := ["value"]) fun _ _ _ _ _ _ us hl => match us, hl with | [_], _ => rfl
    a_are_unlike := _
    fd_are_unlike := _
    F_are_unlike := F_are_unlike
    g_are_unlike := He.glo_ok X G (c.fact 10 (f := .glo "are_unlike") rfl)
    b_are_unlike := F_are_unlike.binds (ps := ["values"]) fun _ _ _ _ _ _ us hl => match us, hl with | [_], _ => rfl
    a_spoilt_piece := _
    fd_spoilt_piece := _
    F_spoilt_piece := F_spoilt_piece
    g_spoilt_piece := He.glo_ok X G (c.fact 11 (f := .glo "spoilt_piece") rfl)
    b_spoilt_piece := F_spoilt_piece.binds (ps := ["piece", "longer", "sign"]) fun _ _ _ _ _ _ us hl => match us, hl with | [_, _, _], _ => rfl
    a_spoilt_text := _
    fd_spoilt_text := _
    F_spoilt_text := F_spoilt_text
    g_spoilt_text := He.glo_ok X G (c.fact 12 (f := .glo "spoilt_text") rfl)
    b_spoilt_text := F_spoilt_text.binds (ps := ["text", "near", "look", "other"]) fun _ _ _ _ _ _ us hl => match us, hl with | [_, _, _, _], _ => rfl
    a__law_box := _
    fd__law_box := _
    F__law_box := F__law_box
    g__law_box := He.glo_ok X G (c.fact 13 (f := .glo "_law_box") rfl)
    b__law_box := F__law_box.binds (ps := ["script", "k"]) fun _ _ _ _ _ _ us hl => match us, hl with | [_, _], _ => rfl
    a__law_take := _
    fd__law_take := _
    F__law_take := F__law_take
    g__law_take := He.glo_ok X G (c.fact 14 (f := .glo "_law_take") rfl)
    b__law_take := F__law_take.binds (ps := ["box", "many"]) fun _ _ _ _ _ _ us hl => match us, hl with | [_, _], _ => rfl
    a__law_mixed := _
    fd__law_mixed := _
    F__law_mixed := F__law_mixed
    g__law_mixed := He.glo_ok X G (c.fact 15 (f := .glo "_law_mixed") rfl)
    b__law_mixed := F__law_mixed.binds (ps := ["box", "some"]) fun _ _ _ _ _ _ us hl => match us, hl with | [_, _], _ => rfl
    a__law_edits := _
    fd__law_edits := _
    F__law_edits := F__law_edits
    g__law_edits := He.glo_ok X G (c.fact 16 (f := .glo "_law_edits") rfl)
    b__law_edits := F__law_edits.binds (ps := ["one", "other"]) fun _ _ _ _ _ _ us hl => match us, hl with | [_, _], _ => rfl
    a__law_looks := _
    fd__law_looks := _
    F__law_looks := F__law_looks
    g__law_looks := He.glo_ok X G (c.fact 17 (f := .glo "_law_looks") rfl)
    b__law_looks := F__law_looks.binds (ps := ["length", "near", "other"]) fun _ _ _ _ _ _ us hl => match us, hl with | [_, _, _], _ => rfl
    a__law_found := _
    fd__law_found := _
    F__law_found := F__law_found
    g__law_found := He.glo_ok X G (c.fact 18 (f := .glo "_law_found") rfl)
    b__law_found := F__law_found.binds (ps := ["one", "other", "near"]) fun _ _ _ _ _ _ us hl => match us, hl with | [_, _, _], _ => rfl
    a__law_is_text := _
    fd__law_is_text := _
    F__law_is_text := F__law_is_text
    g__law_is_text := He.glo_ok X G (c.fact 19 (f := .glo "_law_is_text") rfl)
    b__law_is_text := F__law_is_text.binds (ps := ["value"]) fun _ _ _ _ _ _ us hl => match us, hl with | [_], _ => rfl
    a__law_pick := _
    fd__law_pick := _
    F__law_pick := F__law_pick
    g__law_pick := He.glo_ok X G (c.fact 20 (f := .glo "_law_pick") rfl)
    b__law_pick := F__law_pick.binds (ps := ["box", "some"]) fun _ _ _ _ _ _ us hl => match us, hl with | [_, _], _ => rfl
    a__law_refused := _
    fd__law_refused := _
    F__law_refused := F__law_refused
    g__law_refused := He.glo_ok X G (c.fact 21 (f := .glo "_law_refused") rfl)
    b__law_refused := F__law_refused.binds (ps := ["work"]) fun _ _ _ _ _ _ us hl => match us, hl with | [_], _ => rfl
    a__law_errors := _
    fd__law_errors := _
    F__law_errors := F__law_errors
    g__law_errors := He.glo_ok X G (c.fact 22 (f := .glo "_law_errors") rfl)
    b__law_errors := F__law_errors.binds (ps := ["box", "text", "near", "look", "other"]) fun _ _ _ _ _ _ us hl => match us, hl with | [_, _, _, _, _], _ => rfl
    a_law := _
    fd_law := _
    F_law := F_law
    g_law := He.glo_ok X G (c.fact 23 (f := .glo "law") rfl)
    b_law := F_law.binds (ps := ["script"]) fun _ _ _ _ _ _ us hl => match us, hl with | [_], _ => rfl
    us_need_many_1 := ds_need_many_1
    bd_need_many_1 := bd_need_many_1
    dv_need_many_1 := dv_need_many_1
    bk_spoilt_text_1032 := Pev.Fun.bindsK F_spoilt_text fun _ _ _ _ _ _ us hl => match us, hl with | [_, _, _, _], _ => rfl
    eB := He.ga K "WhoError"
    ie := fun k => (esL.map (inA K)).getD k 0
    er := ⟨err_of (e := ed_0) es_0 rfl (c.val 0) y0 x0 tp mg su, err_of (e := ed_1) es_1 rfl (c.val 1) y1 x0 tp mg su, err_of (e := ed_2) es_2 rfl (c.val 2) y2 x0 tp mg su, err_of (e := ed_3) es_3 rfl (c.val 3) y3 x0 tp mg su, trivial⟩
    fl := rfl
    ge := ⟨PySem.W.mg_of X G (ErrD.glo y0), PySem.W.mg_of X G (ErrD.glo y1), PySem.W.mg_of X G (ErrD.glo y2), PySem.W.mg_of X G (ErrD.glo y3), trivial⟩
    nd := getD_nd x5
    nB := getD_ne x6
    ln := rfl
    lx := fun _ _ _ => trivial
  }
  exact law_fn (T := { tbOf K (esL.map (clA K)) ["at", "at", "at", "word"] with tabs := tabsOf cs lmL }) (ok_law E) law_true
end Lw
open PySem PySem.W PySem.Calls PyProof.Rows
set_option maxHeartbeats 0 in
theorem PySem.Challenge.cw_whoiswho_k20_whole_looks_none_of_which_c_holds : PySem.Challenge.rw_whoiswho_k20_whole_looks_none_of_which_c.Holds := by
  w_on; o_law
  refine HandSHeadRun.head_any (r := OpenLaw.row PySem.Challenge.rw_whoiswho_k20_whole_looks_none_of_which_c) (q := view (OpenLaw.row PySem.Challenge.rw_whoiswho_k20_whole_looks_none_of_which_c).prog [33]) (H := Lw.hkL) (ob := Lw.obL) (M := 40000) (loose := Lw.lsL) (d := HandSHeadRun.topDef (OpenLaw.row PySem.Challenge.rw_whoiswho_k20_whole_looks_none_of_which_c).prog 33) (kwd := []) Lw.obL_eq
    (by kernel_rfl) (fun s => by kernel_rfl) Lw.runL (by kernel_rfl) (by kernel_rfl) (by kernel_rfl) (by rfl) (by first | assumption | decide +kernel) (by decide +kernel) ⟨rfl, rfl, rfl, rfl, rfl, by decide +kernel⟩ ?hw ?hc
  case hw => w_witness2
  case hc =>
    refine Pev.walk_ofL (l := PySem.Challenge.rw_whoiswho_k20_whole_looks_none_of_which_c) (k := 9) (x := "script") rfl (by kernel_rfl) ⟨rfl, by decide, by decide⟩ ?F
    intro w mg fa h Y G hmg0
    obtain ⟨K, KX, c, lc⟩ := Y
    have hmg : mg ("law" : PySem.Str) = some (.ref fa) := by
      have e : (HandSHeadRun.topDef (OpenLaw.row PySem.Challenge.rw_whoiswho_k20_whole_looks_none_of_which_c).prog 33).name = ("law" : PySem.Str) := by kernel_rfl
      rw [← e]
      exact hmg0
    obtain ⟨fd, cs, tabs, u⟩ := Lw.facts (w := w) KX G hmg c lc
    exact ⟨K, fd, cs, tabs, KX, u⟩
